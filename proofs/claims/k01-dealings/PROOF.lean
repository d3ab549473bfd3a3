import PyProof.Rows.All
import Wide.All
import OpenK.AllK
import Wide.FinOn
import HandS.ForMost
import HandS.ForExc
import HandS.Wide
import HandS.IsInst
import HandS.Walk
import HandS.Style
import HandS.Flow
import HandS.SortInts
import HandS.Zip
import HandS.Evl
import HandS.Flt
import PySem.Challenge.RW_grainstore_k01_whole_dealings
set_option Elab.async false
set_option linter.all false
set_option maxRecDepth 100000
set_option maxHeartbeats 8000000
/-! Data held by the heap, and what expressions come to: EvD (some data), EvN (a new list). -/
namespace Gs
open PySem L2 Evl

/-! ### heaps -/
/-- G and what is new in H2 behind H1 -/
def gr (G H1 H2 : Hp) : Hp := fun a => match H1 a with
  | none => H2 a
  | some _ => G a
/-- G without a -/
def but (G : Hp) (p : Addr) : Hp := fun a => if a = p then none else G a
theorem gr_new {G H1 H2 : Hp} {a : Addr} (h : H1 a = none) : gr G H1 H2 a = H2 a := by unfold gr; rw [h]
theorem gr_old {G H1 H2 : Hp} {a : Addr} {o : HO} (h : H1 a = some o) : gr G H1 H2 a = G a := by unfold gr; rw [h]
theorem ex_gr {G H1 H2 : Hp} (g : Ex G H1) : Ex G (gr G H1 H2) := fun a o e => by
  rw [gr_old (g a o e)]; exact e
theorem gr_ex {G H1 H2 : Hp} (g : Ex G H1) (h : Ex H1 H2) : Ex (gr G H1 H2) H2 := fun a o e => by
  cases q : H1 a with
  | none => rw [gr_new q] at e; exact e
  | some u => rw [gr_old q] at e; exact h a o (g a o e)
theorem gr_gr {G H1 H2 H3 : Hp} (h12 : Ex H1 H2) (h23 : Ex H2 H3) : gr (gr G H1 H2) H2 H3 = gr G H1 H3 := by
  funext a
  cases q : H1 a with
  | none =>
    rw [gr_new q]
    cases r : H2 a with
    | none => rw [gr_new r]
    | some o => rw [gr_old r, gr_new q, r]; exact (h23 a o r).symm
  | some o => rw [gr_old q, gr_old (h12 a o q), gr_old q]
theorem gr_self {G H : Hp} (g : Ex G H) : gr G H H = G := by
  funext a
  cases q : H a with
  | none =>
    rw [gr_new q, q]
    cases r : G a with
    | none => rfl
    | some o => rw [g a o r] at q; cases q
  | some o => rw [gr_old q]
/-- a wider G, the same new things -/
theorem gr_mono {G G' H1 H2 : Hp} (g : Ex G G') (g' : Ex G' H1) : Ex (gr G H1 H2) (gr G' H1 H2) := fun a o e => by
  cases q : H1 a with
  | none => rw [gr_new q] at e ⊢; exact e
  | some u => rw [gr_old q] at e ⊢; exact g a o e
/-- later heap -/
theorem gr_later {G H1 H2 H3 : Hp} (g : Ex G H1) (h12 : Ex H1 H2) (h23 : Ex H2 H3) : Ex (gr G H1 H2) (gr G H1 H3) := fun a o e => by
  cases q : H1 a with
  | none => rw [gr_new q] at e ⊢; exact h23 a o e
  | some u => rw [gr_old q] at e ⊢; exact e
/-- the start one step earlier -/
theorem gr_back {G H0 H1 H2 : Hp} (h01 : Ex H0 H1) : Ex (gr G H1 H2) (gr G H0 H2) ∨ True := .inr trivial
theorem but_ex {G : Hp} {p : Addr} : Ex (but G p) G := fun a o e => by
  unfold but at e
  split at e
  · cases e
  · exact e
theorem but_self {G : Hp} {p : Addr} : but G p p = none := by unfold but; rw [if_pos rfl]
theorem but_ne {G : Hp} {p a : Addr} (h : a ≠ p) : but G p a = G a := by unfold but; rw [if_neg h]
theorem ex_but {G G' : Hp} {p : Addr} (g : Ex G G') (h : G p = none) : Ex G (but G' p) := fun a o e => by
  have : a ≠ p := fun z => by rw [z, h] at e; cases e
  rw [but_ne this]; exact g a o e
theorem but_mono {G G' : Hp} {p : Addr} (g : Ex G G') : Ex (but G p) (but G' p) := ex_but (but_ex.trans g) but_self
theorem but_upd {G : Hp} {p : Addr} {o : HO} : Ex (but G p) (upd G p o) := Ex.mut but_ex but_self
theorem none_of_ex {G H : Hp} {a : Addr} (g : Ex G H) (h : H a = none) : G a = none := fresh_back g h

/-! ### data -/
/-- v is the data d; lists and tuples are tracked ones -/
inductive Ds (H : Hp) : V → PyData → Prop
  | non : Ds H .non .none
  | bl (b : Bool) : Ds H (.bl b) (.bool b)
  | int (i : Int) : Ds H (.int i) (.int i)
  | str (x : Str) : Ds H (.str x) (.str x)
  | lst {a : Addr} {xs : List V} {ds : List PyData} : H a = some (.lst xs) → xs.length = ds.length → (∀ (i : Nat) x d, xs[i]? = some x → ds[i]? = some d → Ds H x d) → Ds H (.ref a) (.list ds)
  | tup {a : Addr} {xs : List V} {ds : List PyData} : H a = some (.tup xs) → xs.length = ds.length → (∀ (i : Nat) x d, xs[i]? = some x → ds[i]? = some d → Ds H x d) → Ds H (.ref a) (.tuple ds)
def DsA (H : Hp) (xs : List V) (ds : List PyData) : Prop := xs.length = ds.length ∧ ∀ (i : Nat) x d, xs[i]? = some x → ds[i]? = some d → Ds H x d
theorem Ds.list {H : Hp} {a : Addr} {xs : List V} {ds : List PyData} (h : H a = some (.lst xs)) (r : DsA H xs ds) : Ds H (.ref a) (.list ds) := .lst h r.1 r.2
theorem Ds.tuple {H : Hp} {a : Addr} {xs : List V} {ds : List PyData} (h : H a = some (.tup xs)) (r : DsA H xs ds) : Ds H (.ref a) (.tuple ds) := .tup h r.1 r.2
theorem Ds.ofList {H : Hp} {v : V} {ds : List PyData} (h : Ds H v (.list ds)) : ∃ a xs, v = .ref a ∧ H a = some (.lst xs) ∧ DsA H xs ds := by
  cases h with
  | lst h1 h2 h3 => exact ⟨_, _, rfl, h1, h2, h3⟩
theorem Ds.ofTuple {H : Hp} {v : V} {ds : List PyData} (h : Ds H v (.tuple ds)) : ∃ a xs, v = .ref a ∧ H a = some (.tup xs) ∧ DsA H xs ds := by
  cases h with
  | tup h1 h2 h3 => exact ⟨_, _, rfl, h1, h2, h3⟩
theorem Ds.ofInt {H : Hp} {v : V} {i : Int} (h : Ds H v (.int i)) : v = .int i := by cases h; rfl
theorem Ds.ofBl {H : Hp} {v : V} {b : Bool} (h : Ds H v (.bool b)) : v = .bl b := by cases h; rfl
theorem Ds.ofNon {H : Hp} {v : V} (h : Ds H v .none) : v = .non := by cases h; rfl
theorem Ds.mono {H H' : Hp} (e : Ex H H') {v : V} {d : PyData} (h : Ds H v d) : Ds H' v d := by
  induction h with
  | non => exact .non
  | bl b => exact .bl b
  | int i => exact .int i
  | str x => exact .str x
  | lst h1 h2 _ ih => exact .lst (e _ _ h1) h2 ih
  | tup h1 h2 _ ih => exact .tup (e _ _ h1) h2 ih
theorem DsA.mono {H H' : Hp} (e : Ex H H') {vs : List V} {ds : List PyData} (h : DsA H vs ds) : DsA H' vs ds := ⟨h.1, fun i x d h1 h2 => (h.2 i x d h1 h2).mono e⟩
theorem DsA.nil {H : Hp} : DsA H [] [] := ⟨rfl, fun i x d h => by simp at h⟩
theorem DsA.cons {H : Hp} {v : V} {vs : List V} {d : PyData} {ds : List PyData} (h : Ds H v d) (r : DsA H vs ds) : DsA H (v :: vs) (d :: ds) := ⟨by simp [r.1], fun i x e h1 h2 => by
  cases i with
  | zero => simp at h1 h2; subst h1 h2; exact h
  | succ i => exact r.2 i x e (by simpa using h1) (by simpa using h2)⟩
theorem DsA.uncons {H : Hp} {vs : List V} {d : PyData} {ds : List PyData} (h : DsA H vs (d :: ds)) : ∃ v vr, vs = v :: vr ∧ Ds H v d ∧ DsA H vr ds := by
  cases vs with
  | nil => exact absurd h.1 (by simp)
  | cons v vr => exact ⟨v, vr, rfl, h.2 0 v d rfl rfl, by simpa using h.1, fun i x e h1 h2 => h.2 (i + 1) x e (by simpa using h1) (by simpa using h2)⟩
theorem DsA.unnil {H : Hp} {vs : List V} (h : DsA H vs []) : vs = [] := List.eq_nil_of_length_eq_zero h.1
theorem DsA.append {H : Hp} {vs ws : List V} {ds es : List PyData} (h : DsA H vs ds) (r : DsA H ws es) : DsA H (vs ++ ws) (ds ++ es) := ⟨by simp [h.1, r.1], fun i x d h1 h2 => by
  by_cases hi : i < vs.length
  · rw [List.getElem?_append_left hi] at h1
    rw [List.getElem?_append_left (by rw [← h.1]; exact hi)] at h2
    exact h.2 i x d h1 h2
  · rw [List.getElem?_append_right (by omega)] at h1
    rw [List.getElem?_append_right (by rw [← h.1]; omega), ← h.1] at h2
    exact r.2 _ x d h1 h2⟩
theorem DsA.get {H : Hp} {vs : List V} {ds : List PyData} (h : DsA H vs ds) {i : Nat} {d : PyData} (e : ds[i]? = some d) : ∃ v, vs[i]? = some v ∧ Ds H v d := by
  have hi : i < ds.length := (List.getElem?_eq_some_iff.mp e).1
  have hv : vs[i]? = some (vs[i]'(by rw [h.1]; exact hi)) := List.getElem?_eq_getElem _
  exact ⟨_, hv, h.2 i _ d hv e⟩
theorem DsA.at {H : Hp} {vs : List V} {ds : List PyData} (h : DsA H vs ds) {i : Nat} {v : V} (e : vs[i]? = some v) : ∃ d, ds[i]? = some d ∧ Ds H v d := by
  have hi : i < vs.length := (List.getElem?_eq_some_iff.mp e).1
  have hv : ds[i]? = some (ds[i]'(by rw [← h.1]; exact hi)) := List.getElem?_eq_getElem _
  exact ⟨_, hv, h.2 i v _ e hv⟩
theorem DsA.take {H : Hp} {vs : List V} {ds : List PyData} (h : DsA H vs ds) (n : Nat) : DsA H (vs.take n) (ds.take n) := ⟨by simp [h.1], fun i x d h1 h2 => by
  rw [List.getElem?_take] at h1 h2
  split at h1
  · rename_i hn
    rw [if_pos hn] at h2
    exact h.2 i x d h1 h2
  · cases h1⟩
theorem DsA.drop {H : Hp} {vs : List V} {ds : List PyData} (h : DsA H vs ds) (n : Nat) : DsA H (vs.drop n) (ds.drop n) := ⟨by simp [h.1], fun i x d h1 h2 => by
  rw [List.getElem?_drop] at h1 h2
  exact h.2 _ x d h1 h2⟩
theorem DsA.reverse {H : Hp} {vs : List V} {ds : List PyData} (h : DsA H vs ds) : DsA H vs.reverse ds.reverse := ⟨by simp [h.1], fun i x d h1 h2 => by
  have hi : i < vs.length := by have := (List.getElem?_eq_some_iff.mp h1).1; simpa using this
  rw [List.getElem?_reverse hi] at h1
  rw [List.getElem?_reverse (by rw [← h.1]; exact hi), ← h.1] at h2
  exact h.2 _ x d h1 h2⟩
theorem DsA.ints {H : Hp} : ∀ ns : List Int, DsA H (ns.map V.int) (ns.map PyData.int)
  | [] => .nil
  | n :: ns => .cons (.int n) (DsA.ints ns)
theorem DsA.ofInts {H : Hp} : ∀ {ns : List Int} {vs : List V}, DsA H vs (ns.map PyData.int) → vs = ns.map V.int
  | [], vs, h => h.unnil
  | n :: ns, vs, h => by
    obtain ⟨v, vr, rfl, h1, h2⟩ := DsA.uncons (show DsA H vs (PyData.int n :: ns.map PyData.int) from h)
    rw [h1.ofInt, DsA.ofInts h2]
    rfl
theorem DsA.bls {H : Hp} : ∀ ns : List Bool, DsA H (ns.map V.bl) (ns.map PyData.bool)
  | [] => .nil
  | n :: ns => .cons (.bl n) (DsA.bls ns)
theorem DsA.ofBls {H : Hp} : ∀ {ns : List Bool} {vs : List V}, DsA H vs (ns.map PyData.bool) → vs = ns.map V.bl
  | [], vs, h => h.unnil
  | n :: ns, vs, h => by
    obtain ⟨v, vr, rfl, h1, h2⟩ := DsA.uncons (show DsA H vs (PyData.bool n :: ns.map PyData.bool) from h)
    rw [h1.ofBl, DsA.ofBls h2]
    rfl
/-- what holds no list outlives the writing of one -/
def flatD : PyData → Bool
  | .none => true | .bool _ => true | .int _ => true | .str _ => true
  | .tuple ds => ds.all fun d => match d with
    | .none => true | .bool _ => true | .int _ => true | .str _ => true | _ => false
  | _ => false
theorem Ds.butFlat {H : Hp} {v : V} {d : PyData} {p : Addr} {ys : List V} (h : Ds H v d) (f : flatD d = true) (hp : H p = some (.lst ys)) : Ds (but H p) v d := by
  cases h with
  | non => exact .non
  | bl b => exact .bl b
  | int i => exact .int i
  | str x => exact .str x
  | lst h1 h2 h3 => cases f
  | @tup a xs ds h1 h2 h3 =>
    have ne : a ≠ p := fun z => by rw [z, hp] at h1; cases h1
    refine .tup (by rw [but_ne ne]; exact h1) h2 fun i x d e1 e2 => ?_
    have q := h3 i x d e1 e2
    have f' := List.all_eq_true.mp f d (List.mem_of_getElem? e2)
    cases q with
    | non => exact .non
    | bl b => exact .bl b
    | int i => exact .int i
    | str x => exact .str x
    | lst _ _ _ => cases f'
    | tup _ _ _ => cases f'
theorem DsA.butFlat {H : Hp} {vs : List V} {ds : List PyData} {p : Addr} {ys : List V} (h : DsA H vs ds) (f : ∀ d ∈ ds, flatD d = true) (hp : H p = some (.lst ys)) : DsA (but H p) vs ds :=
  ⟨h.1, fun i x d e1 e2 => (h.2 i x d e1 e2).butFlat (f d (List.mem_of_getElem? e2)) hp⟩
theorem dpAll_of {K : PySem.W.Frag} {H : Hp} : ∀ {xs : List V} {ds : List PyData}, xs.length = ds.length → (∀ (i : Nat) x d, xs[i]? = some x → ds[i]? = some d → Dp K H x d) → DpAll K H xs ds
  | [], [], _, _ => .nil
  | [], _ :: _, h, _ => by simp at h
  | _ :: _, [], h, _ => by simp at h
  | x :: xs, d :: ds, h, r => .cons (r 0 x d rfl rfl) (dpAll_of (by simpa using h) fun i y e h1 h2 => r (i + 1) y e (by simpa using h1) (by simpa using h2))
theorem Ds.dp {K : PySem.W.Frag} {H : Hp} {v : V} {d : PyData} (h : Ds H v d) : Dp K H v d := by
  induction h with
  | non => exact .non
  | bl b => exact .bl b
  | int i => exact .int i
  | str x => exact .str x
  | lst h1 h2 _ ih => exact .lst (SqL.of h1) (dpAll_of h2 ih)
  | tup h1 h2 _ ih => exact .tup (SqT.of h1) (dpAll_of h2 ih)

/-! ### where a body stands: its entry (G0, H0), now (G, H) -/
structure Up (G0 H0 G H : Hp) : Prop where
  g : Ex G0 G
  s : Ex G H
  h : Ex H0 H
  n : ∀ a o, H0 a = some o → G a ≠ none → G0 a ≠ none
theorem Up.refl {G H : Hp} (g : Ex G H) : Up G H G H := ⟨Ex.refl _, g, Ex.refl _, fun _ _ _ h => h⟩
theorem Up.scal {G0 H0 G H H2 : Hp} (u : Up G0 H0 G H) (e : Ex H H2) : Up G0 H0 G H2 := ⟨u.g, u.s.trans e, u.h.trans e, u.n⟩
theorem Up.data {G0 H0 G H H2 : Hp} (u : Up G0 H0 G H) (e : Ex H H2) : Up G0 H0 (gr G H H2) H2 := ⟨u.g.trans (ex_gr u.s), gr_ex u.s e, u.h.trans e, fun a o h q => u.n a o h (by rw [gr_old (u.h a o h)] at q; exact q)⟩
theorem Up.mut {G0 H0 G H : Hp} {l : Addr} {o : HO} (u : Up G0 H0 G H) (hg : G l = none) (hh : H0 l = none) : Up G0 H0 G (upd H l o) := ⟨u.g, Ex.mut u.s hg, Ex.mut u.h hh, u.n⟩
theorem Up.sub {G0 H0 G G' H : Hp} (u : Up G0 H0 G H) (g : Ex G0 G') (e : Ex G' G) : Up G0 H0 G' H := ⟨g, e.trans u.s, u.h, fun a o h q => u.n a o h (fun z => q (none_of_ex e z))⟩
theorem Up.ex {G0 H0 G H : Hp} (u : Up G0 H0 G H) : Ex G (gr G0 H0 H) := fun a o e => by
  cases q : H0 a with
  | none => rw [gr_new q]; exact u.s a o e
  | some x =>
    rw [gr_old q]
    have := u.n a x q (by rw [e]; intro z; cases z)
    cases r : G0 a with
    | none => exact absurd r this
    | some y =>
      have := u.g a y r
      rw [e] at this
      exact this.symm
theorem Up.fin {G0 H0 G H : Hp} (u : Up G0 H0 G H) {v : V} {d : PyData} (h : Ds G v d) : Ds (gr G0 H0 H) v d := h.mono u.ex
theorem Up.finN {G0 H0 G H : Hp} (u : Up G0 H0 G H) {p : Addr} {vs : List V} {ds : List PyData} (hp : G p = none) (h : DsA G vs ds) : DsA (but (gr G0 H0 H) p) vs ds := h.mono (ex_but u.ex hp)

/-! ### what an expression comes to -/
def EvD (te : TE) (σ : St) (G : Hp) (d : PyData) : Prop := ∀ H1, Ex G H1 → ∀ Q : VK, (∀ v H2, Ex H1 H2 → Ds (gr G H1 H2) v d → Q v H2) → te σ H1 Q
/-- a new list, nobody else's -/
def EvN (te : TE) (σ : St) (G : Hp) (ds : List PyData) : Prop := ∀ H1, Ex G H1 → ∀ Q : VK, (∀ p vs H2, Ex H1 H2 → H1 p = none → H2 p = some (.lst vs) → DsA (but (gr G H1 H2) p) vs ds → Q (.ref p) H2) → te σ H1 Q
def EvAr (ta : TA) (σ : St) (G : Hp) (ds : List PyData) : Prop := ∀ H1, Ex G H1 → ∀ Q : List V → Hp → Prop, (∀ vs H2, Ex H1 H2 → DsA (gr G H1 H2) vs ds → Q vs H2) → ta σ H1 Q
section
variable {K : PySem.W.Frag} {σ : St} {G G' : Hp} {ta tb tc te tx : TE} {t u : TT} {d e : PyData} {ds es : List PyData}
theorem EvD.mono (g : Ex G G') (h : EvD te σ G d) : EvD te σ G' d := fun H1 a Q q => h H1 (g.trans a) Q fun v H2 e z => q v H2 e (z.mono (gr_mono g a))
theorem EvN.mono (g : Ex G G') (h : EvN te σ G ds) : EvN te σ G' ds := fun H1 a Q q => h H1 (g.trans a) Q fun p vs H2 e n hp z => q p vs H2 e n hp (z.mono (but_mono (gr_mono g a)))
theorem EvAr.mono {ta : TA} (g : Ex G G') (h : EvAr ta σ G ds) : EvAr ta σ G' ds := fun H1 a Q q => h H1 (g.trans a) Q fun v H2 e z => q v H2 e (z.mono (gr_mono g a))
theorem EvN.asD (h : EvN te σ G ds) : EvD te σ G (.list ds) := fun H1 a Q q => h H1 a Q fun p vs H2 e n hp z => q (.ref p) H2 e (.list (by rw [gr_new n]; exact hp) (z.mono but_ex))
theorem EvD.to (h : EvD te σ G d) (q : d = e) : EvD te σ G e := q ▸ h
theorem EvN.to (h : EvN te σ G ds) (q : ds = es) : EvN te σ G es := q ▸ h
/-- one after another -/
theorem EvD.seq (ha : EvD ta σ G d) (hb : EvD tb σ G e) {H1 : Hp} (a : Ex G H1) {R : V → V → Hp → Prop} (k : ∀ x y H3, Ex H1 H3 → Ds (gr G H1 H3) x d → Ds (gr G H1 H3) y e → R x y H3) : ta σ H1 fun x H2 => tb σ H2 fun y H3 => R x y H3 :=
  ha H1 a _ fun x H2 e2 zx => (hb.mono (ex_gr (H2 := H2) a)) H2 (gr_ex a e2) _ fun y H3 e3 zy => by
    rw [gr_gr e2 e3] at zy
    exact k x y H3 (e2.trans e3) (zx.mono (gr_later a e2 e3)) zy

/-! #### names, constants -/
theorem evd_var {i : Nat} {v : V} (h : σ[i]? = some (some v)) (z : Ds G v d) : EvD (tVar i) σ G d := fun H1 a Q q => ⟨v, h, q v H1 (Ex.refl _) (z.mono (ex_gr a))⟩
theorem evd_vi {i : Nat} {n : Int} (h : σ[i]? = some (some (.int n))) : EvD (tVar i) σ G (.int n) := evd_var h (.int n)
theorem evd_vb {i : Nat} {n : Bool} (h : σ[i]? = some (some (.bl n))) : EvD (tVar i) σ G (.bool n) := evd_var h (.bl n)
theorem evd_vn {i : Nat} (h : σ[i]? = some (some .non)) : EvD (tVar i) σ G .none := evd_var h .non
theorem evd_c {v : V} (z : Ds G v d) : EvD (tC v) σ G d := fun H1 a Q q => q v H1 (Ex.refl _) (z.mono (ex_gr a))
theorem evd_ci {n : Int} : EvD (tC (.int n)) σ G (.int n) := evd_c (.int n)
theorem evd_cb {n : Bool} : EvD (tC (.bl n)) σ G (.bool n) := evd_c (.bl n)
theorem evd_cn : EvD (tC .non) σ G .none := evd_c .non
theorem evd_cs {x : Str} : EvD (tC (.str x)) σ G (.str x) := evd_c (.str x)
/-! #### numbers -/
theorem evd_I0 {f : Int → Int → Int} {i j : Int} (ha : EvD ta σ G (.int i)) (hb : EvD tb σ G (.int j)) : EvD (tOp (rI0 fun i j => .int (f i j)) ta tb) σ G (.int (f i j)) := fun H1 a Q q =>
  ha.seq hb a fun x y H3 e zx zy => ⟨i, j, zx.ofInt, zy.ofInt, q _ H3 e (.int _)⟩
theorem evd_B0 {f : Int → Int → Bool} {i j : Int} (ha : EvD ta σ G (.int i)) (hb : EvD tb σ G (.int j)) : EvD (tOp (rI0 fun i j => .bl (f i j)) ta tb) σ G (.bool (f i j)) := fun H1 a Q q =>
  ha.seq hb a fun x y H3 e zx zy => ⟨i, j, zx.ofInt, zy.ofInt, q _ H3 e (.bl _)⟩
theorem evd_I {C : Int → Int → Prop} {f : Int → Int → Int} {i j : Int} (ha : EvD ta σ G (.int i)) (hb : EvD tb σ G (.int j)) (hc : C i j) : EvD (tOp (rI C fun i j => .int (f i j)) ta tb) σ G (.int (f i j)) := fun H1 a Q q =>
  ha.seq hb a fun x y H3 e zx zy => ⟨i, j, zx.ofInt, zy.ofInt, hc, q _ H3 e (.int _)⟩
theorem evd_U {f : Int → Int} {i : Int} (ha : EvD ta σ G (.int i)) : EvD (tUn (rU fun i => .int (f i)) ta) σ G (.int (f i)) := fun H1 a Q q =>
  ha H1 a _ fun x H2 e zx => ⟨i, zx.ofInt, q _ H2 e (.int _)⟩
theorem dec_vi {i j : Int} : decide (V.int i = V.int j) = decide (i = j) := by simp
theorem dec_vb {i j : Bool} : decide (V.bl i = V.bl j) = decide (i = j) := by simp
theorem evd_eq {i j : Int} (ha : EvD ta σ G (.int i)) (hb : EvD tb σ G (.int j)) : EvD (tOp rEq ta tb) σ G (.bool (decide (i = j))) := fun H1 a Q q =>
  ha.seq hb a fun x y H3 e zx zy => by
    rw [zx.ofInt, zy.ofInt]
    refine ⟨rfl, ?_⟩
    rw [dec_vi]
    exact q _ H3 e (.bl _)
theorem evd_ne {i j : Int} (ha : EvD ta σ G (.int i)) (hb : EvD tb σ G (.int j)) : EvD (tOp rNe ta tb) σ G (.bool (!decide (i = j))) := fun H1 a Q q =>
  ha.seq hb a fun x y H3 e zx zy => by
    rw [zx.ofInt, zy.ofInt]
    refine ⟨rfl, ?_⟩
    rw [dec_vi]
    exact q _ H3 e (.bl _)
theorem evd_eqB {i j : Bool} (ha : EvD ta σ G (.bool i)) (hb : EvD tb σ G (.bool j)) : EvD (tOp rEq ta tb) σ G (.bool (decide (i = j))) := fun H1 a Q q =>
  ha.seq hb a fun x y H3 e zx zy => by
    rw [zx.ofBl, zy.ofBl]
    refine ⟨rfl, ?_⟩
    rw [dec_vb]
    exact q _ H3 e (.bl _)
theorem evd_neB {i j : Bool} (ha : EvD ta σ G (.bool i)) (hb : EvD tb σ G (.bool j)) : EvD (tOp rNe ta tb) σ G (.bool (!decide (i = j))) := fun H1 a Q q =>
  ha.seq hb a fun x y H3 e zx zy => by
    rw [zx.ofBl, zy.ofBl]
    refine ⟨rfl, ?_⟩
    rw [dec_vb]
    exact q _ H3 e (.bl _)
/-- a < b < c -/
theorem evd_chain {f g : Int → Int → Bool} {i j k : Int} (ha : EvD ta σ G (.int i)) (hb : EvD tb σ G (.int j)) (hc : EvD tc σ G (.int k)) :
    EvD (tChain (rI0 fun i j => .bl (f i j)) (rI0 fun i j => .bl (g i j)) ta tb tc) σ G (.bool (f i j && g j k)) := fun H1 a Q q =>
  ha.seq hb a fun x y H3 e zx zy => ⟨i, j, zx.ofInt, zy.ofInt, f i j, rfl, by
    cases hf : f i j with
    | false => exact q _ H3 e (by rw [hf]; exact .bl false)
    | true => exact (hc.mono (ex_gr (H2 := H3) a)) H3 (gr_ex a e) _ fun w H4 e4 zw => ⟨j, k, zy.ofInt, zw.ofInt, q _ H4 (e.trans e4) (by rw [hf]; exact .bl (g j k))⟩⟩
/-! #### places, slices, displays -/
theorem Ds.sqL {v : V} {H : Hp} (h : Ds H v (.list ds)) : ∃ a xs, v = .ref a ∧ SqL K H a xs ∧ DsA H xs ds := by
  obtain ⟨a, xs, h1, h2, h3⟩ := h.ofList
  exact ⟨a, xs, h1, SqL.of h2, h3⟩
theorem atI_ds {H : Hp} {xs : List V} {i : Int} (h : DsA H xs ds) (ha : atI ds i = some d) : ∃ v, atI xs i = some v ∧ Ds H v d := by
  unfold atI at ha ⊢
  rw [h.1]
  cases q : ixN ds.length i with
  | none => rw [q] at ha; cases ha
  | some j => rw [q] at ha; exact h.get ha
theorem evd_ixL {i : Int} (ha : EvD ta σ G (.list ds)) (hb : EvD tb σ G (.int i)) (hi : atI ds i = some d) : EvD (tOp (rIxL K) ta tb) σ G d := fun H1 a Q q =>
  ha.seq hb a fun x y H3 e zx zy => by
    obtain ⟨l, xs, rfl, h2, h3⟩ := zx.ofList
    obtain ⟨v, hv, zv⟩ := atI_ds h3 hi
    exact ⟨l, xs, i, v, rfl, zy.ofInt, SqL.of (gr_ex a e _ _ h2), hv, q v H3 e zv⟩
theorem evd_ixT {i : Int} (ha : EvD ta σ G (.tuple ds)) (hb : EvD tb σ G (.int i)) (hi : atI ds i = some d) : EvD (tOp (rIxT K) ta tb) σ G d := fun H1 a Q q =>
  ha.seq hb a fun x y H3 e zx zy => by
    obtain ⟨l, xs, rfl, h2, h3⟩ := zx.ofTuple
    obtain ⟨v, hv, zv⟩ := atI_ds h3 hi
    exact ⟨l, xs, i, v, rfl, zy.ofInt, SqT.of (gr_ex a e _ _ h2), hv, q v H3 e zv⟩
theorem eva_nil : EvAr tNil σ G [] := fun H1 a Q q => q [] H1 (Ex.refl _) .nil
theorem eva_cons {tr : TA} (h : EvD te σ G d) (r : EvAr tr σ G ds) : EvAr (tCons te tr) σ G (d :: ds) := fun H1 a Q q =>
  h H1 a _ fun x H2 e2 zx => (r.mono (ex_gr (H2 := H2) a)) H2 (gr_ex a e2) _ fun ys H3 e3 zy => by
    rw [gr_gr e2 e3] at zy
    exact q _ H3 (e2.trans e3) (.cons (zx.mono (gr_later a e2 e3)) zy)
theorem line_of {n : Nat} (h : n ≤ 100000) : n ≤ sizeLine := Nat.le_trans h (by decide)
theorem evd_tup {ta : TA} (h : EvAr ta σ G ds) (hl : ds.length ≤ 100000 := by simp) : EvD (tTup ta) σ G (.tuple ds) := fun H1 a Q q =>
  h H1 a _ fun vs H2 e2 z => ⟨line_of (by rw [z.1]; exact hl), fun p hp => q _ _ (e2.trans (Ex.new hp)) (.tuple (a := p) (xs := vs) (by rw [gr_new (none_of_ex e2 hp)]; exact upd_same) (z.mono (gr_later a e2 (Ex.new hp))))⟩
theorem evn_lst {ta : TA} (h : EvAr ta σ G ds) (hl : ds.length ≤ 100000 := by simp) : EvN (tLst ta) σ G ds := fun H1 a Q q =>
  h H1 a _ fun vs H2 e2 z => ⟨line_of (by rw [z.1]; exact hl), fun p hp => q p vs _ (e2.trans (Ex.new hp)) (none_of_ex e2 hp) upd_same
    (z.mono (ex_but (gr_later a e2 (Ex.new hp)) (by rw [gr_new (none_of_ex e2 hp)]; exact hp)))⟩
/-- a new list at p over what was there -/
theorem evn_put {H1 H2 : Hp} {p : Addr} {vs : List V} (a : Ex G H1) (e2 : Ex H1 H2) (hp : H2 p = none) (z : DsA (gr G H1 H2) vs ds) : DsA (but (gr G H1 (upd H2 p (.lst vs))) p) vs ds :=
  z.mono (ex_but (gr_later a e2 (Ex.new hp)) (by rw [gr_new (none_of_ex e2 hp)]; exact hp))
def cutD (xs : List PyData) (lo hi : Option Int) : List PyData := (xs.drop (HT.sIx xs.length 0 lo)).take (HT.sIx xs.length xs.length hi - HT.sIx xs.length 0 lo)
theorem DsA.cut {H : Hp} {vs : List V} (h : DsA H vs ds) (lo hi : Option Int) : DsA H (cutV vs lo hi) (cutD ds lo hi) := by
  unfold cutV cutD
  rw [h.1]
  exact (h.drop _).take _
def EvO (to : TO) (σ : St) (G : Hp) (o : Option Int) : Prop := ∀ H1, Ex G H1 → ∀ Q : Option Int → Hp → Prop, (∀ H2, Ex H1 H2 → Q o H2) → to σ H1 Q
theorem evo_none : EvO tNoPart σ G none := fun H1 _ Q q => q H1 (Ex.refl _)
theorem evo_some {i : Int} (h : EvD te σ G (.int i)) : EvO (tPart te) σ G (some i) := fun H1 a Q q => h H1 a _ fun v H2 e z => ⟨i, z.ofInt, q H2 e⟩
theorem evn_sl {tl th : TO} {lo hi : Option Int} (h : EvD te σ G (.list ds)) (hl : EvO tl σ G lo) (hh : EvO th σ G hi) : EvN (tSl (rSlL K) te tl th) σ G (cutD ds lo hi) := fun H1 a Q q =>
  h H1 a _ fun x H2 e2 z => hl H2 (a.trans e2) _ fun H3 e3 => hh H3 ((a.trans e2).trans e3) _ fun H4 e4 => by
    obtain ⟨l, xs, rfl, h2, h3⟩ := z.ofList
    have e24 := e3.trans e4
    refine ⟨l, xs, rfl, SqL.of (e24 _ _ (gr_ex a e2 _ _ h2)), fun p hp => q p _ _ ((e2.trans e24).trans (Ex.new hp)) (none_of_ex (e2.trans e24) hp) upd_same ?_⟩
    exact evn_put a (e2.trans e24) hp ((h3.cut lo hi).mono (gr_later a e2 e24))
theorem evn_revL (h : EvD te σ G (.list ds)) : EvN (tRevL K te) σ G ds.reverse := fun H1 a Q q =>
  h H1 a _ fun x H2 e2 z => by
    obtain ⟨l, xs, rfl, h2, h3⟩ := z.ofList
    exact ⟨l, xs, rfl, SqL.of (gr_ex a e2 _ _ h2), fun p hp => q p _ _ (e2.trans (Ex.new hp)) (none_of_ex e2 hp) upd_same (evn_put a e2 hp h3.reverse)⟩
theorem evn_cat (ha : EvD ta σ G (.list ds)) (hb : EvD tb σ G (.list es)) (hl : ds.length + es.length ≤ 100000) : EvN (tOp rCat ta tb) σ G (ds ++ es) := fun H1 a Q q =>
  ha.seq hb a fun x y H3 e zx zy => by
    obtain ⟨l, xs, rfl, h2, h3⟩ := zx.ofList
    obtain ⟨m, ys, rfl, h4, h5⟩ := zy.ofList
    exact ⟨l, m, xs, ys, rfl, rfl, gr_ex a e _ _ h2, gr_ex a e _ _ h4, line_of (by rw [h3.1, h5.1]; exact hl), fun p hp => q p _ _ (e.trans (Ex.new hp)) (none_of_ex e hp) upd_same (evn_put a e hp (h3.append h5))⟩
theorem evn_listOf (h : EvD te σ G (.list ds)) : EvN (tCB (rListS K) (tCons te tNil)) σ G ds := fun H1 a Q q =>
  h H1 a _ fun x H2 e2 z => by
    obtain ⟨l, xs, rfl, h2, h3⟩ := z.ofList
    exact ⟨l, xs, rfl, .inl (SqL.of (gr_ex a e2 _ _ h2)), fun p hp => q p _ _ (e2.trans (Ex.new hp)) (none_of_ex e2 hp) upd_same (evn_put a e2 hp h3)⟩
theorem evn_listOfT (h : EvD te σ G (.tuple ds)) : EvN (tCB (rListS K) (tCons te tNil)) σ G ds := fun H1 a Q q =>
  h H1 a _ fun x H2 e2 z => by
    obtain ⟨l, xs, rfl, h2, h3⟩ := z.ofTuple
    exact ⟨l, xs, rfl, .inr (SqT.of (gr_ex a e2 _ _ h2)), fun p hp => q p _ _ (e2.trans (Ex.new hp)) (none_of_ex e2 hp) upd_same (evn_put a e2 hp h3)⟩
/-! #### built-ins -/
theorem evd_len (h : EvD te σ G (.list ds)) : EvD (tCB (rLenS K) (tCons te tNil)) σ G (.int (ds.length : Int)) := fun H1 a Q q =>
  h H1 a _ fun x H2 e2 z => by
    obtain ⟨l, xs, rfl, h2, h3⟩ := z.ofList
    refine ⟨l, xs, rfl, .inl (SqL.of (gr_ex a e2 _ _ h2)), ?_⟩
    rw [h3.1]
    exact q _ H2 e2 (.int _)
theorem evd_lenT (h : EvD te σ G (.tuple ds)) : EvD (tCB (rLenS K) (tCons te tNil)) σ G (.int (ds.length : Int)) := fun H1 a Q q =>
  h H1 a _ fun x H2 e2 z => by
    obtain ⟨l, xs, rfl, h2, h3⟩ := z.ofTuple
    refine ⟨l, xs, rfl, .inr (SqT.of (gr_ex a e2 _ _ h2)), ?_⟩
    rw [h3.1]
    exact q _ H2 e2 (.int _)
theorem evd_sum {ns : List Int} (h : EvD te σ G (.list (ns.map PyData.int))) : EvD (tCB (rSum K) (tCons te tNil)) σ G (.int ns.sum) := fun H1 a Q q =>
  h H1 a _ fun x H2 e2 z => by
    obtain ⟨l, xs, rfl, h2, h3⟩ := z.ofList
    have := h3.ofInts
    subst this
    exact ⟨l, ns, rfl, SqL.of (gr_ex a e2 _ _ h2), q _ H2 e2 (.int _)⟩
theorem evd_all {ns : List Bool} (h : EvD te σ G (.list (ns.map PyData.bool))) : EvD (tCB (rAll K) (tCons te tNil)) σ G (.bool (ns.all id)) := fun H1 a Q q =>
  h H1 a _ fun x H2 e2 z => by
    obtain ⟨l, xs, rfl, h2, h3⟩ := z.ofList
    have := h3.ofBls
    subst this
    exact ⟨l, ns, rfl, SqL.of (gr_ex a e2 _ _ h2), q _ H2 e2 (.bl _)⟩
theorem evd_any {ns : List Bool} (h : EvD te σ G (.list (ns.map PyData.bool))) : EvD (tCB (rAny K) (tCons te tNil)) σ G (.bool (ns.any id)) := fun H1 a Q q =>
  h H1 a _ fun x H2 e2 z => by
    obtain ⟨l, xs, rfl, h2, h3⟩ := z.ofList
    have := h3.ofBls
    subst this
    exact ⟨l, ns, rfl, SqL.of (gr_ex a e2 _ _ h2), q _ H2 e2 (.bl _)⟩
def rMin2 : List V → Hp → VK → Prop := fun xs H Q => ∃ i j, xs = [.int i, .int j] ∧ Q (.int (if j < i then j else i)) H
theorem evd_max2 {i j : Int} (ha : EvD ta σ G (.int i)) (hb : EvD tb σ G (.int j)) : EvD (tCB rMax2 (tCons ta (tCons tb tNil))) σ G (.int (max i j)) := fun H1 a Q q =>
  ha.seq hb a fun x y H3 e zx zy => ⟨i, j, by rw [zx.ofInt, zy.ofInt], by
    rw [show (if j > i then j else i) = max i j by omega]
    exact q _ H3 e (.int _)⟩
theorem evd_min2 {i j : Int} (ha : EvD ta σ G (.int i)) (hb : EvD tb σ G (.int j)) : EvD (tCB rMin2 (tCons ta (tCons tb tNil))) σ G (.int (min i j)) := fun H1 a Q q =>
  ha.seq hb a fun x y H3 e zx zy => ⟨i, j, by rw [zx.ofInt, zy.ofInt], by
    rw [show (if j < i then j else i) = min i j by omega]
    exact q _ H3 e (.int _)⟩
/-! #### truth -/
theorem evt_test {b : Bool} (h : EvD te σ G (.bool b)) : EvT (tTest te) σ G b := fun H1 a Q q => h H1 a _ fun v H2 e z => ⟨b, z.ofBl, q H2 e⟩
theorem evt_B {b : Bool} (h : EvD te σ G (.bool b)) : EvT (tB te) σ G b := fun H1 a Q q => h H1 a _ fun v H2 e z => ⟨b, z.ofBl, q H2 e⟩
theorem evd_and {a b : Bool} (h1 : EvD ta σ G (.bool a)) (h2 : a = true → EvD tb σ G (.bool b)) : EvD (tAndV ta tb) σ G (.bool (a && b)) := fun H1 x Q q => h1 H1 x _ fun v H2 e z => ⟨a, z.ofBl, by
  cases a with
  | true => exact (h2 rfl) H2 (x.trans e) Q fun w H3 e3 z3 => by rw [z3.ofBl]; exact q _ H3 (e.trans e3) (.bl b)
  | false => exact q _ H2 e (.bl false)⟩
theorem evd_or {a b : Bool} (h1 : EvD ta σ G (.bool a)) (h2 : a = false → EvD tb σ G (.bool b)) : EvD (tOrV ta tb) σ G (.bool (a || b)) := fun H1 x Q q => h1 H1 x _ fun v H2 e z => ⟨a, z.ofBl, by
  cases a with
  | false => exact (h2 rfl) H2 (x.trans e) Q fun w H3 e3 z3 => by rw [z3.ofBl]; exact q _ H3 (e.trans e3) (.bl b)
  | true => exact q _ H2 e (.bl true)⟩
theorem evd_not {a : Bool} (h1 : EvD ta σ G (.bool a)) : EvD (tNotV ta) σ G (.bool (!a)) := fun H1 x Q q => h1 H1 x _ fun v H2 e z => ⟨a, z.ofBl, q _ H2 e (.bl _)⟩
theorem evd_if {b : Bool} (h : EvT t σ G b) (h1 : b = true → EvD ta σ G d) (h2 : b = false → EvD tb σ G d) : EvD (tIf t ta tb) σ G d := fun H1 a Q q => h H1 a _ fun H2 e => by
  have go : ∀ {tx : TE}, EvD tx σ G d → tx σ H2 Q := fun {tx} hx => hx H2 (a.trans e) Q fun v H3 e3 z => q v H3 (e.trans e3) (by
    refine z.mono fun x o hxo => ?_
    cases q1 : H1 x with
    | none =>
      rw [gr_new q1]
      cases q2 : H2 x with
      | none => rw [gr_new q2] at hxo; exact hxo
      | some y => rw [gr_old q2] at hxo; exact absurd (a x o hxo) (by rw [q1]; intro z; cases z)
    | some y => rw [gr_old q1]; rw [gr_old (e x y q1)] at hxo; exact hxo)
  cases b with
  | true => exact go (h1 rfl)
  | false => exact go (h2 rfl)
/-- == of data -/
theorem evd_eqD (ha : EvD ta σ G d) (hb : EvD tb σ G e) (sd : SeqAt.shaped d = true) (se : SeqAt.shaped e = true) : EvD (tOp (rEqD K) ta tb) σ G (.bool (PyData.eqv d e)) := fun H1 a Q q =>
  ha.seq hb a fun x y H3 ex zx zy => ⟨d, e, (zx.mono (gr_ex a ex)).dp, (zy.mono (gr_ex a ex)).dp, sd, se, q _ H3 ex (.bl _)⟩
theorem evd_neD (ha : EvD ta σ G d) (hb : EvD tb σ G e) (sd : SeqAt.shaped d = true) (se : SeqAt.shaped e = true) : EvD (tOp (rNeD K) ta tb) σ G (.bool (!PyData.eqv d e)) := fun H1 a Q q =>
  ha.seq hb a fun x y H3 ex zx zy => ⟨d, e, (zx.mono (gr_ex a ex)).dp, (zy.mono (gr_ex a ex)).dp, sd, se, q _ H3 ex (.bl _)⟩
end
end Gs

/-! Loops, comprehensions, calls over data. -/
namespace Gs
open PySem L2 Evl

/-! ### what is walked -/
/-- S: turn, heap, slots ahead, slots behind the target's store -/
def Src (wi : TI) (g : TG) (σ : St) (G : Hp) (n : Nat) (S : Nat → Hp → St → St → Prop) : Prop :=
  ∀ H1, Ex G H1 → ∀ R : It → Hp → Prop,
    (∀ (J : It) (H2 : Hp) (Gd : Hp → Prop) (Y : Nat → Hp → V → Hp → Prop), Ex H1 H2 → Walk J n Gd Y → (∀ H', Ex (gr G H1 H2) H' → Gd H') →
      (∀ i x Gx H H', i < n → Ex (gr G H1 H2) Gx → Ex Gx H → Y i H x H' → Ex H H' ∧ ∀ (σ0 : St) (Kk : St → Hp → Prop), (∀ σ', S i (gr Gx H H') σ0 σ' → Kk σ' H') → g x σ0 H' Kk) → R J H2) → wi σ H1 R
section
variable {K : PySem.W.Frag} {σ : St} {G G' : Hp} {ta tb tc te tl tx : TE} {t u tt : TT} {d e : PyData} {ds es : List PyData}
def SNm (ds : List PyData) (j : Nat) : Nat → Hp → St → St → Prop := fun i G σ σ' => ∃ v d, ds[i]? = some d ∧ Ds G v d ∧ σ' = σ.set j (some v)
theorem src_list {j : Nat} (h : EvD tl σ G (.list ds)) : Src (iList K tl) (gName j) σ G ds.length (SNm ds j) := fun H1 a R r =>
  h H1 a _ fun x H2 e2 z => by
    obtain ⟨l, xs, rfl, h2, h3⟩ := z.ofList
    have hk : ∀ H', Ex (gr G H1 H2) H' → SqL K H' l xs := fun H' e => SqL.of (e _ _ h2)
    refine ⟨l, rfl, ⟨xs, hk _ (gr_ex a e2)⟩, ?_⟩
    refine r (Itl K l) H2 (fun H => SqL K H l xs) (YAt xs) e2 (h3.1 ▸ walk_list) hk fun i x Gx H H' hi gx gh y => ?_
    obtain ⟨rfl, hy⟩ := y
    refine ⟨Ex.refl _, fun σ0 Kk kk => kk _ ?_⟩
    obtain ⟨d, hd, zd⟩ := h3.at hy
    refine ⟨x, d, hd, ?_, rfl⟩
    rw [gr_self gh]
    exact zd.mono gx
theorem src_tup {j : Nat} (h : EvD tl σ G (.tuple ds)) : Src (iTup K tl) (gName j) σ G ds.length (SNm ds j) := fun H1 a R r =>
  h H1 a _ fun x H2 e2 z => by
    obtain ⟨l, xs, rfl, h2, h3⟩ := z.ofTuple
    have hk : ∀ H', Ex (gr G H1 H2) H' → SqT K H' l xs := fun H' e => SqT.of (e _ _ h2)
    refine ⟨l, rfl, ⟨xs, hk _ (gr_ex a e2)⟩, ?_⟩
    refine r (Itt K l) H2 (fun H => SqT K H l xs) (YAt xs) e2 (h3.1 ▸ walk_tup) hk fun i x Gx H H' hi gx gh y => ?_
    obtain ⟨rfl, hy⟩ := y
    refine ⟨Ex.refl _, fun σ0 Kk kk => kk _ ?_⟩
    obtain ⟨d, hd, zd⟩ := h3.at hy
    refine ⟨x, d, hd, ?_, rfl⟩
    rw [gr_self gh]
    exact zd.mono gx
/-- the items are tuples, the target their names -/
inductive GSet : List V → List Nat → St → St → Prop
  | nil {σ : St} : GSet [] [] σ σ
  | cons {v : V} {vs : List V} {j : Nat} {js : List Nat} {σ σ' : St} : GSet vs js (σ.set j (some v)) σ' → GSet (v :: vs) (j :: js) σ σ'
def gNames : List Nat → TGs
  | [] => gNil
  | j :: js => gCons (gName j) (gNames js)
theorem gNames_run : ∀ {js : List Nat} {vs : List V} {σ : St} {H : Hp} {Kk : St → Hp → Prop}, vs.length = js.length → (∀ σ', GSet vs js σ σ' → Kk σ' H) → gNames js vs σ H Kk
  | [], [], σ, H, Kk, _, k => ⟨rfl, k _ .nil⟩
  | j :: js, v :: vs, σ, H, Kk, h, k => ⟨v, vs, rfl, gNames_run (js := js) (vs := vs) (by simpa using h) fun σ' g => k σ' (.cons g)⟩
  | [], _ :: _, _, _, _, h, _ => by simp at h
  | _ :: _, [], _, _, _, h, _ => by simp at h
def STp (ds : List PyData) (js : List Nat) : Nat → Hp → St → St → Prop := fun i G σ σ' => ∃ vs es, ds[i]? = some (.tuple es) ∧ DsA G vs es ∧ GSet vs js σ σ'
theorem src_listT {js : List Nat} {m : Nat} (h : EvD tl σ G (.list ds)) (hm : js.length = m) (ht : ∀ d ∈ ds, ∃ es, d = .tuple es ∧ es.length = m) : Src (iList K tl) (gTup K m (gNames js)) σ G ds.length (STp ds js) := fun H1 a R r =>
  h H1 a _ fun x H2 e2 z => by
    obtain ⟨l, xs, rfl, h2, h3⟩ := z.ofList
    have hk : ∀ H', Ex (gr G H1 H2) H' → SqL K H' l xs := fun H' e => SqL.of (e _ _ h2)
    refine ⟨l, rfl, ⟨xs, hk _ (gr_ex a e2)⟩, ?_⟩
    refine r (Itl K l) H2 (fun H => SqL K H l xs) (YAt xs) e2 (h3.1 ▸ walk_list) hk fun i x Gx H H' hi gx gh y => ?_
    obtain ⟨rfl, hy⟩ := y
    refine ⟨Ex.refl _, fun σ0 Kk kk => ?_⟩
    obtain ⟨d, hd, zd⟩ := h3.at hy
    obtain ⟨es, rfl, hes⟩ := ht d (List.mem_of_getElem? hd)
    obtain ⟨q, ys, rfl, q2, q3⟩ := zd.ofTuple
    refine ⟨q, ys, rfl, SqT.of (gh _ _ (gx _ _ q2)), by rw [q3.1, hes], gNames_run (by rw [q3.1, hes, hm]) fun σ' g => kk _ ⟨ys, es, hd, ?_, g⟩⟩
    rw [gr_self gh]
    exact q3.mono gx
/-- pairs made on the way: enumerate, zip -/
def SPr (f g : Nat → Option PyData) (j k : Nat) : Nat → Hp → St → St → Prop := fun i G σ σ' => ∃ v w d e, f i = some d ∧ g i = some e ∧ Ds G v d ∧ Ds G w e ∧ σ' = (σ.set j (some v)).set k (some w)
theorem pair_turn {j k : Nat} {fv gv : Nat → Option V} {f g : Nat → Option PyData} {i : Nat} {x : V} {Gx H H' : Hp} (gh : Ex Gx H) (y : YPair fv gv i H x H') (hf : ∀ v, fv i = some v → ∃ d, f i = some d ∧ Ds Gx v d) (hg : ∀ v, gv i = some v → ∃ d, g i = some d ∧ Ds Gx v d) :
    Ex H H' ∧ ∀ (σ0 : St) (Kk : St → Hp → Prop), (∀ σ', SPr f g j k i (gr Gx H H') σ0 σ' → Kk σ' H') → gTup K 2 (gNames [j, k]) x σ0 H' Kk := by
  obtain ⟨T, v, w, rfl, hT, rfl, h1, h2⟩ := y
  have e := Ex.new (o := .tup [v, w]) hT
  refine ⟨e, fun σ0 Kk kk => ⟨T, [v, w], rfl, SqT.of upd_same, rfl, v, [w], rfl, w, [], rfl, rfl, kk _ ?_⟩⟩
  obtain ⟨d, hd, zd⟩ := hf v h1
  obtain ⟨d', hd', zd'⟩ := hg w h2
  exact ⟨v, w, d, d', hd, hd', zd.mono (ex_gr gh), zd'.mono (ex_gr gh), rfl⟩
theorem src_enum {j k : Nat} (h : EvD tl σ G (.list ds)) : Src (iEnum K (tCons tl tNil)) (gTup K 2 (gNames [j, k])) σ G ds.length (SPr (fun i => some (.int (i : Int))) (fun i => ds[i]?) j k) := fun H1 a R r =>
  h H1 a _ fun x H2 e2 z => by
    obtain ⟨l, xs, rfl, h2, h3⟩ := z.ofList
    have hk : ∀ H', Ex (gr G H1 H2) H' → SqL K H' l xs := fun H' e => SqL.of (e _ _ h2)
    refine ⟨l, xs, rfl, hk _ (gr_ex a e2), ?_⟩
    refine r (Ite K l) H2 (fun H => SqL K H l xs) _ e2 (h3.1 ▸ walk_enum) hk fun i x Gx H H' hi gx gh y => pair_turn gh y (fun v hv => ?_) (fun v hv => ?_)
    · cases hv; exact ⟨_, rfl, .int _⟩
    · obtain ⟨d, hd, zd⟩ := h3.at hv
      exact ⟨d, hd, zd.mono gx⟩
theorem src_zip {j k : Nat} {ta tb : TE} (ha : EvD ta σ G (.list ds)) (hb : EvD tb σ G (.list es)) : Src (iZip K (tCons ta (tCons tb tNil))) (gTup K 2 (gNames [j, k])) σ G (min ds.length es.length) (SPr (fun i => ds[i]?) (fun i => es[i]?) j k) := fun H1 a R r =>
  ha.seq hb a fun x y H2 e2 zx zy => by
    obtain ⟨l, xs, rfl, h2, h3⟩ := zx.ofList
    obtain ⟨m, ys, rfl, h4, h5⟩ := zy.ofList
    have hk : ∀ H', Ex (gr G H1 H2) H' → SqL K H' l xs ∧ SqL K H' m ys := fun H' e => ⟨SqL.of (e _ _ h2), SqL.of (e _ _ h4)⟩
    have hk0 := hk _ (gr_ex a e2)
    refine ⟨l, m, xs, ys, rfl, hk0.1, hk0.2, ?_⟩
    refine r (Itz K l m) H2 _ _ e2 (walk_zip (by rw [h3.1, h5.1])) hk fun i x Gx H H' hi gx gh y => pair_turn gh y (fun v hv => ?_) (fun v hv => ?_)
    · obtain ⟨d, hd, zd⟩ := h3.at hv
      exact ⟨d, hd, zd.mono gx⟩
    · obtain ⟨d, hd, zd⟩ := h5.at hv
      exact ⟨d, hd, zd.mono gx⟩
theorem src_rev {j : Nat} (h : EvD tl σ G (.list ds)) : Src (iRev K (tCons tl tNil)) (gName j) σ G ds.length (SNm ds.reverse j) := fun H1 a R r =>
  h H1 a _ fun x H2 e2 z => by
    obtain ⟨l, xs, rfl, h2, h3⟩ := z.ofList
    have hk : ∀ H', Ex (gr G H1 H2) H' → SqL K H' l xs := fun H' e => SqL.of (e _ _ h2)
    refine ⟨l, xs, rfl, hk _ (gr_ex a e2), ?_⟩
    have wk : Walk (Itv K l xs.length) ds.length (fun H => SqL K H l xs) (fun i H x H' => H' = H ∧ xs[xs.length - 1 - i]? = some x) := by
      have w0 := walk_rev (K := K) (a := l) (xs := xs)
      have e0 := h3.1
      exact ⟨fun i H hi h => w0.goes i H (by omega) h, fun H h => by rw [← e0]; exact w0.stops H h, fun i H x H' hi h y => w0.yields i H x H' (by omega) h y⟩
    refine r (Itv K l xs.length) H2 (fun H => SqL K H l xs) _ e2 wk hk fun i x Gx H H' hi gx gh y => ?_
    obtain ⟨rfl, hy⟩ := y
    refine ⟨Ex.refl _, fun σ0 Kk kk => kk _ ?_⟩
    have hy' : xs.reverse[i]? = some x := by
      rw [List.getElem?_reverse (by rw [h3.1]; exact hi)]; exact hy
    obtain ⟨d, hd, zd⟩ := h3.reverse.at hy'
    refine ⟨x, d, hd, ?_, rfl⟩
    rw [gr_self gh]
    exact zd.mono gx
def SRg (j : Nat) : Nat → Hp → St → St → Prop := fun i _ σ σ' => σ' = σ.set j (some (.int (i : Int)))
theorem src_range {j : Nat} {n : Int} (h : EvD te σ G (.int n)) (hn : n ≤ 100000) (hm : -100000 ≤ n) : Src (iRng1 (tCons te tNil)) (gName j) σ G n.toNat (SRg j) := fun H1 a R r =>
  h H1 a _ fun x H2 e2 z => by
    rw [z.ofInt]
    refine ⟨n, rfl, by omega, by omega, ?_⟩
    refine r (Itr 0 n.toNat) H2 (fun _ => True) _ e2 walk_range (fun _ _ => trivial) fun i x Gx H H' hi gx gh y => ?_
    obtain ⟨rfl, rfl⟩ := y
    refine ⟨Ex.refl _, fun σ0 Kk kk => kk _ ?_⟩
    show List.set σ0 j (some (V.int ((0 : Int) + (i : Int)))) = List.set σ0 j (some (V.int (i : Int)))
    rw [Int.zero_add]
/-- the script -/
theorem src_listS {j : Nat} {l : Addr} {ns : List Int} (h : σ[j]? = some (some (.ref l))) (hs : SqL K G l (ns.map V.int)) {k : Nat} : Src (iList K (tVar j)) (gName k) σ G ns.length (fun i _ σ σ' => ∃ n, ns[i]? = some n ∧ σ' = σ.set k (some (.int n))) := fun H1 a R r => by
  have hk : ∀ H', Ex (gr G H1 H1) H' → SqL K H' l (ns.map V.int) := fun H' e => ex_l e (by rw [gr_self a]; exact hs)
  refine ⟨_, h, l, rfl, ⟨_, ex_l a hs⟩, ?_⟩
  refine r (Itl K l) H1 (fun H => SqL K H l (ns.map V.int)) (YAt (ns.map V.int)) (Ex.refl _) (by have := walk_list (K := K) (a := l) (xs := ns.map V.int); rwa [List.length_map] at this) hk fun i x Gx H H' hi gx gh y => ?_
  obtain ⟨rfl, hy⟩ := y
  rw [List.getElem?_map] at hy
  cases q : ns[i]? with
  | none => rw [q] at hy; cases hy
  | some n =>
    rw [q] at hy
    cases hy
    exact ⟨Ex.refl _, fun σ0 Kk kk => kk _ ⟨n, q, rfl⟩⟩
theorem src_enumS {m j k : Nat} {l : Addr} {ns : List Int} (h : σ[m]? = some (some (.ref l))) (hs : SqL K G l (ns.map V.int)) : Src (iEnum K (tCons (tVar m) tNil)) (gTup K 2 (gNames [j, k])) σ G ns.length (fun i _ σ σ' => ∃ n, ns[i]? = some n ∧ σ' = (σ.set j (some (.int (i : Int)))).set k (some (.int n))) := fun H1 a R r => by
  have hk : ∀ H', Ex (gr G H1 H1) H' → SqL K H' l (ns.map V.int) := fun H' e => ex_l e (by rw [gr_self a]; exact hs)
  refine ⟨_, h, l, _, rfl, ex_l a hs, ?_⟩
  refine r (Ite K l) H1 (fun H => SqL K H l (ns.map V.int)) _ (Ex.refl _) (by have := walk_enum (K := K) (a := l) (xs := ns.map V.int); rwa [List.length_map] at this) hk fun i x Gx H H' hi gx gh y => ?_
  have q := pair_turn (K := K) (j := j) (k := k) (f := fun i => some (.int (i : Int))) (g := fun i => (ns.map PyData.int)[i]?) gh y (fun v hv => by cases hv; exact ⟨_, rfl, .int _⟩) (fun v hv => by
    rw [List.getElem?_map] at hv
    show ∃ d, (ns.map PyData.int)[i]? = some d ∧ Ds Gx v d
    rw [List.getElem?_map]
    cases q : ns[i]? with
    | none => rw [q] at hv; cases hv
    | some n => rw [q] at hv; cases hv; exact ⟨_, rfl, .int _⟩)
  refine ⟨q.1, fun σ0 Kk kk => q.2 σ0 Kk fun σ' hs' => ?_⟩
  obtain ⟨v, w, d, e, h1, h2, z1, z2, rfl⟩ := hs'
  cases h1
  have h2 : (ns.map PyData.int)[i]? = some e := h2
  rw [List.getElem?_map] at h2
  cases q : ns[i]? with
  | none => rw [q] at h2; cases h2
  | some n =>
    rw [q] at h2
    cases h2
    rw [z1.ofInt, z2.ofInt]
    exact kk _ ⟨n, q, rfl⟩

/-! ### comprehensions -/
def givenD (n : Nat) (p : Nat → Bool) (f : Nat → PyData) : List PyData := ((List.range n).filter p).map f
theorem givenD_yes {n : Nat} {p : Nat → Bool} {f : Nat → PyData} (h : p n = true) : givenD (n + 1) p f = givenD n p f ++ [f n] := by
  unfold givenD
  rw [List.range_succ, List.filter_append, List.map_append, List.filter_cons, if_pos h] <;> rfl
theorem givenD_no {n : Nat} {p : Nat → Bool} {f : Nat → PyData} (h : p n = false) : givenD (n + 1) p f = givenD n p f := by
  unfold givenD
  rw [List.range_succ, List.filter_append, List.map_append, List.filter_cons, if_neg (by rw [h]; decide)]
  show _ ++ [] = _
  rw [List.append_nil]
theorem givenD_len (n : Nat) (p : Nat → Bool) (f : Nat → PyData) : (givenD n p f).length ≤ n := by
  unfold givenD
  rw [List.length_map]
  have h := List.length_filter_le p (List.range n)
  rw [List.length_range] at h
  exact h
theorem givenD_all {n : Nat} {f : Nat → PyData} : givenD n (fun _ => true) f = (List.range n).map f := by
  unfold givenD
  rw [List.filter_eq_self.mpr (fun _ _ => rfl)]
theorem evn_lc {wi : TI} {g : TG} {n : Nat} {S : Nat → Hp → St → St → Prop} {vs : List Nat} (hs : Src wi g σ G n S) (hz : n ≤ 40000) (p : Nat → Bool) (f : Nat → PyData) (hw : ∀ i Gx σ', S i Gx (wipe σ vs) σ' → wipe σ' vs = wipe σ vs)
    (ht : ∀ i Gx σ', i < n → Ex G Gx → S i Gx (wipe σ vs) σ' → EvT tt σ' Gx (p i)) (he : ∀ i Gx σ', i < n → Ex G Gx → S i Gx (wipe σ vs) σ' → p i = true → EvD te σ' Gx (f i)) :
    EvN (tLc wi g tt te vs) σ G (givenD n p f) := fun H1 a Q q => hs H1 a _ fun J H2 Gd Y e2 wk gd turn D hD => by
  have hD1 : H1 D = none := none_of_ex e2 hD
  have gD : gr G H1 H2 D = none := by rw [gr_new hD1]; exact hD
  refine lc_it wk (fun i H' => Ex H2 H' ∧ ∃ acc, H' D = some (.lst acc) ∧ DsA (but (gr G H1 H') D) acc (givenD i p f)) ⟨Ex.new hD, [], upd_same, .nil⟩ (fun i H' _ h => gd H' ((gr_ex a e2).trans h.1)) ?_ (fun H' h => ?_)
  · rintro i x H H' hi ⟨eh, acc, hacc, zacc⟩ y
    have g1 : Ex (gr G H1 H2) (but (gr G H1 H) D) := ex_but (gr_later a e2 eh) gD
    have g2 : Ex (but (gr G H1 H) D) H := but_ex.trans (gr_ex a (e2.trans eh))
    obtain ⟨e3, k3⟩ := turn i x (but (gr G H1 H) D) H H' hi g1 g2 y
    refine k3 _ _ fun σ' hS => ⟨hw i _ σ' hS, ?_⟩
    have gx : Ex G (gr (but (gr G H1 H) D) H H') := ((ex_gr (H2 := H2) a).trans g1).trans (ex_gr g2)
    have gx' : Ex (gr (but (gr G H1 H) D) H H') H' := gr_ex g2 e3
    have step : ∀ {H5 : Hp}, (∀ b o, b ≠ D → H b = some o → H5 b = some o) → Ex (but (gr G H1 H) D) (but (gr G H1 H5) D) := fun {H5} k b o e => by
      have ne : b ≠ D := fun z => by rw [z, but_self] at e; cases e
      rw [but_ne ne] at e ⊢
      cases r : H1 b with
      | none => rw [gr_new r] at e ⊢; exact k b o ne e
      | some u => rw [gr_old r] at e ⊢; exact e
    refine ht i _ σ' hi gx hS H' gx' _ fun H3 e4 => ?_
    cases hp : p i with
    | true =>
      refine he i _ σ' hi gx hS hp H3 (gx'.trans e4) _ fun yv H4 e5 zy => ⟨acc, e5 _ _ (e4 _ _ (e3 _ _ hacc)), Nat.lt_of_lt_of_le (by rw [zacc.1]; have := givenD_len i p f; omega) (line_of (Nat.le_refl 100000)), Ex.mut (((eh.trans e3).trans e4).trans e5) hD, _, upd_same, ?_⟩
      rw [givenD_yes hp]
      refine DsA.append (zacc.mono (step fun b o nb hb => by rw [upd_ne nb]; exact e5 _ _ (e4 _ _ (e3 _ _ hb)))) (.cons (zy.mono fun b o hb => ?_) .nil)
      have ne : b ≠ D := fun z => by
        subst z
        rw [gr_old (e4 _ _ (e3 _ _ hacc)), gr_old hacc, but_self] at hb
        cases hb
      rw [but_ne ne]
      have old4 : H4 b = some o := (gr_ex (gx'.trans e4) e5) b o hb
      cases r1 : H1 b with
      | none => rw [gr_new r1, upd_ne ne]; exact old4
      | some u1 =>
        have r2 : H b = some u1 := (e2.trans eh) b u1 r1
        rw [gr_old r1]
        rw [gr_old (e4 _ _ (e3 _ _ r2)), gr_old r2, but_ne ne, gr_old r1] at hb
        exact hb
    | false =>
      refine ⟨(eh.trans e3).trans e4, acc, e4 _ _ (e3 _ _ hacc), ?_⟩
      rw [givenD_no hp]
      exact zacc.mono (step fun b o nb hb => e4 _ _ (e3 _ _ hb))
  · obtain ⟨eh, acc, hacc, zacc⟩ := h
    exact q D acc H' (e2.trans eh) hD1 hacc zacc
theorem getD_of {i : Nat} (h : ds[i]? = some d) : ds.getD i .none = d := by
  rw [List.getD_eq_getElem?_getD, h]
  rfl
theorem range_getD (F : PyData → PyData) : ∀ ds : List PyData, (List.range ds.length).map (fun i => F (ds.getD i .none)) = ds.map F := fun ds => by
  apply List.ext_getElem?
  intro i
  rw [List.getElem?_map, List.getElem?_map]
  by_cases hi : i < ds.length
  · rw [List.getElem?_range hi, List.getElem?_eq_getElem hi]
    simp [hi]
  · rw [List.getElem?_eq_none (by simpa using hi), List.getElem?_eq_none (by simpa using hi)]
    rfl
theorem filter_getD (p : PyData → Bool) (F : PyData → PyData) : ∀ ds : List PyData, ((List.range ds.length).filter (fun i => p (ds.getD i .none))).map (fun i => F (ds.getD i .none)) = (ds.filter p).map F := fun ds => by
  have h1 : ds = (List.range ds.length).map (fun i => ds.getD i .none) := (by rw [range_getD (fun d => d)]; simp)
  conv => rhs; rw [h1]
  rw [List.filter_map, List.map_map]
  rfl
/-- over a list, one name -/
theorem evn_lcL {j : Nat} {vs : List Nat} (F : PyData → PyData) (h : EvD tl σ G (.list ds)) (hz : ds.length ≤ 40000) (hw : ∀ x, wipe ((wipe σ vs).set j (some x)) vs = wipe σ vs)
    (he : ∀ Gx v d, Ex G Gx → d ∈ ds → Ds Gx v d → EvD te ((wipe σ vs).set j (some v)) Gx (F d)) : EvN (tLc (iList K tl) (gName j) tYes te vs) σ G (ds.map F) := by
  have := evn_lc (tt := tYes) (te := te) (vs := vs) (src_list (K := K) (j := j) h) hz (fun _ => true) (fun i => F (ds.getD i .none)) (fun i Gx σ' hS => by
      obtain ⟨v, d, _, _, rfl⟩ := hS
      exact hw v) (fun i Gx σ' _ _ _ H1 _ Q q => q H1 (Ex.refl _)) (fun i Gx σ' _ g hS _ => by
      obtain ⟨v, d, hd, zd, rfl⟩ := hS
      rw [getD_of hd]
      exact he Gx v d g (List.mem_of_getElem? hd) zd)
  rwa [givenD_all, range_getD] at this
/-- over a tuple -/
theorem evn_lcT {j : Nat} {vs : List Nat} (F : PyData → PyData) (h : EvD tl σ G (.tuple ds)) (hz : ds.length ≤ 40000) (hw : ∀ x, wipe ((wipe σ vs).set j (some x)) vs = wipe σ vs)
    (he : ∀ Gx v d, Ex G Gx → d ∈ ds → Ds Gx v d → EvD te ((wipe σ vs).set j (some v)) Gx (F d)) : EvN (tLc (iTup K tl) (gName j) tYes te vs) σ G (ds.map F) := by
  have := evn_lc (tt := tYes) (te := te) (vs := vs) (src_tup (K := K) (j := j) h) hz (fun _ => true) (fun i => F (ds.getD i .none)) (fun i Gx σ' hS => by
      obtain ⟨v, d, _, _, rfl⟩ := hS
      exact hw v) (fun i Gx σ' _ _ _ H1 _ Q q => q H1 (Ex.refl _)) (fun i Gx σ' _ g hS _ => by
      obtain ⟨v, d, hd, zd, rfl⟩ := hS
      rw [getD_of hd]
      exact he Gx v d g (List.mem_of_getElem? hd) zd)
  rwa [givenD_all, range_getD] at this
theorem evn_lcLif {j : Nat} {vs : List Nat} (p : PyData → Bool) (F : PyData → PyData) (h : EvD tl σ G (.list ds)) (hz : ds.length ≤ 40000) (hw : ∀ x, wipe ((wipe σ vs).set j (some x)) vs = wipe σ vs)
    (ht : ∀ Gx v d, Ex G Gx → d ∈ ds → Ds Gx v d → EvT tt ((wipe σ vs).set j (some v)) Gx (p d))
    (he : ∀ Gx v d, Ex G Gx → d ∈ ds → Ds Gx v d → EvD te ((wipe σ vs).set j (some v)) Gx (F d)) : EvN (tLc (iList K tl) (gName j) tt te vs) σ G ((ds.filter p).map F) := by
  have := evn_lc (tt := tt) (te := te) (vs := vs) (src_list (K := K) (j := j) h) hz (fun i => p (ds.getD i .none)) (fun i => F (ds.getD i .none)) (fun i Gx σ' hS => by
      obtain ⟨v, d, _, _, rfl⟩ := hS
      exact hw v) (fun i Gx σ' _ g hS => by
      obtain ⟨v, d, hd, zd, rfl⟩ := hS
      rw [getD_of hd]
      exact ht Gx v d g (List.mem_of_getElem? hd) zd) (fun i Gx σ' _ g hS _ => by
      obtain ⟨v, d, hd, zd, rfl⟩ := hS
      rw [getD_of hd]
      exact he Gx v d g (List.mem_of_getElem? hd) zd)
  unfold givenD at this
  rwa [filter_getD] at this
theorem evn_lcR {j : Nat} {n : Int} {vs : List Nat} (F : Nat → PyData) (h : EvD tl σ G (.int n)) (hn : n ≤ 40000) (hm : -100000 ≤ n) (hw : ∀ x, wipe ((wipe σ vs).set j (some x)) vs = wipe σ vs)
    (he : ∀ Gx (i : Nat), Ex G Gx → (i : Int) < n → EvD te ((wipe σ vs).set j (some (.int (i : Int)))) Gx (F i)) : EvN (tLc (iRng1 (tCons tl tNil)) (gName j) tYes te vs) σ G ((List.range n.toNat).map F) := by
  have := evn_lc (tt := tYes) (te := te) (vs := vs) (src_range (j := j) h (by omega) hm) (by omega) (fun _ => true) F (fun i Gx σ' hS => by
      cases hS
      exact hw _) (fun i Gx σ' _ _ _ H1 _ Q q => q H1 (Ex.refl _)) (fun i Gx σ' hi g hS _ => by
      cases hS
      exact he Gx i g (by omega))
  rwa [givenD_all] at this

/-! ### statements -/
variable {D : Ends} {tu tw : TS} {g : TG} {G0 H0 H : Hp}
theorem z_set {i : Nat} (a : Ex G H) (h : EvD te σ G d) (k : ∀ v H2, Ex H H2 → Ds (gr G H H2) v d → D.nx (σ.set i (some v)) H2) : tAsg te (gName i) D σ H := h H a _ k
theorem z_setI {i : Nat} {n : Int} (a : Ex G H) (h : EvD te σ G (.int n)) (k : ∀ H2, Ex H H2 → D.nx (σ.set i (some (.int n))) H2) : tAsg te (gName i) D σ H := h H a _ fun v H2 e z => by
  show D.nx (σ.set i (some v)) H2
  rw [z.ofInt]; exact k H2 e
theorem z_setB {i : Nat} {n : Bool} (a : Ex G H) (h : EvD te σ G (.bool n)) (k : ∀ H2, Ex H H2 → D.nx (σ.set i (some (.bl n))) H2) : tAsg te (gName i) D σ H := h H a _ fun v H2 e z => by
  show D.nx (σ.set i (some v)) H2
  rw [z.ofBl]; exact k H2 e
theorem z_setZ {i : Nat} (a : Ex G H) (h : EvD te σ G .none) (k : ∀ H2, Ex H H2 → D.nx (σ.set i (some .non)) H2) : tAsg te (gName i) D σ H := h H a _ fun v H2 e z => by
  show D.nx (σ.set i (some v)) H2
  rw [z.ofNon]; exact k H2 e
theorem z_setN {i : Nat} (a : Ex G H) (h : EvN te σ G ds) (k : ∀ p vs H2, Ex H H2 → H p = none → H2 p = some (.lst vs) → DsA (but (gr G H H2) p) vs ds → D.nx (σ.set i (some (.ref p))) H2) : tAsg te (gName i) D σ H := h H a _ k
theorem z_ret (a : Ex G H) (h : EvD te σ G d) (k : ∀ v H2, Ex H H2 → Ds (gr G H H2) v d → D.rt v H2) : tRet te D σ H := h H a _ k
theorem z_retN (a : Ex G H) (h : EvN te σ G ds) (k : ∀ p vs H2, Ex H H2 → H p = none → H2 p = some (.lst vs) → DsA (but (gr G H H2) p) vs ds → D.rt (.ref p) H2) : tRet te D σ H := h H a _ k
theorem z_if {b : Bool} (a : Ex G H) (h : EvT t σ G b) (h1 : b = true → ∀ H2, Ex H H2 → tu D σ H2) (h2 : b = false → ∀ H2, Ex H H2 → tw D σ H2) : tIfS t tu tw D σ H := h H a _ fun H2 e => by
  cases b with
  | true => exact h1 rfl H2 e
  | false => exact h2 rfl H2 e
theorem z_drop (a : Ex G H) (h : EvD te σ G d) (k : ∀ H2, Ex H H2 → D.nx σ H2) : tDrop te D σ H := h H a _ fun v H2 e _ => k H2 e
/-- xs.append(e), xs in slot i, its list at l ours -/
theorem z_app {i : Nat} {l : Addr} {xs : List V} (a : Ex G H) (hs : σ[i]? = some (some (.ref l))) (hl : H l = some (.lst xs)) (h : EvD te σ G d) (hz : xs.length < 100000)
    (k : ∀ v H2, Ex H H2 → Ds (gr G H H2) v d → D.nx σ (upd H2 l (.lst (xs ++ [v])))) : tDrop (tBM K "list" rAppend (tVar i) (tCons te tNil)) D σ H :=
  ⟨_, hs, .inl ⟨rfl, xs, SqL.of hl⟩, h H a _ fun v H2 e z => ⟨l, xs, v, rfl, rfl, e _ _ hl, Nat.lt_of_lt_of_le hz (line_of (Nat.le_refl _)), k v H2 e z⟩⟩
/-- for: the word Pv by turn, slots, the heap's facts, the heap -/
abbrev Px (Pv : Nat → St → Hp → Hp → Prop) (i : Nat) : St → Hp → Prop := fun σ H => ∃ G, Pv i σ G H
theorem z_for {wi : TI} {n : Nat} {S : Nat → Hp → St → St → Prop} (a : Ex G H) (hs : Src wi g σ G n S)
    (k : ∀ H2, Ex H H2 → ∃ Pv : Nat → St → Hp → Hp → Prop, Pv 0 σ (gr G H H2) H2 ∧ (∀ i σ' G' H', Pv i σ' G' H' → Ex (gr G H H2) G' ∧ Ex G' H') ∧
      (∀ i σ' G' H' H3 σ3, i < n → Pv i σ' G' H' → Ex H' H3 → S i (gr G' H' H3) σ' σ3 → tu { D with nx := Px Pv (i + 1), ct := Px Pv (i + 1), bk := D.nx } σ3 H3) ∧
      (∀ σ' G' H', Pv n σ' G' H' → D.nx σ' H')) : tFor wi g tu D σ H := hs H a _ fun J H2 Gd Y e2 wk gd turn => by
  obtain ⟨Pv, h0, hG, ht, hd⟩ := k H2 e2
  refine for_it wk (Px Pv) ⟨_, h0⟩ ?_ ?_ ?_
  · rintro i σ' H' _ ⟨G', p⟩
    obtain ⟨g1, g2⟩ := hG i σ' G' H' p
    exact gd H' (g1.trans g2)
  · rintro i x σ' H' H'' hi ⟨G', p⟩ y
    obtain ⟨g1, g2⟩ := hG i σ' G' H' p
    obtain ⟨e3, k3⟩ := turn i x G' H' H'' hi g1 g2 y
    exact k3 _ _ fun σ2 hS => ht i σ' G' H' H'' σ2 hi p e3 hS
  · rintro σ' H' ⟨G', p⟩
    exact hd σ' G' H' p
/-- calls -/
def spD (R : List PyData → PyData → Prop) : Sp := fun vs H Q _ => ∃ G ds d, Ex G H ∧ DsA G vs ds ∧ R ds d ∧ ∀ v H2, Ex H H2 → Ds (gr G H H2) v d → Q v H2
def spN (R : List PyData → List PyData → Prop) : Sp := fun vs H Q _ => ∃ G ds es, Ex G H ∧ DsA G vs ds ∧ R ds es ∧ ∀ p xs H2, Ex H H2 → H p = none → H2 p = some (.lst xs) → DsA (but (gr G H H2) p) xs es → Q (.ref p) H2
theorem evd_call {ta : TA} {E : XK} {R : List PyData → PyData → Prop} (ha : EvAr ta σ G ds) (hr : R ds d) : EvD (tCall (spD R) [] E ta) σ G d := fun H1 a Q q => ha H1 a _ fun vs H2 e2 z => by
  rw [List.append_nil]
  exact ⟨gr G H1 H2, ds, d, gr_ex a e2, z, hr, fun v H3 e3 zv => q v H3 (e2.trans e3) (by rw [gr_gr e2 e3] at zv; exact zv)⟩
theorem evn_call {ta : TA} {E : XK} {R : List PyData → List PyData → Prop} (ha : EvAr ta σ G ds) (hr : R ds es) : EvN (tCall (spN R) [] E ta) σ G es := fun H1 a Q q => ha H1 a _ fun vs H2 e2 z => by
  rw [List.append_nil]
  exact ⟨gr G H1 H2, ds, es, gr_ex a e2, z, hr, fun p xs H3 e3 hp h3 zv => q p xs H3 (e2.trans e3) (none_of_ex e2 hp) h3 (by rw [gr_gr e2 e3] at zv; exact zv)⟩
end
end Gs

/-! Defs and methods by name: what stands in the text (FunH, MetH), what is promised (Has, HasM). -/
namespace Gs
open PySem PySem.Spec PyProof.Rows L2 Evl

structure Has (P : Program) (w : World) (K : PySem.W.Frag) (mg : Str → Option Value) (base : Heap) (CX : CXT) (k : Nat) (x : Str) (ps : List Str) (sp : Sp) : Prop where
  ex : ∃ f fd, FnOk P w K mg base CX k f fd ps sp ∧ mg x = some (.ref f) ∧ PySem.W.keepIn K (.ref f) = true ∧ Binds K fd ps []
structure HasM (P : Program) (w : World) (K : PySem.W.Frag) (mg : Str → Option Value) (base : Heap) (CX : CXT) (k : Nat) (C : Addr) (m : Str) (ps : List Str) (sp : Sp) : Prop where
  ex : ∃ f fd, FnOk P w K mg base CX k f fd ps sp ∧ Meth K C m f ∧ Binds K fd ps []
structure HasC (P : Program) (w : World) (K : PySem.W.Frag) (mg : Str → Option Value) (base : Heap) (CX : CXT) (k : Nat) (C : Addr) (x : Str) (ps : List Str) (sp : Sp) : Prop where
  ex : ∃ f fd, FnOk P w K mg base CX k f fd ps sp ∧ Mk K C f ∧ mg x = some (.ref C) ∧ Binds K fd ps []
structure FunH (K : PySem.W.Frag) (mg : Str → Option Value) (x qual : Str) (st : Stmt) (ps : List Str) : Prop where
  ex : ∃ f fd, Fun K x qual st f fd ∧ mg x = some (.ref f) ∧ Binds K fd ps []
structure MetH (K : PySem.W.Frag) (C : Addr) (m qual : Str) (st : Stmt) (ps : List Str) : Prop where
  ex : ∃ f fd, Fun K m qual st f fd ∧ Meth K C m f ∧ Binds K fd ps []
structure IniH (K : PySem.W.Frag) (mg : Str → Option Value) (C : Addr) (x qual : Str) (st : Stmt) (ps : List Str) : Prop where
  ex : ∃ f fd, Fun K "__init__" qual st f fd ∧ Mk K C f ∧ mg x = some (.ref C) ∧ Binds K fd ps []
section
variable {P : Program} {w : World} {K : PySem.W.Frag} {mg : Str → Option Value} {base : Heap} {N ps : List Str} {k : Nat} {sp : Sp} {x qual m : Str} {st : Stmt} {C : Addr}
theorem FunH.has (F : FunH K mg x qual st ps) (S : FnScope N ps (defScope st)) (len : ∀ vs H Q E, sp vs H Q E → vs.length = ps.length)
    (hbody : ∀ (f : Addr) (cdv : Value) (A : Around) (outer : List Env) (s : Shared) (H : Hp) (vs : List V) (Q : VK) (E : XK), Room k (A.deeper (envOfC qual (defScope st) s.heap.objs.size f cdv)) → sp vs H Q E →
      ∃ t, PSs (cxOf CX0 P w K mg base N qual (defScope st) f cdv A outer s H E).nox (defBody st) t ∧ t { nx := fun _ H' => Q .non H', rt := Q } (start N vs) H) : Has P w K mg base CX0 (k + 1) x ps sp := by
  obtain ⟨f, fd, F, hm, hb⟩ := F.ex
  exact ⟨f, fd, F.ok S len (fun cdv A outer s H vs Q E hr h => hbody f cdv A outer s H vs Q E hr h), hm, F.kp, hb⟩
theorem MetH.has (F : MetH K C m qual st ps) (S : FnScope N ps (defScope st)) (len : ∀ vs H Q E, sp vs H Q E → vs.length = ps.length)
    (hbody : ∀ (f : Addr) (cdv : Value) (A : Around) (outer : List Env) (s : Shared) (H : Hp) (vs : List V) (Q : VK) (E : XK), Room k (A.deeper (envOfC qual (defScope st) s.heap.objs.size f cdv)) → sp vs H Q E →
      ∃ t, PSs (cxOf CX0 P w K mg base N qual (defScope st) f cdv A outer s H E).nox (defBody st) t ∧ t { nx := fun _ H' => Q .non H', rt := Q } (start N vs) H) : HasM P w K mg base CX0 (k + 1) C m ps sp := by
  obtain ⟨f, fd, F, hm, hb⟩ := F.ex
  exact ⟨f, fd, F.ok S len (fun cdv A outer s H vs Q E hr h => hbody f cdv A outer s H vs Q E hr h), hm, hb⟩
theorem IniH.has (F : IniH K mg C x qual st ps) (S : FnScope N ps (defScope st)) (len : ∀ vs H Q E, sp vs H Q E → vs.length = ps.length)
    (hbody : ∀ (f : Addr) (cdv : Value) (A : Around) (outer : List Env) (s : Shared) (H : Hp) (vs : List V) (Q : VK) (E : XK), Room k (A.deeper (envOfC qual (defScope st) s.heap.objs.size f cdv)) → sp vs H Q E →
      ∃ t, PSs (cxOf CX0 P w K mg base N qual (defScope st) f cdv A outer s H E).nox (defBody st) t ∧ t { nx := fun _ H' => Q .non H', rt := Q } (start N vs) H) : HasC P w K mg base CX0 (k + 1) C x ps sp := by
  obtain ⟨f, fd, F, hm, hx, hb⟩ := F.ex
  exact ⟨f, fd, F.ok S len (fun cdv A outer s H vs Q E hr h => hbody f cdv A outer s H vs Q E hr h), hm, hx, hb⟩
end
section
variable {X : Cx} {CX : CXT} {k : Nat} {C : Addr} {ps : List Str} {sp : Sp} {E : XK} {x m : Str} {p pos apos : Pos} {e o : Expr} {es : List Expr} {ta : TE} {t : TA}
/-- f(e, ..) -/
theorem pe_f (h : Has X.prog X.w X.K X.mg X.base CX k x ps sp) (hr : Room k X.A) (ha : PA X (e :: es) t) (hx : Passes CX X E := by exact pass0) (hg : Gl X x := by rfl) (hdb : (x == ("__debug__" : Str)) = false := by decide)
    (he : starEach (e :: es) X.env = (false, eval e X.env) :: starEach es X.env := by rfl) (hpl : (backTo pos (starEach es X.env)).any (·.1) = false := by rfl) : PE X (.Call (.Name x p) (e :: es) [] pos) (tCall sp [] E t) := by
  refine ⟨fun pins s σ H Q I hw => ?_⟩
  obtain ⟨f, fd, F, hm, hk, hb⟩ := h.ex
  exact (pe_call F hr hg hm hk hb .nil hx ha hdb he hpl).run pins s σ H Q I hw
/-- o.m(e, ..) -/
theorem pe_m {pl : Sem Bool} (ho : PE X o ta) (c : Cls X.K C) (h : HasM X.prog X.w X.K X.mg X.base CX k C m ps sp) (hr : Room k X.A) (ha : PA X (e :: es) t) (hx : Passes CX X E := by exact pass0)
    (hst : starEach (e :: es) X.env = (false, eval e X.env) :: starEach es X.env := by rfl) (hpl : (backTo pos (starEach es X.env)).any (·.1) = false := by rfl)
    (ht : eval (.Call (.Attribute o m apos) (e :: es) [] pos) X.env = (do
      let ov ← eval o X.env
      standAt apos.atName
      let (f, first) ← holding [ov] (getMethod ov m pl)
      callWith pos f first (backTo pos (starEach (e :: es) X.env)) (backToKw pos (keywordEach [] X.env))) := by rfl) :
    PE X (.Call (.Attribute o m apos) (e :: es) [] pos) (tMeth C m sp [] E ta t) := by
  refine ⟨fun pins s σ H Q I hw => ?_⟩
  obtain ⟨f, fd, F, hm, hb⟩ := h.ex
  exact (pe_meth (pl := pl) ho c hm F hr hb .nil hx ha hst hpl ht).run pins s σ H Q I hw
/-- C(e, ..) -/
theorem pe_c (h : HasC X.prog X.w X.K X.mg X.base CX k C x ps sp) (hr : Room (k + 1) X.A) (ha : PA X (e :: es) t) (hx : Passes CX X E := by exact pass0) (hg : Gl X x := by rfl) (hdb : (x == ("__debug__" : Str)) = false := by decide)
    (he : starEach (e :: es) X.env = (false, eval e X.env) :: starEach es X.env := by rfl) (hpl : (backTo pos (starEach es X.env)).any (·.1) = false := by rfl) : PE X (.Call (.Name x p) (e :: es) [] pos) (tMake C sp [] E t) := by
  refine ⟨fun pins s σ H Q I hw => ?_⟩
  obtain ⟨f, fd, F, hM, hm, hb⟩ := h.ex
  exact (pe_make hM F hr hg hm hb .nil hx ha hdb he hpl).run pins s σ H Q I hw
/-- the slots of a target's names, said as a list -/
theorem pgs_names {j : Nat} {js : List Nat} {t : Expr} {ts : List Expr} (h : PG X t (gName j)) (r : PGs X ts (gNames js)) (hs : (assignEach (t :: ts) X.env).map (·.2) = assign t X.env :: (assignEach ts X.env).map (·.2) := by rfl) : PGs X (t :: ts) (gNames (j :: js)) := pgs_cons h r hs
theorem pgs_done : PGs X [] (gNames []) := pgs_nil
/-- the built-ins' rules under names of ours -/
theorem cb_len : CallR X (.builtin "len") (rLenS X.K) := call_len_seq
theorem cb_list : CallR X (.type "list") (rListS X.K) := call_list_of
theorem cb_max2 (hc : X.calm = true) : CallR X (.builtin "max") rMax2 := call_max2 hc
theorem cb_min2 (hc : X.calm = true) : CallR X (.builtin "min") rMin2 := call_min2 hc
def rMin3 : List V → Hp → VK → Prop := fun xs H Q => ∃ i j k : Int, xs = [.int i, .int j, .int k] ∧ Q (.int (min i (min j k))) H
theorem cb_min3 (hc : X.calm = true) : CallR X (.builtin "min") rMin3 := by
  intro pins s σ H xs us Q I r h
  obtain ⟨i, j, l, rfl, q⟩ := h
  refine call_min3Nu hc pins s σ H _ us Q I r ⟨_, _, _, .int (min i (min j l)), rfl, ?_, q⟩
  have two : ∀ a b : Int, nuMin2 (.int a) (.int b) = some (.int (min a b)) := fun a b => by
    show some (if decide (b < a) = true then V.int b else V.int a) = some (.int (min a b))
    by_cases h : b < a
    · rw [decide_eq_true h, if_pos rfl, show min a b = b by omega]
    · rw [decide_eq_false h, if_neg Bool.false_ne_true, show min a b = a by omega]
  show (nuMin2 (.int i) (.int j)).bind (fun m => nuMin2 m (.int l)) = _
  rw [two]
  show nuMin2 (.int (min i j)) (.int l) = _
  rw [two, show min (min i j) l = min i (min j l) by omega]
end
/-! the rules that speak of the written part, it said -/
section
variable {X : Cx} (K : PySem.W.Frag)
theorem ix_listK (h : X.K = K := by rfl) : IxR X (rIxL K) := by subst h; exact ix_list
theorem ix_tupK (h : X.K = K := by rfl) : IxR X (rIxT K) := by subst h; exact ix_tup
theorem sl_listK (h : X.K = K := by rfl) : SlR X (rSlL K) := by subst h; exact sl_list
theorem cb_lenK (h : X.K = K := by rfl) : CallR X (.builtin "len") (rLenS K) := by subst h; exact call_len_seq
theorem cb_listK (h : X.K = K := by rfl) : CallR X (.type "list") (rListS K) := by subst h; exact call_list_of
theorem cr_sumK (h : X.K = K := by rfl) (hc : X.calm = true := by rfl) : CallR X (.builtin "sum") (rSum K) := by subst h; exact cr_sum hc
theorem cr_allK (h : X.K = K := by rfl) (hc : X.calm = true := by rfl) : CallR X (.builtin "all") (rAll K) := by subst h; exact cr_all hc
theorem cr_anyK (h : X.K = K := by rfl) (hc : X.calm = true := by rfl) : CallR X (.builtin "any") (rAny K) := by subst h; exact cr_any hc
theorem cr_maxK (h : X.K = K := by rfl) (hc : X.calm = true := by rfl) : CallR X (.builtin "max") (rMax K) := by subst h; exact cr_max hc
theorem cr_sortedK (h : X.K = K := by rfl) : CallR X (.builtin "sorted") (rSortedI K) := by subst h; exact cr_sortedI
theorem call_isiKK (h : X.K = K := by rfl) : CallR X (.builtin "isinstance") (rIsi K) := by subst h; exact call_isi
theorem op_inK (h : X.K = K := by rfl) : OpR X (compareOp .In) (rIn K false) := by subst h; exact op_in_seq
theorem op_eqDK (hu : X.A.units + 64 < cLine) (h : X.K = K := by rfl) : OpR X (compareOp .Eq) (rEqD K) := by subst h; exact op_eqD hu
theorem op_neDK (hu : X.A.units + 64 < cLine) (h : X.K = K := by rfl) : OpR X (compareOp .NotEq) (rNeD K) := by subst h; exact op_neD hu
theorem pg_tupK {es : List Expr} {k : Nat} {t : TGs} {n : Nat} {pos : Pos} (h : PGs X es t) (hK : X.K = K := by rfl) (hc : X.calm = true := by rfl)
    (hn : (assignEach es X.env).length = n := by rfl) (hst : (assignEach es X.env).findIdx? (·.1) = none := by rfl) : PG X (.Tuple es k pos) (gTup K n t) := by subst hK; exact pg_tup hc h hn hst
theorem pi_listK {tg l : Expr} {tl : TE} (hl : PE X l tl) (h : X.K = K := by rfl) : PI X tg l (iList K tl) := by subst h; exact pi_list hl
theorem pi_tupK {tg l : Expr} {tl : TE} (hl : PE X l tl) (h : X.K = K := by rfl) : PI X tg l (iTup K tl) := by subst h; exact pi_tup hl
theorem pi_enumK {e : Expr} {ta : TA} {p pos tpos : Pos} {elts : List Expr} {kk : Nat} (hm : X.mg "enumerate" = none) (ha : PA X [e] ta) (h : X.K = K := by rfl) (hg : Gl X "enumerate" := by rfl) (hs : starEach [e] X.env = [(false, eval e X.env)] := by rfl) :
    PI X (.Tuple elts kk tpos) (.Call (.Name "enumerate" p) [e] [] pos) (iEnum K ta) := by subst h; exact pi_enum hg hm ha hs
theorem pi_zipK {e e2 : Expr} {ta : TA} {p pos tpos : Pos} {elts : List Expr} {kk : Nat} (hm : X.mg "zip" = none) (ha : PA X [e, e2] ta) (h : X.K = K := by rfl) (hg : Gl X "zip" := by rfl)
    (hs : starEach [e, e2] X.env = (false, eval e X.env) :: starEach [e2] X.env := by rfl) (hpl : (backTo pos (starEach [e2] X.env)).any (·.1) = false := by rfl) :
    PI X (.Tuple elts kk tpos) (.Call (.Name "zip" p) [e, e2] [] pos) (iZip K ta) := by subst h; exact pi_zip hg hm ha hs hpl
theorem pi_revK {tg e : Expr} {ta : TA} {p pos : Pos} (hm : X.mg "reversed" = none) (ha : PA X [e] ta) (h : X.K = K := by rfl) (hg : Gl X "reversed" := by rfl) (hs : starEach [e] X.env = [(false, eval e X.env)] := by rfl) :
    PI X tg (.Call (.Name "reversed" p) [e] [] pos) (iRev K ta) := by subst h; exact pi_reversed hg hm ha hs
theorem pe_revLK {e : Expr} {te : TE} {k : Nat} {p1 p2 p3 pos : Pos} (he : PE X e te) (h : X.K = K := by rfl) : PE X (.Subscript e (.Slice none none (some (.UnaryOp .USub (.Constant (.int 1) k p1) p2)) p3) pos) (tRevL K te) := by subst h; exact pe_revL he
theorem pe_fldK {e : Expr} {ta : TE} {f : Str} {pos : Pos} (he : PE X e ta) (h : X.K = K := by rfl) (hb : attributeBase e f X.env (eval e X.env) = eval e X.env := by rfl) : PE X (.Attribute e f pos) (tFld K ta f) := by subst h; exact pe_fld he hb
theorem ps_fldK {o value : Expr} {ta tv : TE} {f : Str} {pos pos' : Pos} (ha : PE X o ta) (hv : PE X value tv) (h : X.K = K := by rfl) (hs : swapsWith value (some (.Attribute o f pos')) pos.line X.env = pure false := by rfl) :
    PS X (.Assign [.Attribute o f pos'] value pos) (sFld K ta tv f) := by subst h; exact ps_fld ha hv hs
end
/-- the built-ins that the text calls are still the built-ins -/
structure Blt (mg : Str → Option Value) : Prop where
  len : mg "len" = none
  sum : mg "sum" = none
  max : mg "max" = none
  min : mg "min" = none
  all : mg "all" = none
  any : mg "any" = none
  list : mg "list" = none
  range : mg "range" = none
  enumerate : mg "enumerate" = none
  zip : mg "zip" = none
  reversed : mg "reversed" = none
  isinstance : mg "isinstance" = none
  int : mg "int" = none
  bool : mg "bool" = none
  tuple : mg "tuple" = none
  sorted : mg "sorted" = none
end Gs

namespace Gs
open PySem PySem.Spec PyProof.Rows L2 Evl
/-! ### isinstance of data -/
def tyD : PyData → String
  | .none => "NoneType" | .bool _ => "bool" | .int _ => "int" | .str _ => "str" | .list _ => "list" | .tuple _ => "tuple" | .dict _ => "dict"
theorem Ds.ty {K : PySem.W.Frag} {H : Hp} {v : V} {d : PyData} (h : Ds H v d) : TyX K H v (.type (tyD d)) := by
  cases h with
  | non => exact .base .non
  | bl b => exact .base (.bl b)
  | int i => exact .base (.int i)
  | str x => exact .base (.str x)
  | lst h1 _ _ => exact .base (.lst h1)
  | tup h1 _ _ => exact .base (.tup h1)
section
variable {K : PySem.W.Frag} {σ : L2.St} {G : Hp} {ta : TE} {d : PyData}
theorem evd_isi {n : String} {b : Bool} (ha : EvD ta σ G d) (hb : kitB (tyD d) n = some b) : EvD (tCB (rIsi K) (tCons ta (tCons (tC (.ty n)) tNil))) σ G (.bool b) := fun H1 a Q q =>
  ha H1 a _ fun v H2 e z => ⟨v, .ty n, _, _, b, rfl, .ty n, (z.mono (gr_ex a e)).ty, kit_ty hb, q _ H2 e (.bl b)⟩
end
/-! ### how a body ends -/
section
variable {G0 H0 G H : Hp} {d : PyData} {ds : List PyData} {Q : VK}
theorem Up.retD (u : Up G0 H0 G H) (k : ∀ v H2, Ex H0 H2 → Ds (gr G0 H0 H2) v d → Q v H2) : ∀ v H2, Ex H H2 → Ds (gr G H H2) v d → Q v H2 := fun v H2 e z => k v H2 (u.data e).h ((u.data e).fin z)
theorem Up.retN (u : Up G0 H0 G H) (k : ∀ p xs H2, Ex H0 H2 → H0 p = none → H2 p = some (.lst xs) → DsA (but (gr G0 H0 H2) p) xs ds → Q (.ref p) H2) :
    ∀ p xs H2, Ex H H2 → H p = none → H2 p = some (.lst xs) → DsA (but (gr G H H2) p) xs ds → Q (.ref p) H2 := fun p xs H2 e hp h2 z => k p xs H2 (u.data e).h (none_of_ex u.h hp) h2 (z.mono (but_mono (u.data e).ex))
/-- the value in hand is handed back -/
theorem Up.outD (u : Up G0 H0 G H) (k : ∀ v H2, Ex H0 H2 → Ds (gr G0 H0 H2) v d → Q v H2) {v : V} (z : Ds G v d) : Q v H := k v H u.h (u.fin z)
theorem Up.outN (u : Up G0 H0 G H) (k : ∀ p xs H2, Ex H0 H2 → H0 p = none → H2 p = some (.lst xs) → DsA (but (gr G0 H0 H2) p) xs ds → Q (.ref p) H2) {p : Addr} {xs : List V} (h0 : H0 p = none) (g0 : G p = none) (hp : H p = some (.lst xs)) (z : DsA G xs ds) : Q (.ref p) H :=
  k p xs H u.h h0 hp (u.finN g0 z)
theorem DsA.one {vs : List V} (h : DsA H vs [d]) : ∃ v, vs = [v] ∧ Ds H v d := by
  obtain ⟨v, vr, rfl, h1, h2⟩ := h.uncons
  exact ⟨v, by rw [h2.unnil], h1⟩
theorem DsA.two {vs : List V} {d1 d2 : PyData} (h : DsA H vs [d1, d2]) : ∃ v w, vs = [v, w] ∧ Ds H v d1 ∧ Ds H w d2 := by
  obtain ⟨v, vr, rfl, h1, h2⟩ := h.uncons
  obtain ⟨w, rfl, h3⟩ := h2.one
  exact ⟨v, w, rfl, h1, h3⟩
theorem DsA.three {vs : List V} {d1 d2 d3 : PyData} (h : DsA H vs [d1, d2, d3]) : ∃ v w x, vs = [v, w, x] ∧ Ds H v d1 ∧ Ds H w d2 ∧ Ds H x d3 := by
  obtain ⟨v, vr, rfl, h1, h2⟩ := h.uncons
  obtain ⟨w, x, rfl, h3, h4⟩ := h2.two
  exact ⟨v, w, x, rfl, h1, h3, h4⟩
theorem DsA.four {vs : List V} {d1 d2 d3 d4 : PyData} (h : DsA H vs [d1, d2, d3, d4]) : ∃ v w x y, vs = [v, w, x, y] ∧ Ds H v d1 ∧ Ds H w d2 ∧ Ds H x d3 ∧ Ds H y d4 := by
  obtain ⟨v, vr, rfl, h1, h2⟩ := h.uncons
  obtain ⟨w, x, y, rfl, h3, h4, h5⟩ := h2.three
  exact ⟨v, w, x, y, rfl, h1, h3, h4, h5⟩
end
/-! ### sizes -/
/-- numbers of at most a thousand bits -/
def big : Nat := 2 ^ 1000
theorem mul_ok {i j : Int} (hi : i.natAbs < 1000 * big) (hj : j.natAbs < 1000 * big) : CMulW i j := by
  have h : 1000 * big < 2 ^ 1010 := by
    show 1000 * 2 ^ 1000 < 2 ^ 1010
    decide +kernel
  exact wide_mul (a := 1010) (b := 1010) (Nat.lt_trans hi h) (Nat.lt_trans hj h) (by decide) (by decide) (by decide)
theorem div_ok {i j : Int} (h0 : 0 < j) (hj : j.natAbs < 1000 * big) : CDivW i j := by
  have h : 1000 * big < 2 ^ 1010 := by
    show 1000 * 2 ^ 1000 < 2 ^ 1010
    decide +kernel
  exact wide_div (b := 1010) h0 (Nat.lt_trans hj h) (by decide) (by decide)
theorem big_1000000 : 1000000 < big := by
  show 1000000 < 2 ^ 1000
  decide +kernel
theorem kit_int_int : kitB "int" "int" = some true := by decide +kernel
theorem kit_bool_int : kitB "bool" "int" = some true := by decide +kernel
theorem kit_none_int : kitB "NoneType" "int" = some false := by decide +kernel
theorem kit_str_int : kitB "str" "int" = some false := by decide +kernel
theorem kit_list_int : kitB "list" "int" = some false := by decide +kernel
theorem kit_tuple_int : kitB "tuple" "int" = some false := by decide +kernel
theorem kit_int_bool : kitB "int" "bool" = some false := by decide +kernel
theorem kit_bool_bool : kitB "bool" "bool" = some true := by decide +kernel
theorem kit_int_tuple : kitB "int" "tuple" = some false := by decide +kernel
theorem kit_none_tuple : kitB "NoneType" "tuple" = some false := by decide +kernel
theorem kit_list_tuple : kitB "list" "tuple" = some false := by decide +kernel
theorem kit_str_tuple : kitB "str" "tuple" = some false := by decide +kernel
theorem kit_bool_tuple : kitB "bool" "tuple" = some false := by decide +kernel
theorem kit_tuple_tuple : kitB "tuple" "tuple" = some true := by decide +kernel
theorem kit_list_list : kitB "list" "list" = some true := by decide +kernel
theorem kit_tuple_list : kitB "tuple" "list" = some false := by decide +kernel
theorem kit_none_list : kitB "NoneType" "list" = some false := by decide +kernel
theorem kit_str_list : kitB "str" "list" = some false := by decide +kernel
theorem kit_int_list : kitB "int" "list" = some false := by decide +kernel
theorem kit_dict_list : kitB "dict" "list" = some false := by decide +kernel
end Gs
namespace Gs
open PySem L2 Evl
theorem evd_min3 {σ : St} {G : Hp} {ta tb tc : TE} {i j l : Int} (ha : EvD ta σ G (.int i)) (hb : EvD tb σ G (.int j)) (hc : EvD tc σ G (.int l)) : EvD (tCB rMin3 (tCons ta (tCons tb (tCons tc tNil)))) σ G (.int (min i (min j l))) := fun H1 a Q q =>
  ha.seq hb a fun x y H3 e zx zy => (hc.mono (ex_gr (H2 := H3) a)) H3 (gr_ex a e) _ fun z H4 e4 zz => ⟨i, j, l, by rw [zx.ofInt, zy.ofInt, zz.ofInt], q _ H4 (e.trans e4) (.int _)⟩
end Gs

/-! The program's functions, in plain Lean. -/
namespace Gs
open PySem
abbrev Day := Int × Int × Int × Int
abbrev Deed := Int × Int
def dayD (d : Day) : PyData := .tuple [.int d.1, .int d.2.1, .int d.2.2.1, .int d.2.2.2]
def deedD (d : Deed) : PyData := .tuple [.int d.1, .int d.2]
def intsD (l : List Int) : PyData := .list (l.map PyData.int)
def daysD (l : List Day) : PyData := .list (l.map dayD)
def deedsD (l : List Deed) : PyData := .list (l.map deedD)
def isNum : PyData → Bool
  | .int n => decide (0 ≤ n)
  | _ => false
def areNums (d : PyData) (m : Int) : Bool := match d with
  | .tuple xs => decide ((xs.length : Int) = m) && (xs.map isNum).all id
  | _ => false
def nights : Int → List Deed → List Int
  | _, [] => []
  | left, d :: ds => (left + d.1 - d.2) :: nights (left + d.1 - d.2) ds
def leftOf (left : Int) (ds : List Deed) : Int := ds.foldl (fun l d => l + d.1 - d.2) left
def gainD (day : Day) (deed : Deed) : Int := deed.2 * day.2.2.1 - deed.1 * day.1
def gainOf (days : List Day) (dealing : List Deed) : Int := (List.zipWith gainD days dealing).sum
/-- whether a deed can be, behind which left is stored -/
def okDeed (day : Day) (room left : Int) (deed : Deed) : Bool := decide (0 ≤ deed.1) && decide (deed.1 ≤ day.2.1) && (decide (0 ≤ deed.2) && decide (deed.2 ≤ day.2.2.2)) && (decide (0 ≤ left) && decide (left ≤ room))
/-- the first place (from at on) where it can't be -/
def faultFrom : List Day → Int → Int → Int → List Deed → Int
  | day :: days, room, left, at_, d :: ds => if okDeed day room (left + d.1 - d.2) d = true then faultFrom days room (left + d.1 - d.2) (at_ + 1) ds else at_
  | _, _, _, _, _ => -1
def faultOf (days : List Day) (room : Int) (dealing : List Deed) : Int := faultFrom days room 0 0 dealing
def goodDay (d : Day) : Prop := 0 ≤ d.1 ∧ 0 ≤ d.2.1 ∧ 0 ≤ d.2.2.1 ∧ 0 ≤ d.2.2.2
def smallDay (d : Day) : Prop := d.1.natAbs < big ∧ d.2.1.natAbs < big ∧ d.2.2.1.natAbs < big ∧ d.2.2.2.natAbs < big
def smallDeed (d : Deed) : Prop := d.1.natAbs < big ∧ d.2.natAbs < big
theorem nights_length : ∀ (l : Int) (ds : List Deed), (nights l ds).length = ds.length
  | _, [] => rfl
  | l, d :: ds => by
    show (nights _ ds).length + 1 = ds.length + 1
    rw [nights_length]
theorem take_succ_of {α : Type} : ∀ {l : List α} {i : Nat} {x : α}, l[i]? = some x → l.take (i + 1) = l.take i ++ [x]
  | [], i, x, h => by simp at h
  | a :: l, 0, x, h => by
    have e : a = x := Option.some.inj h
    subst e; rfl
  | a :: l, i + 1, x, h => by
    show a :: l.take (i + 1) = a :: l.take i ++ [x]
    rw [take_succ_of (l := l) (i := i) (x := x) h]; rfl
theorem leftOf_append (l : Int) (a b : List Deed) : leftOf l (a ++ b) = leftOf (leftOf l a) b := List.foldl_append
theorem nights_append : ∀ (l : Int) (a b : List Deed), nights l (a ++ b) = nights l a ++ nights (leftOf l a) b
  | _, [], _ => rfl
  | l, d :: a, b => by
    show (l + d.1 - d.2) :: nights (l + d.1 - d.2) (a ++ b) = (l + d.1 - d.2) :: nights (l + d.1 - d.2) a ++ nights (leftOf (l + d.1 - d.2) a) b
    rw [nights_append]; rfl
end Gs
namespace Gs
open PySem L2 Evl
theorem z_seq {t u : TS} {D : Ends} {σ : St} {H : Hp} (h : t { D with nx := u D } σ H) : tSeq t u D σ H := h
theorem map_get {α β : Type} {f : α → β} {l : List α} {i : Nat} {y : β} (h : (l.map f)[i]? = some y) : ∃ x, l[i]? = some x ∧ y = f x := by
  rw [List.getElem?_map] at h
  cases q : l[i]? with
  | none => rw [q] at h; cases h
  | some x => rw [q] at h; exact ⟨x, rfl, (Option.some.inj h).symm⟩
theorem tuple_inj {a b : List PyData} (h : PyData.tuple a = PyData.tuple b) : a = b := by cases h; rfl
theorem stp_deed {l : List Deed} {j k i : Nat} {G : Hp} {σ σ' : St} (h : STp (l.map deedD) [j, k] i G σ σ') : ∃ d, l[i]? = some d ∧ σ' = (σ.set j (some (.int d.1))).set k (some (.int d.2)) := by
  obtain ⟨vs, es, h1, h2, h3⟩ := h
  obtain ⟨d, hd, e⟩ := map_get h1
  have e := tuple_inj e
  subst e
  obtain ⟨v, w, rfl, z1, z2⟩ := h2.two
  cases z1; cases z2
  cases h3 with
  | cons h3 => cases h3 with
    | cons h3 => cases h3; exact ⟨d, hd, rfl⟩
theorem stp_day {l : List Day} {j k m n i : Nat} {G : Hp} {σ σ' : St} (h : STp (l.map dayD) [j, k, m, n] i G σ σ') : ∃ d, l[i]? = some d ∧ σ' = (((σ.set j (some (.int d.1))).set k (some (.int d.2.1))).set m (some (.int d.2.2.1))).set n (some (.int d.2.2.2)) := by
  obtain ⟨vs, es, h1, h2, h3⟩ := h
  obtain ⟨d, hd, e⟩ := map_get h1
  have e := tuple_inj e
  subst e
  obtain ⟨v, w, x, y, rfl, z1, z2, z3, z4⟩ := h2.four
  cases z1; cases z2; cases z3; cases z4
  cases h3 with
  | cons h3 => cases h3 with
    | cons h3 => cases h3 with
      | cons h3 => cases h3 with
        | cons h3 => cases h3; exact ⟨d, hd, rfl⟩
theorem deed_tuples (l : List Deed) : ∀ d ∈ l.map deedD, ∃ es, d = .tuple es ∧ es.length = 2 := fun d hd => by
  obtain ⟨x, _, rfl⟩ := List.mem_map.mp hd
  exact ⟨_, rfl, rfl⟩
theorem day_tuples (l : List Day) : ∀ d ∈ l.map dayD, ∃ es, d = .tuple es ∧ es.length = 4 := fun d hd => by
  obtain ⟨x, _, rfl⟩ := List.mem_map.mp hd
  exact ⟨_, rfl, rfl⟩
/-- a tuple's items stored at names, at once -/
theorem g_tup {K : PySem.W.Frag} {js : List Nat} {m : Nat} {v : V} {es : List PyData} {G H : Hp} {σ : St} {Kk : St → Hp → Prop} (z : Ds G v (.tuple es)) (a : Ex G H) (h1 : es.length = m) (h2 : js.length = m) (k : ∀ vs σ', DsA G vs es → GSet vs js σ σ' → Kk σ' H) : gTup K m (gNames js) v σ H Kk := by
  obtain ⟨p, xs, rfl, hp, hx⟩ := z.ofTuple
  exact ⟨p, xs, rfl, SqT.of (a _ _ hp), by rw [hx.1, h1], gNames_run (by rw [hx.1, h1, h2]) fun σ' g => k xs σ' hx g⟩
theorem g_deed {K : PySem.W.Frag} {j k : Nat} {v : V} {d : Deed} {G H : Hp} {σ : St} {Kk : St → Hp → Prop} (z : Ds G v (deedD d)) (a : Ex G H) (q : Kk ((σ.set j (some (.int d.1))).set k (some (.int d.2))) H) : gTup K 2 (gNames [j, k]) v σ H Kk :=
  g_tup z a rfl rfl fun vs σ' h2 h3 => by
    obtain ⟨v, w, rfl, z1, z2⟩ := h2.two
    cases z1; cases z2
    cases h3 with
    | cons h3 => cases h3 with
      | cons h3 => cases h3; exact q
theorem g_day {K : PySem.W.Frag} {j k m n : Nat} {v : V} {d : Day} {G H : Hp} {σ : St} {Kk : St → Hp → Prop} (z : Ds G v (dayD d)) (a : Ex G H) (q : Kk ((((σ.set j (some (.int d.1))).set k (some (.int d.2.1))).set m (some (.int d.2.2.1))).set n (some (.int d.2.2.2))) H) : gTup K 4 (gNames [j, k, m, n]) v σ H Kk :=
  g_tup z a rfl rfl fun vs σ' h2 h3 => by
    obtain ⟨v, w, x, y, rfl, z1, z2, z3, z4⟩ := h2.four
    cases z1; cases z2; cases z3; cases z4
    cases h3 with
    | cons h3 => cases h3 with
      | cons h3 => cases h3 with
        | cons h3 => cases h3 with
          | cons h3 => cases h3; exact q
theorem atI_map {α : Type} {f : α → PyData} {l : List α} {i : Nat} {x : α} (h : l[i]? = some x) : atI (l.map f) (i : Int) = some (f x) := atI_nat (by rw [List.getElem?_map, h]; rfl)
theorem lt_of_get {α : Type} {l : List α} {i : Nat} {x : α} (h : l[i]? = some x) : i < l.length := (List.getElem?_eq_some_iff.mp h).1
theorem get_of_lt {α : Type} {l : List α} {i : Nat} (h : i < l.length) : ∃ x, l[i]? = some x := ⟨_, List.getElem?_eq_getElem h⟩
end Gs
namespace Gs
open PySem L2
theorem z_next {D : Ends} {σ : St} {H : Hp} (h : D.nx σ H) : tNext D σ H := h
end Gs
namespace Gs
open PySem L2 Evl
section
variable {K : PySem.W.Frag} {σ : St} {G H : Hp} {ta tb tc te tl tx : TE} {t tt : TT} {d e : PyData} {ds es : List PyData} {D : Ends} {tu tw u : TS} {g : TG}
theorem q_set {i : Nat} (a : Ex G H) (h : EvD te σ G d) (k : ∀ v H2, Ex H H2 → Ds (gr G H H2) v d → u D (σ.set i (some v)) H2) : tSeq (tAsg te (gName i)) u D σ H := z_seq (z_set a h k)
theorem q_setI {i : Nat} {n : Int} (a : Ex G H) (h : EvD te σ G (.int n)) (k : ∀ H2, Ex H H2 → u D (σ.set i (some (.int n))) H2) : tSeq (tAsg te (gName i)) u D σ H := z_seq (z_setI a h k)
theorem q_setB {i : Nat} {n : Bool} (a : Ex G H) (h : EvD te σ G (.bool n)) (k : ∀ H2, Ex H H2 → u D (σ.set i (some (.bl n))) H2) : tSeq (tAsg te (gName i)) u D σ H := z_seq (z_setB a h k)
theorem q_setZ {i : Nat} (a : Ex G H) (h : EvD te σ G .none) (k : ∀ H2, Ex H H2 → u D (σ.set i (some .non)) H2) : tSeq (tAsg te (gName i)) u D σ H := z_seq (z_setZ a h k)
theorem q_setN {i : Nat} (a : Ex G H) (h : EvN te σ G ds) (k : ∀ p vs H2, Ex H H2 → H p = none → H2 p = some (.lst vs) → DsA (but (gr G H H2) p) vs ds → u D (σ.set i (some (.ref p))) H2) : tSeq (tAsg te (gName i)) u D σ H := z_seq (z_setN a h k)
theorem q_if {b : Bool} (a : Ex G H) (h : EvT t σ G b) (h1 : b = true → ∀ H2, Ex H H2 → tu { D with nx := u D } σ H2) (h2 : b = false → ∀ H2, Ex H H2 → tw { D with nx := u D } σ H2) : tSeq (tIfS t tu tw) u D σ H := z_seq (z_if a h h1 h2)
theorem q_if1 {b : Bool} (a : Ex G H) (h : EvT t σ G b) (h1 : b = true → ∀ H2, Ex H H2 → tu { D with nx := u D } σ H2) (h2 : b = false → ∀ H2, Ex H H2 → u D σ H2) : tSeq (tIfS t tu tNext) u D σ H := z_seq (z_if a h h1 h2)
theorem z_if1 {b : Bool} (a : Ex G H) (h : EvT t σ G b) (h1 : b = true → ∀ H2, Ex H H2 → tu D σ H2) (h2 : b = false → ∀ H2, Ex H H2 → D.nx σ H2) : tIfS t tu tNext D σ H := z_if a h h1 h2
theorem q_drop (a : Ex G H) (h : EvD te σ G d) (k : ∀ H2, Ex H H2 → u D σ H2) : tSeq (tDrop te) u D σ H := z_seq (z_drop a h k)
theorem q_app {i : Nat} {l : Addr} {xs : List V} (a : Ex G H) (hs : σ[i]? = some (some (.ref l))) (hl : H l = some (.lst xs)) (h : EvD te σ G d) (hz : xs.length < 100000)
    (k : ∀ v H2, Ex H H2 → Ds (gr G H H2) v d → u D σ (upd H2 l (.lst (xs ++ [v])))) : tSeq (tDrop (tBM K "list" rAppend (tVar i) (tCons te tNil))) u D σ H := z_seq (z_app a hs hl h hz k)
theorem q_for {wi : TI} {n : Nat} {S : Nat → Hp → St → St → Prop} (a : Ex G H) (hs : Src wi g σ G n S)
    (k : ∀ H2, Ex H H2 → ∃ Pv : Nat → St → Hp → Hp → Prop, Pv 0 σ (gr G H H2) H2 ∧ (∀ i σ' G' H', Pv i σ' G' H' → Ex (gr G H H2) G' ∧ Ex G' H') ∧
      (∀ i σ' G' H' H3 σ3, i < n → Pv i σ' G' H' → Ex H' H3 → S i (gr G' H' H3) σ' σ3 → tu { D with nx := Px Pv (i + 1), ct := Px Pv (i + 1), bk := u D } σ3 H3) ∧
      (∀ σ' G' H', Pv n σ' G' H' → u D σ' H')) : tSeq (tFor wi g tu) u D σ H := z_seq (z_for a hs k)
/-- a, b, .. = e -/
theorem q_deed {x : Deed} {j k : Nat} (a : Ex G H) (h : EvD te σ G (deedD x)) (q : ∀ H2, Ex H H2 → u D ((σ.set j (some (.int x.1))).set k (some (.int x.2))) H2) : tSeq (tAsg te (gTup K 2 (gNames [j, k]))) u D σ H :=
  z_seq (h H a _ fun v H2 e z => g_deed z (gr_ex a e) (q H2 e))
theorem q_day {x : Day} {j k m n : Nat} (a : Ex G H) (h : EvD te σ G (dayD x)) (q : ∀ H2, Ex H H2 → u D ((((σ.set j (some (.int x.1))).set k (some (.int x.2.1))).set m (some (.int x.2.2.1))).set n (some (.int x.2.2.2))) H2) : tSeq (tAsg te (gTup K 4 (gNames [j, k, m, n]))) u D σ H :=
  z_seq (h H a _ fun v H2 e z => g_day z (gr_ex a e) (q H2 e))
theorem z_fall (h : u D σ H) : ({ D with nx := u D } : Ends).nx σ H := h
end
end Gs
namespace Gs
open PySem L2 Evl
section
variable {K : PySem.W.Frag} {σ : St} {G H : Hp} {ta tb tc te tl tx : TE} {t tt : TT} {d e : PyData} {ds es : List PyData}
theorem range_zip {α β : Type} (F : α → β → PyData) (l : List α) (m : List β) : (List.range (min l.length m.length)).map (fun i => match l[i]?, m[i]? with
    | some x, some y => F x y
    | _, _ => PyData.none) = List.zipWith F l m := by
  apply List.ext_getElem?
  intro i
  rw [List.getElem?_map, List.getElem?_zipWith]
  by_cases hi : i < min l.length m.length
  · rw [List.getElem?_range hi]
    have h1 : i < l.length := by omega
    have h2 : i < m.length := by omega
    rw [List.getElem?_eq_getElem h1, List.getElem?_eq_getElem h2]
    simp [h1, h2]
  · rw [List.getElem?_eq_none (by simpa using hi)]
    by_cases h1 : i < l.length
    · rw [List.getElem?_eq_none (l := m) (by omega)]
      cases l[i]? <;> rfl
    · rw [List.getElem?_eq_none (l := l) (by omega)]
      rfl
theorem evn_lcZ {α β : Type} {l : List α} {m : List β} {f : α → PyData} {g : β → PyData} {j k : Nat} {vs : List Nat} (F : α → β → PyData) (ha : EvD ta σ G (.list (l.map f))) (hb : EvD tb σ G (.list (m.map g))) (hz : l.length ≤ 40000)
    (hw : ∀ x y, wipe (((wipe σ vs).set j (some x)).set k (some y)) vs = wipe σ vs)
    (he : ∀ Gx v w x y, Ex G Gx → x ∈ l → y ∈ m → Ds Gx v (f x) → Ds Gx w (g y) → EvD te (((wipe σ vs).set j (some v)).set k (some w)) Gx (F x y)) :
    EvN (tLc (iZip K (tCons ta (tCons tb tNil))) (gTup K 2 (gNames [j, k])) tYes te vs) σ G (List.zipWith F l m) := by
  have hs := src_zip (K := K) (j := j) (k := k) ha hb
  rw [List.length_map, List.length_map] at hs
  have := evn_lc (tt := tYes) (te := te) (vs := vs) hs (by omega) (fun _ => true) (fun i => match l[i]?, m[i]? with
      | some x, some y => F x y
      | _, _ => PyData.none) (fun i Gx σ' hS => by
      obtain ⟨v, w, d, e, _, _, _, _, rfl⟩ := hS
      exact hw v w) (fun i Gx σ' _ _ _ H1 _ Q q => q H1 (Ex.refl _)) (fun i Gx σ' _ gx hS _ => by
      obtain ⟨v, w, d, e, h1, h2, z1, z2, rfl⟩ := hS
      obtain ⟨x, hx, rfl⟩ := map_get h1
      obtain ⟨y, hy, rfl⟩ := map_get h2
      rw [hx, hy]
      exact he Gx v w x y gx (List.mem_of_getElem? hx) (List.mem_of_getElem? hy) z1 z2)
  rwa [givenD_all, range_zip] at this
theorem map_int_of {l : List PyData} {ns : List Int} (h : l = ns.map PyData.int) (z : EvN te σ G l) : EvD te σ G (.list (ns.map PyData.int)) := (z.to h).asD
end
theorem faultFrom_drop {days : List Day} {room : Int} {dealing : List Deed} {left : Int} {at_ : Int} {i : Nat} {x : Day} {d : Deed} (hx : days[i]? = some x) (hd : dealing[i]? = some d) :
    faultFrom (days.drop i) room left at_ (dealing.drop i) = if okDeed x room (left + d.1 - d.2) d = true then faultFrom (days.drop (i + 1)) room (left + d.1 - d.2) (at_ + 1) (dealing.drop (i + 1)) else at_ := by
  have h1 : days.drop i = x :: days.drop (i + 1) := by
    rw [List.drop_eq_getElem_cons (lt_of_get hx)]
    congr 1
    rw [List.getElem?_eq_getElem (lt_of_get hx)] at hx
    exact Option.some.inj hx
  have h2 : dealing.drop i = d :: dealing.drop (i + 1) := by
    rw [List.drop_eq_getElem_cons (lt_of_get hd)]
    congr 1
    rw [List.getElem?_eq_getElem (lt_of_get hd)] at hd
    exact Option.some.inj hd
  rw [h1, h2]
  rfl
theorem nights_get {l : List Deed} {i : Nat} {d : Deed} (h : l[i]? = some d) : ∀ left, (nights left l)[i]? = some (leftOf left (l.take i) + d.1 - d.2) := fun left => by
  have e : l = l.take i ++ d :: l.drop (i + 1) := by
    have h2 : l.drop i = d :: l.drop (i + 1) := by
      rw [List.drop_eq_getElem_cons (lt_of_get h)]
      congr 1
      rw [List.getElem?_eq_getElem (lt_of_get h)] at h
      exact Option.some.inj h
    rw [← h2, List.take_append_drop]
  have hl : (nights left (l.take i)).length = i := by
    rw [nights_length, List.length_take]
    have := lt_of_get h
    omega
  conv => lhs; rw [e]
  rw [nights_append, List.getElem?_append_right (by rw [hl]; exact Nat.le_refl _), hl, Nat.sub_self]
  rfl
end Gs

/-! == of data made of numbers, lists, tuples; the script's own rules. -/
namespace Gs
open PySem L2 Evl
def plain : Nat → PyData → Bool
  | _, .int _ => true
  | _, .bool _ => true
  | n + 1, .list xs => xs.all (plain n)
  | n + 1, .tuple xs => xs.all (plain n)
  | _, _ => false
mutual
theorem plain_lay : ∀ (d : PyData) (n : Nat), plain n d = true → d.canLay0 = true ∧ d.depth ≤ n
  | .int _, n, _ => ⟨by simp [PyData.canLay0], by simp [PyData.depth]⟩
  | .bool _, n, _ => ⟨by simp [PyData.canLay0], by simp [PyData.depth]⟩
  | .none, 0, h => by simp [plain] at h
  | .none, n + 1, h => by simp [plain] at h
  | .str _, 0, h => by simp [plain] at h
  | .str _, n + 1, h => by simp [plain] at h
  | .dict _, 0, h => by simp [plain] at h
  | .dict _, n + 1, h => by simp [plain] at h
  | .list xs, 0, h => by simp [plain] at h
  | .tuple xs, 0, h => by simp [plain] at h
  | .list xs, n + 1, h => by
    have q := plain_layAll xs n (by simpa [plain] using h)
    exact ⟨by simp only [PyData.canLay0]; exact q.1, by simp only [PyData.depth]; omega⟩
  | .tuple xs, n + 1, h => by
    have q := plain_layAll xs n (by simpa [plain] using h)
    exact ⟨by simp only [PyData.canLay0]; exact q.1, by simp only [PyData.depth]; omega⟩
theorem plain_layAll : ∀ (ds : List PyData) (n : Nat), (∀ d ∈ ds, plain n d = true) → PyData.canLayAll0 ds = true ∧ PyData.depthAll ds ≤ n
  | [], n, _ => ⟨by simp [PyData.canLayAll0], by simp [PyData.depthAll]⟩
  | d :: ds, n, h => by
    have q1 := plain_lay d n (h d List.mem_cons_self)
    have q2 := plain_layAll ds n fun x hx => h x (List.mem_cons_of_mem _ hx)
    exact ⟨by simp only [PyData.canLayAll0, q1.1, q2.1]; rfl, by simp only [PyData.depthAll]; omega⟩
end
theorem shaped_of {d : PyData} (n : Nat) (h : plain n d = true) (hn : n ≤ 64 := by decide) : SeqAt.shaped d = true := by
  obtain ⟨h1, h2⟩ := plain_lay d n h
  unfold SeqAt.shaped
  rw [h1, decide_eq_true (Nat.le_trans h2 hn)]
  rfl
theorem eqv_self {d : PyData} (n : Nat) (h : plain n d = true) : PyData.eqv d d = true := SeqAt.eqv_refl d (plain_lay d n h).1
theorem plain_ints (ns : List Int) : plain 1 (.list (ns.map PyData.int)) = true := by
  simp [plain]
theorem plain_day (d : Day) : plain 1 (dayD d) = true := rfl
theorem plain_deed (d : Deed) : plain 1 (deedD d) = true := rfl
theorem plain_days (l : List Day) : plain 2 (daysD l) = true := by
  show ((l.map dayD).all (plain 1)) = true
  rw [List.all_map]
  exact List.all_eq_true.mpr fun x _ => plain_day x
theorem plain_deeds (l : List Deed) : plain 2 (deedsD l) = true := by
  show ((l.map deedD).all (plain 1)) = true
  rw [List.all_map]
  exact List.all_eq_true.mpr fun x _ => plain_deed x
/-! ### the script (a list of the caller's, read) -/
section
variable {K : PySem.W.Frag} {σ : St} {G G' H : Hp} {l : Addr} {ns : List Int} {j : Nat}
/-- the script stands in slot j -/
def Scr (K : PySem.W.Frag) (G : Hp) (l : Addr) (ns : List Int) : Prop := SqL K G l (ns.map V.int)
theorem Scr.mono (h : Scr K G l ns) (e : Ex G G') : Scr K G' l ns := ex_l e h
theorem evd_sumS (h : Scr K G l ns) (e : σ[j]? = some (some (.ref l))) : EvD (tCB (rSum K) (tCons (tVar j) tNil)) σ G (.int ns.sum) := fun H1 a Q q => ⟨_, e, l, ns, rfl, h.mono a, q _ H1 (Ex.refl _) (.int _)⟩
theorem evd_lenS (h : Scr K G l ns) (e : σ[j]? = some (some (.ref l))) : EvD (tCB (rLenS K) (tCons (tVar j) tNil)) σ G (.int (ns.length : Int)) := fun H1 a Q q => by
  refine ⟨_, e, l, ns.map V.int, rfl, .inl (h.mono a), ?_⟩
  rw [List.length_map]
  exact q _ H1 (Ex.refl _) (.int _)
theorem evd_ixS {tb : TE} {i n : Int} (h : Scr K G l ns) (e : σ[j]? = some (some (.ref l))) (hb : EvD tb σ G (.int i)) (hi : atI ns i = some n) : EvD (tOp (rIxL K) (tVar j) tb) σ G (.int n) := fun H1 a Q q =>
  ⟨_, e, hb H1 a _ fun v H2 e2 z => ⟨l, ns.map V.int, i, .int n, rfl, z.ofInt, (h.mono a).mono e2, by
    unfold atI at hi ⊢
    rw [List.length_map]
    cases r : ixN ns.length i with
    | none => rw [r] at hi; cases hi
    | some k =>
      rw [r] at hi
      show (ns.map V.int)[k]? = _
      rw [List.getElem?_map]
      have hi : ns[k]? = some n := hi
      rw [hi]
      rfl, q _ H2 e2 (.int _)⟩⟩
theorem dpAll_ints {H : Hp} : ∀ ns : List Int, DpAll K H (ns.map V.int) (ns.map PyData.int)
  | [] => .nil
  | n :: ns => .cons (.int n) (dpAll_ints ns)
theorem Scr.dp (h : Scr K G l ns) : Dp K G (.ref l) (.list (ns.map PyData.int)) := .lst h (dpAll_ints ns)
/-- script != [] -/
theorem evd_neS (h : Scr K G l ns) (e : σ[j]? = some (some (.ref l))) : EvD (tOp (rNeD K) (tVar j) (tLst tNil)) σ G (.bool (!ns.isEmpty)) := fun H1 a Q q =>
  ⟨_, e, Nat.zero_le _, fun p hp => ⟨_, .list [], ((h.mono a).mono (Ex.new hp)).dp, .lst (SqL.of upd_same) .nil, shaped_of 1 (plain_ints ns), shaped_of 1 rfl, by
    have : PyData.eqv (.list (ns.map PyData.int)) (.list []) = ns.isEmpty := by cases ns <;> simp [PyData.eqv, PyData.eqvAll]
    rw [this]
    exact q _ _ (Ex.new hp) (.bl _)⟩⟩
end
end Gs

/-! What the laws build from a script, in plain Lean. -/
namespace Gs
open PySem L2 Evl
def pick (l : List Int) (i : Int) : Int := l.getD i.toNat 0
theorem pick_at {l : List Int} {i : Int} (h0 : 0 ≤ i) (h : i < l.length) : atI (l.map PyData.int) i = some (.int (pick l i)) := by
  obtain ⟨n, rfl⟩ := Int.eq_ofNat_of_zero_le h0
  have hn : n < l.length := by omega
  refine atI_nat ?_
  rw [List.getElem?_map, List.getElem?_eq_getElem hn]
  unfold pick
  rw [Int.toNat_natCast, List.getD_eq_getElem?_getD, List.getElem?_eq_getElem hn]
  rfl
theorem pick_mem {l : List Int} {i : Int} (h0 : 0 ≤ i) (h : i < l.length) : pick l i ∈ l := by
  obtain ⟨n, rfl⟩ := Int.eq_ofNat_of_zero_le h0
  have hn : n < l.length := by omega
  unfold pick
  rw [Int.toNat_natCast, List.getD_eq_getElem?_getD, List.getElem?_eq_getElem hn]
  exact List.getElem_mem hn
def highs : List Int := [6, 40, 10 ^ (20 : Int).toNat, 3]
def mosts : List Int := [3, 30, 10 ^ (25 : Int).toNat, 2]
def highOf (m : Int) : Int := pick highs (m % 4)
def mostOf (m : Int) : Int := pick mosts (m / 4 % 4)
def otherOf (m c : Int) : Int := if m / 16 % 3 > 0 then c / 7 % highOf m else c % highOf m + c / 7 % 3 - 1
def dayOf (m : Int) (i : Nat) (c : Int) : Day := (c % highOf m, c / 11 % mostOf m, max 0 (otherOf m c), (c + (i : Int)) / 13 % mostOf m)
def daysFrom (m : Int) : Nat → List Int → List Day
  | _, [] => []
  | i, c :: cs => dayOf m i c :: daysFrom m (i + 1) cs
def moreDays (m : Int) (l : List Day) : List Day := (List.range (70 + m % 20).toNat).map fun (i : Nat) => l.getD (((i : Int) * (i : Int) + (i : Int) / 7) % (l.length : Int)).toNat (0, 0, 0, 0)
def lawDays (s : List Int) : List Day := if s.sum / 48 % 9 = 2 ∧ s ≠ [] then moreDays s.sum (daysFrom s.sum 0 s) else daysFrom s.sum 0 s
def rooms (m : Int) : List Int := [0, 1 + m / 5 % 4, 7 + m / 5 % 40, 10 ^ (24 : Int).toNat + m % 1000, 10 ^ (60 : Int).toNat]
def lawRoom (s : List Int) : Int := pick (rooms s.sum) (s.sum / 3 % 5)
theorem daysFrom_append (m : Int) : ∀ (i : Nat) (a b : List Int), daysFrom m i (a ++ b) = daysFrom m i a ++ daysFrom m (i + a.length) b
  | i, [], b => by simp [daysFrom]
  | i, c :: a, b => by
    show dayOf m i c :: daysFrom m (i + 1) (a ++ b) = dayOf m i c :: daysFrom m (i + 1) a ++ daysFrom m (i + (a.length + 1)) b
    rw [daysFrom_append m (i + 1) a b, show i + 1 + a.length = i + (a.length + 1) by omega]
    rfl
theorem daysFrom_length (m : Int) : ∀ (i : Nat) (a : List Int), (daysFrom m i a).length = a.length
  | _, [] => rfl
  | i, c :: a => by
    show (daysFrom m (i + 1) a).length + 1 = a.length + 1
    rw [daysFrom_length]
theorem high_pos (m : Int) : 0 < highOf m ∧ highOf m ≤ 10 ^ 20 := by
  have h := pick_mem (l := highs) (i := m % 4) (by omega) (by show m % 4 < 4; omega)
  have : ∀ x ∈ highs, 0 < x ∧ x ≤ 10 ^ 20 := by decide +kernel
  exact this _ h
theorem most_pos (m : Int) : 0 < mostOf m ∧ mostOf m ≤ 10 ^ 25 := by
  have h := pick_mem (l := mosts) (i := m / 4 % 4) (by omega) (by show m / 4 % 4 < 4; omega)
  have : ∀ x ∈ mosts, 0 < x ∧ x ≤ 10 ^ 25 := by decide +kernel
  exact this _ h
/-- what the laws' days are -/
def lawDay (d : Day) : Prop := (0 ≤ d.1 ∧ d.1 ≤ 10 ^ 20) ∧ (0 ≤ d.2.1 ∧ d.2.1 ≤ 10 ^ 25) ∧ (0 ≤ d.2.2.1 ∧ d.2.2.1 ≤ 10 ^ 20 + 2) ∧ (0 ≤ d.2.2.2 ∧ d.2.2.2 ≤ 10 ^ 25)
theorem big_law : (10 ^ 62 : Int) < big := by
  show ((10 ^ 62 : Int)) < ((2 ^ 1000 : Nat) : Int)
  decide +kernel
theorem lawDay.good {d : Day} (h : lawDay d) : goodDay d := ⟨h.1.1, h.2.1.1, h.2.2.1.1, h.2.2.2.1⟩
theorem lawDay.small {d : Day} (h : lawDay d) : smallDay d := by
  have := big_law
  obtain ⟨⟨h1, h2⟩, ⟨h3, h4⟩, ⟨h5, h6⟩, h7, h8⟩ := h
  exact ⟨by omega, by omega, by omega, by omega⟩
theorem dayOf_law (m : Int) (i : Nat) (c : Int) : lawDay (dayOf m i c) := by
  obtain ⟨h1, h2⟩ := high_pos m
  obtain ⟨h3, h4⟩ := most_pos m
  have a1 := Int.emod_nonneg c (show highOf m ≠ 0 by omega)
  have a2 := Int.emod_lt_of_pos c h1
  have a3 := Int.emod_nonneg (c / 11) (show mostOf m ≠ 0 by omega)
  have a4 := Int.emod_lt_of_pos (c / 11) h3
  have a5 := Int.emod_nonneg ((c + (i : Int)) / 13) (show mostOf m ≠ 0 by omega)
  have a6 := Int.emod_lt_of_pos ((c + (i : Int)) / 13) h3
  have a7 := Int.emod_nonneg (c / 7) (show highOf m ≠ 0 by omega)
  have a8 := Int.emod_lt_of_pos (c / 7) h1
  refine ⟨⟨a1, ?_⟩, ⟨a3, ?_⟩, ⟨?_, ?_⟩, ⟨a5, ?_⟩⟩
  · show c % highOf m ≤ _; omega
  · show c / 11 % mostOf m ≤ _; omega
  · show 0 ≤ max 0 (otherOf m c); omega
  · show max 0 (otherOf m c) ≤ _
    unfold otherOf
    split <;> omega
  · show (c + (i : Int)) / 13 % mostOf m ≤ _; omega
theorem daysFrom_law (m : Int) : ∀ (i : Nat) (s : List Int), ∀ d ∈ daysFrom m i s, lawDay d
  | _, [], d, h => by simp [daysFrom] at h
  | i, c :: s, d, h => by
    rcases List.mem_cons.mp (show d ∈ dayOf m i c :: daysFrom m (i + 1) s from h) with rfl | h
    · exact dayOf_law m i c
    · exact daysFrom_law m (i + 1) s d h
theorem zero_law : lawDay (0, 0, 0, 0) := by refine ⟨⟨by decide, ?_⟩, ⟨by decide, ?_⟩, ⟨by decide, ?_⟩, ⟨by decide, ?_⟩⟩ <;> decide +kernel
theorem lawDays_law (s : List Int) : ∀ d ∈ lawDays s, lawDay d := by
  intro d h
  unfold lawDays at h
  split at h
  · obtain ⟨i, _, rfl⟩ := List.mem_map.mp h
    rw [List.getD_eq_getElem?_getD]
    cases q : (daysFrom s.sum 0 s)[(((i : Int) * (i : Int) + (i : Int) / 7) % ((daysFrom s.sum 0 s).length : Int)).toNat]? with
    | none => exact zero_law
    | some x => exact daysFrom_law _ _ _ _ (List.mem_of_getElem? q)
  · exact daysFrom_law _ _ _ d h
theorem lawDays_length (s : List Int) (h : s.length ≤ 63) : (lawDays s).length ≤ 100 := by
  unfold lawDays
  split
  · unfold moreDays
    rw [List.length_map, List.length_range]
    omega
  · rw [daysFrom_length]; omega
theorem lawDays_nil : lawDays [] = [] := rfl
theorem room_law (s : List Int) : 0 ≤ lawRoom s ∧ lawRoom s ≤ 10 ^ 60 := by
  have h := pick_mem (l := rooms s.sum) (i := s.sum / 3 % 5) (by omega) (by show s.sum / 3 % 5 < 5; omega)
  unfold rooms at h
  show 0 ≤ pick _ _ ∧ pick _ _ ≤ _
  simp only [List.mem_cons, List.not_mem_nil, or_false] at h
  have e24 : (10 : Int) ^ (24 : Int).toNat = 10 ^ 24 := rfl
  have e60 : (10 : Int) ^ (60 : Int).toNat = 10 ^ 60 := rfl
  rw [e24, e60] at h
  show 0 ≤ pick (rooms s.sum) (s.sum / 3 % 5) ∧ pick (rooms s.sum) (s.sum / 3 % 5) ≤ 10 ^ 60
  unfold rooms
  rw [e24, e60]
  rcases h with h | h | h | h | h <;> rw [h] <;> omega
/-- a list of ours that is changed no more -/
theorem Up.adopt {G0 H0 G H : Hp} {p : Addr} {o : HO} (u : Up G0 H0 G H) (gp : G p = none) (h0 : H0 p = none) (hp : H p = some o) : Up G0 H0 (upd G p o) H :=
  ⟨u.g.trans (Ex.new gp), fun a x e => by
    by_cases q : a = p
    · subst q; rw [upd_same] at e; cases e; exact hp
    · rw [upd_ne q] at e; exact u.s a x e, u.h, fun a x h q => by
    have ne : a ≠ p := fun z => by rw [z, h0] at h; cases h
    rw [upd_ne ne] at q
    exact u.n a x h q⟩
theorem adopt_ds {G : Hp} {p : Addr} {xs : List V} {ds : List PyData} (gp : G p = none) (z : DsA G xs ds) : Ds (upd G p (.lst xs)) (.ref p) (.list ds) := .list upd_same (z.mono (Ex.new gp))
theorem moreDays_map (m : Int) (l : List Day) : (moreDays m l).map dayD = (List.range (70 + m % 20).toNat).map fun (i : Nat) => dayD (l.getD (((i : Int) * (i : Int) + (i : Int) / 7) % (l.length : Int)).toNat (0, 0, 0, 0)) := by
  unfold moreDays
  rw [List.map_map]
  rfl
theorem atI_getD {α : Type} {f : α → PyData} {l : List α} {i : Int} {x : α} (h0 : 0 ≤ i) (h : i < l.length) : atI (l.map f) i = some (f (l.getD i.toNat x)) := by
  obtain ⟨n, rfl⟩ := Int.eq_ofNat_of_zero_le h0
  have hn : n < l.length := by omega
  rw [Int.toNat_natCast, List.getD_eq_getElem?_getD, List.getElem?_eq_getElem hn]
  exact atI_map (List.getElem?_eq_getElem hn)
theorem div_lit {i j : Int} (h : (0 < j) ∧ j.natAbs.log2 < 9000) : CDivW i j := h
end Gs

namespace Gt
open PySem PySem.Spec PyProof.Rows L2 Evl Gs
local macro_rules | `(tactic| walk_at "ev1") => `(tactic| first
  | exact evd_ci | exact evd_cb | exact evd_cn | exact evd_cs
  | exact evd_vi rfl | exact evd_vb rfl | exact evd_vn rfl
  | exact evd_var rfl (by assumption)
  | exact evd_sumS (by assumption) rfl | exact evd_lenS (by assumption) rfl
  | apply evd_I0 | apply evd_B0 | apply evd_U
  | apply evd_ixT | apply evd_ixL
  | apply evd_chain
  | apply evd_max2 | apply evd_min2 | apply evd_min3
  | exact evd_len (evd_var rfl (by assumption)) | exact evd_lenT (evd_var rfl (by assumption)) | apply evd_len
  | refine evd_tup ?_
  | apply evd_eq | apply evd_ne | apply evd_eqB | apply evd_neB
  | apply evd_isi | refine evd_not ?_
  | apply evd_I
  | exact eva_nil | refine eva_cons ?_ ?_
  | refine evn_lst ?_ | refine evn_sl ?_ ?_ ?_ | refine evn_cat ?_ ?_ ?_ | refine evn_listOf ?_ | refine evn_revL ?_
  | exact evo_none | refine evo_some ?_
  | refine EvN.asD (evn_lst ?_) | refine EvN.asD (evn_sl ?_ ?_ ?_) | refine EvN.asD (evn_cat ?_ ?_ ?_) | refine EvN.asD (evn_listOf ?_) | refine EvN.asD (evn_revL ?_)
  | refine evt_test ?_ | refine evt_B ?_
  | exact kit_int_int | exact kit_int_bool | exact kit_list_list | exact kit_tuple_tuple | exact kit_bool_int | exact kit_bool_bool | exact kit_none_int | exact kit_str_int | exact kit_list_int | exact kit_tuple_int | exact kit_int_tuple | exact kit_none_tuple | exact kit_list_tuple | exact kit_str_tuple | exact kit_bool_tuple | exact kit_tuple_list | exact kit_none_list | exact kit_str_list | exact kit_int_list
  | (show EvD _ _ _ _; assumption) | (show atI _ _ = _; first | assumption | rfl) | (show SeqAt.shaped _ = true; first | assumption | rfl)
  | (show CMulW _ _; first | assumption | exact mul_ok (by omega) (by omega)) | (show CDivW _ _; first | assumption | exact div_lit (by decide +kernel) | exact div_ok (by omega) (by omega)) | (show (0 : Int) < _; omega) | (show CPow _ _; exact ⟨by decide, by decide, by decide⟩))
local macro_rules | `(tactic| walk_at "ev") => `(tactic| repeat' (walk_at "ev1"))

def top (i : Nat) : Stmt := PySem.Challenge.pw_grainstore_k01_whole_dealings.main.body.getD i (.Pass ⟨0, 0, 0, 0⟩)
abbrev st_is_number : Stmt := top 6
abbrev N_is_number : List Str := ["thing"]
abbrev ps_is_number : List Str := ["thing"]
theorem sc_is_number : FnScope N_is_number ps_is_number (defScope st_is_number) := ⟨rfl, rfl, rfl, by decide +kernel, rfl, by decide +kernel, by decide +kernel⟩
abbrev st_are_numbers : Stmt := top 7
abbrev N_are_numbers : List Str := ["thing", "many", "one"]
abbrev ps_are_numbers : List Str := ["thing", "many"]
theorem sc_are_numbers : FnScope N_are_numbers ps_are_numbers (defScope st_are_numbers) := ⟨rfl, rfl, rfl, by decide +kernel, rfl, by decide +kernel, by decide +kernel⟩
abbrev st_asked_days : Stmt := top 8
abbrev N_asked_days : List Str := ["days", "day"]
abbrev ps_asked_days : List Str := ["days"]
theorem sc_asked_days : FnScope N_asked_days ps_asked_days (defScope st_asked_days) := ⟨rfl, rfl, rfl, by decide +kernel, rfl, by decide +kernel, by decide +kernel⟩
abbrev st_asked_room : Stmt := top 9
abbrev N_asked_room : List Str := ["room"]
abbrev ps_asked_room : List Str := ["room"]
theorem sc_asked_room : FnScope N_asked_room ps_asked_room (defScope st_asked_room) := ⟨rfl, rfl, rfl, by decide +kernel, rfl, by decide +kernel, by decide +kernel⟩
abbrev st_asked_dealing : Stmt := top 10
abbrev N_asked_dealing : List Str := ["days", "dealing", "deed"]
abbrev ps_asked_dealing : List Str := ["days", "dealing"]
theorem sc_asked_dealing : FnScope N_asked_dealing ps_asked_dealing (defScope st_asked_dealing) := ⟨rfl, rfl, rfl, by decide +kernel, rfl, by decide +kernel, by decide +kernel⟩
abbrev st_nights : Stmt := top 11
abbrev N_nights : List Str := ["dealing", "found", "left", "bought", "sold"]
abbrev ps_nights : List Str := ["dealing"]
theorem sc_nights : FnScope N_nights ps_nights (defScope st_nights) := ⟨rfl, rfl, rfl, by decide +kernel, rfl, by decide +kernel, by decide +kernel⟩
abbrev st_gain_of : Stmt := top 12
abbrev N_gain_of : List Str := ["days", "dealing", "day", "deed"]
abbrev ps_gain_of : List Str := ["days", "dealing"]
theorem sc_gain_of : FnScope N_gain_of ps_gain_of (defScope st_gain_of) := ⟨rfl, rfl, rfl, by decide +kernel, rfl, by decide +kernel, by decide +kernel⟩
abbrev st_first_fault : Stmt := top 13
abbrev N_first_fault : List Str := ["days", "room", "dealing", "at", "left", "bought", "sold"]
abbrev ps_first_fault : List Str := ["days", "room", "dealing"]
theorem sc_first_fault : FnScope N_first_fault ps_first_fault (defScope st_first_fault) := ⟨rfl, rfl, rfl, by decide +kernel, rfl, by decide +kernel, by decide +kernel⟩
abbrev st_stored : Stmt := top 14
abbrev N_stored : List Str := ["days", "dealing"]
abbrev ps_stored : List Str := ["days", "dealing"]
theorem sc_stored : FnScope N_stored ps_stored (defScope st_stored) := ⟨rfl, rfl, rfl, by decide +kernel, rfl, by decide +kernel, by decide +kernel⟩
abbrev st_gained : Stmt := top 15
abbrev N_gained : List Str := ["days", "dealing"]
abbrev ps_gained : List Str := ["days", "dealing"]
theorem sc_gained : FnScope N_gained ps_gained (defScope st_gained) := ⟨rfl, rfl, rfl, by decide +kernel, rfl, by decide +kernel, by decide +kernel⟩
abbrev st_barred : Stmt := top 16
abbrev N_barred : List Str := ["days", "room", "dealing"]
abbrev ps_barred : List Str := ["days", "room", "dealing"]
theorem sc_barred : FnScope N_barred ps_barred (defScope st_barred) := ⟨rfl, rfl, rfl, by decide +kernel, rfl, by decide +kernel, by decide +kernel⟩
abbrev st__law_days : Stmt := top 18
abbrev N__law_days : List Str := ["_law_script", "_law_mixed", "_law_high", "_law_most", "_law_found", "_law_at", "_law_cell", "_law_price", "_law_other", "_law_some"]
abbrev ps__law_days : List Str := ["_law_script"]
theorem sc__law_days : FnScope N__law_days ps__law_days (defScope st__law_days) := ⟨rfl, rfl, rfl, by decide +kernel, rfl, by decide +kernel, by decide +kernel⟩
abbrev st__law_room : Stmt := top 19
abbrev N__law_room : List Str := ["_law_script", "_law_mixed"]
abbrev ps__law_room : List Str := ["_law_script"]
theorem sc__law_room : FnScope N__law_room ps__law_room (defScope st__law_room) := ⟨rfl, rfl, rfl, by decide +kernel, rfl, by decide +kernel, by decide +kernel⟩
abbrev st__law_numbers : Stmt := top 20
abbrev N__law_numbers : List Str := ["_law_found", "_law_one"]
abbrev ps__law_numbers : List Str := ["_law_found"]
theorem sc__law_numbers : FnScope N__law_numbers ps__law_numbers (defScope st__law_numbers) := ⟨rfl, rfl, rfl, by decide +kernel, rfl, by decide +kernel, by decide +kernel⟩
abbrev st__law_can : Stmt := top 21
abbrev N__law_can : List Str := ["_law_days_here", "_law_room_here", "_law_dealing", "_law_left", "_law_at", "_law_deed"]
abbrev ps__law_can : List Str := ["_law_days_here", "_law_room_here", "_law_dealing"]
theorem sc__law_can : FnScope N__law_can ps__law_can (defScope st__law_can) := ⟨rfl, rfl, rfl, by decide +kernel, rfl, by decide +kernel, by decide +kernel⟩
abbrev st__law_bound : Stmt := top 22
abbrev N__law_bound : List Str := ["_law_days_here", "_law_room_here", "_law_worths", "_law_total", "_law_ahead", "_law_day", "_law_worth"]
abbrev ps__law_bound : List Str := ["_law_days_here", "_law_room_here", "_law_worths"]
theorem sc__law_bound : FnScope N__law_bound ps__law_bound (defScope st__law_bound) := ⟨rfl, rfl, rfl, by decide +kernel, rfl, by decide +kernel, by decide +kernel⟩
abbrev st__law_best : Stmt := top 23
abbrev N__law_best : List Str := ["_law_days_here", "_law_room_here", "_law_dealing", "_law_worths", "_law_gain", "_law_day", "_law_deed", "_law_worth"]
abbrev ps__law_best : List Str := ["_law_days_here", "_law_room_here", "_law_dealing", "_law_worths"]
theorem sc__law_best : FnScope N__law_best ps__law_best (defScope st__law_best) := ⟨rfl, rfl, rfl, by decide +kernel, rfl, by decide +kernel, by decide +kernel⟩
abbrev st_law : Stmt := top 24
abbrev N_law : List Str := ["_law_script", "_law_days_here", "_law_room_here", "_law_mixed", "_law_turn", "_law_dealing", "_law_left", "_law_at", "_law_day", "_law_cell", "_law_bought", "_law_sold", "_law_handed", "_law_found", "_law_total", "_law_due", "_law_gain", "_law_fault", "_law_deed"]
abbrev ps_law : List Str := ["_law_script"]
theorem sc_law : FnScope N_law ps_law (defScope st_law) := ⟨rfl, rfl, rfl, by decide +kernel, rfl, by decide +kernel, by decide +kernel⟩
section
variable {P : Program} {w : World} {K : PySem.W.Frag} {mg : Str → Option Value} {base : Heap}
def sp_is_number : Sp := spD fun ds d => ∃ x, ds = [x] ∧ d = .bool (isNum x)
theorem ok_is_number (F : FunH K mg "is_number" "is_number" st_is_number ps_is_number) (B : Blt mg)  : Has P w K mg base CX0 1 "is_number" ps_is_number sp_is_number := by
  refine F.has (N := N_is_number) sc_is_number (fun vs H Q E h => ?_) (fun f cdv A outer s H vs Q E hr h => ?_)
  · obtain ⟨G, ds, d, _, hz, ⟨x, rfl, _⟩, _⟩ := h
    exact hz.1
  · obtain ⟨G, ds, d, a, hz, ⟨x, rfl, rfl⟩, k⟩ := h
    obtain ⟨v, rfl, z⟩ := hz.one
    have u := Up.refl a
    have nd := sc_is_number.nd
    refine ⟨_, (pss_one (ps_ret (pe_and (pe_callB (call_isiKK K) (by rfl) B.isinstance (by decide +kernel) (pa_cons (pv 0) (pa_cons (pe_bltn (v := .ty "int") (by rfl) B.int (by decide +kernel) rfl) pa_nil))) (pe_and (pe_not (pe_callB (call_isiKK K) (by rfl) B.isinstance (by decide +kernel) (pa_cons (pv 0) (pa_cons (pe_bltn (v := .ty "bool") (by rfl) B.bool (by decide +kernel) rfl) pa_nil)))) (pe_one (pe_cmpR op_ge (pv 0) pe_int (nomark _))))))), ?_⟩
    refine z_ret u.s ?_ (u.retD k)
    cases x with
    | int n => exact (evd_and (a := true) (by walk_at "ev") fun _ => evd_and (a := true) (b := decide (0 ≤ n)) (evd_not (a := false) (by walk_at "ev")) fun _ => (by walk_at "ev")).to (by show PyData.bool (true && (true && decide (0 ≤ n))) = PyData.bool (decide (0 ≤ n)); rfl)
    | bool b => exact (evd_and (a := true) (b := false) (by walk_at "ev") fun _ => (evd_and (a := false) (b := false) (evd_not (a := true) (by walk_at "ev")) fun h => nomatch h)).to rfl
    | none => exact (evd_and (a := false) (b := false) (by walk_at "ev") fun h => nomatch h).to rfl
    | str b => exact (evd_and (a := false) (b := false) (by walk_at "ev") fun h => nomatch h).to rfl
    | list b => exact (evd_and (a := false) (b := false) (by walk_at "ev") fun h => nomatch h).to rfl
    | tuple b => exact (evd_and (a := false) (b := false) (by walk_at "ev") fun h => nomatch h).to rfl
    | dict b => cases z
def sp_are_numbers : Sp := spD fun ds d => ∃ x m, ds = [x, .int m] ∧ (∀ xs, x = .tuple xs → xs.length ≤ 40000) ∧ d = .bool (areNums x m)
theorem ok_are_numbers (F : FunH K mg "are_numbers" "are_numbers" st_are_numbers ps_are_numbers) (B : Blt mg) (h_is_number : Has P w K mg base CX0 1 "is_number" ps_is_number sp_is_number) : Has P w K mg base CX0 2 "are_numbers" ps_are_numbers sp_are_numbers := by
  refine F.has (N := N_are_numbers) sc_are_numbers (fun vs H Q E h => ?_) (fun f cdv A outer s H vs Q E hr h => ?_)
  · obtain ⟨G, ds, d, _, hz, ⟨x, m, rfl, _⟩, _⟩ := h
    exact hz.1
  · obtain ⟨G, ds, d, a, hz, ⟨x, m, rfl, hl, rfl⟩, k⟩ := h
    obtain ⟨v, v2, rfl, z, z2⟩ := hz.two
    cases z2
    have u := Up.refl a
    have nd := sc_are_numbers.nd
    refine ⟨_, (pss_one (ps_ret (pe_and (pe_callB (call_isiKK K) (by rfl) B.isinstance (by decide +kernel) (pa_cons (pv 0) (pa_cons (pe_bltn (v := .ty "tuple") (by rfl) B.tuple (by decide +kernel) rfl) pa_nil))) (pe_and (pe_cmpR op_eq (pe_callB (cb_lenK K) (by rfl) B.len (by decide +kernel) (pa_cons (pv 0) pa_nil)) (pv 1) (nomark _)) (pe_one (pe_callB (cr_allK K) (by rfl) B.all (by decide +kernel) (pa_cons (pe_lc (own := [("one", 2)]) (by rfl) nd (pi_tupK K (pv 0)) (blkOk_by (own := [("one", 2)]) (N := N_are_numbers) (sc := defScope st_are_numbers) (by decide +kernel)) (fun _ _ _ _ _ => (pg_name (i := 2) nd rfl (Or.inl rfl))) (fun _ _ _ _ _ => pts_nil) (fun _ _ _ _ _ => (pe_f h_is_number (hr.mono (by decide)) (pa_cons (pv 2) pa_nil)))) pa_nil))))))), ?_⟩
    refine z_ret u.s ?_ (u.retD k)
    cases x with
    | tuple xs =>
      refine (evd_and (a := true) (by walk_at "ev") fun _ => evd_and (a := decide ((xs.length : Int) = m)) (b := (xs.map isNum).all id) (by walk_at "ev") fun _ => evd_all ?_).to (by show PyData.bool (true && (_ && _)) = _; rfl)
      refine EvN.asD (EvN.to (evn_lcT (fun d => .bool (isNum d)) (by walk_at "ev") (hl xs rfl) (fun _ => rfl) fun Gx v d g hd zd => ?_) (by rw [List.map_map]; rfl))
      exact evd_call (by walk_at "ev") ⟨d, rfl, rfl⟩
    | int n => exact (evd_and (a := false) (b := false) (by walk_at "ev") fun h => nomatch h).to rfl
    | bool b => exact (evd_and (a := false) (b := false) (by walk_at "ev") fun h => nomatch h).to rfl
    | none => exact (evd_and (a := false) (b := false) (by walk_at "ev") fun h => nomatch h).to rfl
    | str b => exact (evd_and (a := false) (b := false) (by walk_at "ev") fun h => nomatch h).to rfl
    | list b => exact (evd_and (a := false) (b := false) (by walk_at "ev") fun h => nomatch h).to rfl
    | dict b => cases z
end
end Gt

namespace Gt
open PySem PySem.Spec PyProof.Rows L2 Evl Gs
local macro_rules | `(tactic| walk_at "ev1") => `(tactic| first
  | exact evd_ci | exact evd_cb | exact evd_cn | exact evd_cs
  | exact evd_vi rfl | exact evd_vb rfl | exact evd_vn rfl
  | exact evd_var rfl (by assumption)
  | exact evd_sumS (by assumption) rfl | exact evd_lenS (by assumption) rfl
  | apply evd_I0 | apply evd_B0 | apply evd_U
  | apply evd_ixT | apply evd_ixL
  | apply evd_chain
  | apply evd_max2 | apply evd_min2 | apply evd_min3
  | exact evd_len (evd_var rfl (by assumption)) | exact evd_lenT (evd_var rfl (by assumption)) | apply evd_len
  | refine evd_tup ?_
  | apply evd_eq | apply evd_ne | apply evd_eqB | apply evd_neB
  | apply evd_isi | refine evd_not ?_
  | apply evd_I
  | exact eva_nil | refine eva_cons ?_ ?_
  | refine evn_lst ?_ | refine evn_sl ?_ ?_ ?_ | refine evn_cat ?_ ?_ ?_ | refine evn_listOf ?_ | refine evn_revL ?_
  | exact evo_none | refine evo_some ?_
  | refine EvN.asD (evn_lst ?_) | refine EvN.asD (evn_sl ?_ ?_ ?_) | refine EvN.asD (evn_cat ?_ ?_ ?_) | refine EvN.asD (evn_listOf ?_) | refine EvN.asD (evn_revL ?_)
  | refine evt_test ?_ | refine evt_B ?_
  | exact kit_int_int | exact kit_int_bool | exact kit_list_list | exact kit_tuple_tuple | exact kit_bool_int | exact kit_bool_bool | exact kit_none_int | exact kit_str_int | exact kit_list_int | exact kit_tuple_int | exact kit_int_tuple | exact kit_none_tuple | exact kit_list_tuple | exact kit_str_tuple | exact kit_bool_tuple | exact kit_tuple_list | exact kit_none_list | exact kit_str_list | exact kit_int_list
  | (show EvD _ _ _ _; assumption) | (show atI _ _ = _; first | assumption | rfl) | (show SeqAt.shaped _ = true; first | assumption | rfl)
  | (show CMulW _ _; first | assumption | exact mul_ok (by omega) (by omega)) | (show CDivW _ _; first | assumption | exact div_lit (by decide +kernel) | exact div_ok (by omega) (by omega)) | (show (0 : Int) < _; omega) | (show CPow _ _; exact ⟨by decide, by decide, by decide⟩))
local macro_rules | `(tactic| walk_at "ev") => `(tactic| repeat' (walk_at "ev1"))

section
variable {P : Program} {w : World} {K : PySem.W.Frag} {mg : Str → Option Value} {base : Heap}
def sp_asked_days : Sp := spD fun ds d => ∃ l : List Day, ds = [daysD l] ∧ l.length ≤ 40000 ∧ (∀ x ∈ l, goodDay x) ∧ d = .none
theorem good_areNums {d : Day} (h : goodDay d) : areNums (dayD d) 4 = true := by
  obtain ⟨h1, h2, h3, h4⟩ := h
  show (decide ((4 : Int) = 4) && (decide (0 ≤ d.1) && (decide (0 ≤ d.2.1) && (decide (0 ≤ d.2.2.1) && (decide (0 ≤ d.2.2.2) && true))))) = true
  simp [h1, h2, h3, h4]
theorem ok_asked_days (F : FunH K mg "asked_days" "asked_days" st_asked_days ps_asked_days) (B : Blt mg) (h_are_numbers : Has P w K mg base CX0 2 "are_numbers" ps_are_numbers sp_are_numbers) : Has P w K mg base CX0 3 "asked_days" ps_asked_days sp_asked_days := by
  refine F.has (N := N_asked_days) sc_asked_days (fun vs H Q E h => ?_) (fun f cdv A outer s H vs Q E hr h => ?_)
  · obtain ⟨G, ds, d, _, hz, ⟨l, rfl, _⟩, _⟩ := h
    exact hz.1
  · obtain ⟨G, ds, d, a, hz, ⟨l, rfl, hl, hg, rfl⟩, k⟩ := h
    obtain ⟨v, rfl, z⟩ := hz.one
    have z : Ds G v (.list (l.map dayD)) := z
    have u := Up.refl a
    have nd := sc_asked_days.nd
    refine ⟨_, (pss_one (ps_if (PW.pt (pw_or (pt_not (pt_val (pe_callB (call_isiKK K) (by rfl) B.isinstance (by decide +kernel) (pa_cons (pv 0) (pa_cons (pe_bltn (v := .ty "list") (by rfl) B.list (by decide +kernel) rfl) pa_nil))))) (pw_or1 (pt_not (pt_val (pe_callB (cr_allK K) (by rfl) B.all (by decide +kernel) (pa_cons (pe_lc (own := [("day", 1)]) (by rfl) nd (pi_listK K (pv 0)) (blkOk_by (own := [("day", 1)]) (N := N_asked_days) (sc := defScope st_asked_days) (by decide +kernel)) (fun _ _ _ _ _ => (pg_name (i := 1) nd rfl (Or.inl rfl))) (fun _ _ _ _ _ => pts_nil) (fun _ _ _ _ _ => (pe_f h_are_numbers (hr.mono (by decide)) (pa_cons (pv 1) (pa_cons pe_int pa_nil))))) pa_nil)))))))
  (pss_one ps_never)
  pss_nil)), ?_⟩
    refine z_if u.s (b := false) (et_is (et_or (a := false) (b := false) (et_not (a := true) (by walk_at "ev")) fun _ => et_not (a := true) ?_) rfl) (fun h => nomatch h) (fun _ H2 e => (u.scal e).outD k .non)
    refine evt_B ((evd_all (ns := l.map fun d => areNums (dayD d) 4) (EvN.asD (EvN.to (evn_lcL (fun d => .bool (areNums d 4)) (by walk_at "ev") (by rw [List.length_map]; exact hl) (fun _ => rfl) fun Gx v d g hd zd => ?_) (by rw [List.map_map, List.map_map]; rfl)))).to ?_)
    · obtain ⟨x, _, rfl⟩ := List.mem_map.mp hd
      exact evd_call (by walk_at "ev") ⟨dayD x, 4, rfl, (fun xs e => by have e := tuple_inj e; subst e; show 4 ≤ 40000; decide), rfl⟩
    · rw [List.all_map, List.all_eq_true.mpr]
      exact fun x hx => good_areNums (hg x hx)
def sp_asked_room : Sp := spD fun ds d => ∃ n : Int, ds = [.int n] ∧ 0 ≤ n ∧ d = .none
theorem ok_asked_room (F : FunH K mg "asked_room" "asked_room" st_asked_room ps_asked_room) (B : Blt mg) (h_is_number : Has P w K mg base CX0 1 "is_number" ps_is_number sp_is_number) : Has P w K mg base CX0 2 "asked_room" ps_asked_room sp_asked_room := by
  refine F.has (N := N_asked_room) sc_asked_room (fun vs H Q E h => ?_) (fun f cdv A outer s H vs Q E hr h => ?_)
  · obtain ⟨G, ds, d, _, hz, ⟨l, rfl, _⟩, _⟩ := h
    exact hz.1
  · obtain ⟨G, ds, d, a, hz, ⟨n, rfl, hn, rfl⟩, k⟩ := h
    obtain ⟨v, rfl, z⟩ := hz.one
    have u := Up.refl a
    have nd := sc_asked_room.nd
    refine ⟨_, (pss_one (ps_if (pt_not (pt_val (pe_f h_is_number (hr.mono (by decide)) (pa_cons (pv 0) pa_nil))))
  (pss_one ps_never)
  pss_nil)), ?_⟩
    refine z_if u.s (b := false) (et_not (a := true) (evt_B (evd_call (by walk_at "ev") ⟨.int n, rfl, ?_⟩))) (fun h => nomatch h) (fun _ H2 e => (u.scal e).outD k .non)
    show PyData.bool true = PyData.bool (decide (0 ≤ n))
    rw [decide_eq_true hn]
def goodDeed (d : Deed) : Prop := 0 ≤ d.1 ∧ 0 ≤ d.2
theorem good_areNums2 {d : Deed} (h : goodDeed d) : areNums (deedD d) 2 = true := by
  obtain ⟨h1, h2⟩ := h
  show (decide ((2 : Int) = 2) && (decide (0 ≤ d.1) && (decide (0 ≤ d.2) && true))) = true
  simp [h1, h2]
def sp_asked_dealing : Sp := spD fun ds d => ∃ (l : List Day) (m : List Deed), ds = [daysD l, deedsD m] ∧ m.length ≤ 40000 ∧ (∀ x ∈ m, goodDeed x) ∧ m.length = l.length ∧ d = .none
theorem ok_asked_dealing (F : FunH K mg "asked_dealing" "asked_dealing" st_asked_dealing ps_asked_dealing) (B : Blt mg) (h_are_numbers : Has P w K mg base CX0 2 "are_numbers" ps_are_numbers sp_are_numbers) : Has P w K mg base CX0 3 "asked_dealing" ps_asked_dealing sp_asked_dealing := by
  refine F.has (N := N_asked_dealing) sc_asked_dealing (fun vs H Q E h => ?_) (fun f cdv A outer s H vs Q E hr h => ?_)
  · obtain ⟨G, ds, d, _, hz, ⟨l, m, rfl, _⟩, _⟩ := h
    exact hz.1
  · obtain ⟨G, ds, d, a, hz, ⟨m, l, rfl, hl, hg, hm, rfl⟩, k⟩ := h
    obtain ⟨v, v', rfl, z, z'⟩ := hz.two
    have z : Ds G v (.list (m.map dayD)) := z
    have z' : Ds G v' (.list (l.map deedD)) := z'
    have u := Up.refl a
    have nd := sc_asked_dealing.nd
    refine ⟨_, (pss_cons (ps_if (PW.pt (pw_or (pt_not (pt_val (pe_callB (call_isiKK K) (by rfl) B.isinstance (by decide +kernel) (pa_cons (pv 1) (pa_cons (pe_bltn (v := .ty "list") (by rfl) B.list (by decide +kernel) rfl) pa_nil))))) (pw_or1 (pt_not (pt_val (pe_callB (cr_allK K) (by rfl) B.all (by decide +kernel) (pa_cons (pe_lc (own := [("deed", 2)]) (by rfl) nd (pi_listK K (pv 1)) (blkOk_by (own := [("deed", 2)]) (N := N_asked_dealing) (sc := defScope st_asked_dealing) (by decide +kernel)) (fun _ _ _ _ _ => (pg_name (i := 2) nd rfl (Or.inl rfl))) (fun _ _ _ _ _ => pts_nil) (fun _ _ _ _ _ => (pe_f h_are_numbers (hr.mono (by decide)) (pa_cons (pv 2) (pa_cons pe_int pa_nil))))) pa_nil)))))))
  (pss_one ps_never)
  pss_nil)
  (pss_one (ps_if (pt_cmpR op_ne (pe_callB (cb_lenK K) (by rfl) B.len (by decide +kernel) (pa_cons (pv 1) pa_nil)) (pe_callB (cb_lenK K) (by rfl) B.len (by decide +kernel) (pa_cons (pv 0) pa_nil)) (nomark _))
  (pss_one ps_never)
  pss_nil))), ?_⟩
    refine q_if1 u.s (b := false) (et_is (et_or (a := false) (b := false) (et_not (a := true) (by walk_at "ev")) fun _ => et_not (a := true) ?_) rfl) (fun h => nomatch h) (fun _ H2 e => ?_)
    · refine evt_B ((evd_all (ns := l.map fun d => areNums (deedD d) 2) (EvN.asD (EvN.to (evn_lcL (fun d => .bool (areNums d 2)) (by walk_at "ev") (by rw [List.length_map]; exact hl) (fun _ => rfl) fun Gx v d g hd zd => ?_) (by rw [List.map_map, List.map_map]; rfl)))).to ?_)
      · obtain ⟨x, _, rfl⟩ := List.mem_map.mp hd
        exact evd_call (by walk_at "ev") ⟨deedD x, 2, rfl, (fun xs e => by have e := tuple_inj e; subst e; show 2 ≤ 40000; decide), rfl⟩
      · rw [List.all_map, List.all_eq_true.mpr]
        exact fun x hx => good_areNums2 (hg x hx)
    · refine z_if1 (u.scal e).s (b := false) (evt_test (EvD.to (evd_ne (by walk_at "ev") (by walk_at "ev")) ?_)) (fun h => nomatch h) (fun _ H3 e3 => ((u.scal e).scal e3).outD k .non)
      rw [List.length_map, List.length_map, hm, decide_eq_true rfl]
      rfl
def sp_nights : Sp := spN fun ds es => ∃ l : List Deed, ds = [deedsD l] ∧ l.length ≤ 40000 ∧ es = (nights 0 l).map .int
theorem ok_nights (F : FunH K mg "nights" "nights" st_nights ps_nights) (B : Blt mg)  : Has P w K mg base CX0 1 "nights" ps_nights sp_nights := by
  refine F.has (N := N_nights) sc_nights (fun vs H Q E h => ?_) (fun f cdv A outer s H vs Q E hr h => ?_)
  · obtain ⟨G, ds, d, _, hz, ⟨l, rfl, _⟩, _⟩ := h
    exact hz.1
  · obtain ⟨G, ds, d, a, hz, ⟨l, rfl, hl, rfl⟩, k⟩ := h
    obtain ⟨v, rfl, z⟩ := hz.one
    have z : Ds G v (.list (l.map deedD)) := z
    have u := Up.refl a
    have nd := sc_nights.nd
    refine ⟨_, (pss_cons (ps_set (i := 1) nd rfl (Or.inl rfl) (pe_lst pa_nil))
  (pss_cons (ps_set (i := 2) nd rfl (Or.inl rfl) pe_int)
  (pss_cons (ps_for PassesOwn.never rfl (pi_listK K (pv 0)) (pg_tupK K (n := 2) (pgs_names (pg_name (i := 3) nd rfl (Or.inl rfl)) (pgs_names (pg_name (i := 4) nd rfl (Or.inl rfl)) pgs_done)))
  (pss_cons (ps_set (i := 2) nd rfl (Or.inl rfl) (pe_op op_sub (pe_op op_add (pv 2) (pv 3)) (pv 4)))
  (pss_one (ps_expr (pe_bm PySem.F.plainAttrs_list PySem.F.slot_list_append PySem.F.type_list_append mt_append (pv 1) (pa_cons (pv 2) pa_nil))))))
  (pss_one (ps_ret (pv 1)))))), ?_⟩
    refine q_setN u.s (evn_lst eva_nil) fun p xs H1 e1 hp h1 z1 => ?_
    cases z1.unnil
    have gp : G p = none := none_of_ex u.s hp
    refine q_setI (n := 0) (u.scal e1).s (by walk_at "ev") fun H2 e2 => ?_
    have u2 := (u.scal e1).scal e2
    refine q_for u2.s (src_listT (js := [3, 4]) (m := 2) (ds := l.map deedD) (by walk_at "ev") rfl (deed_tuples l)) fun H3 e3 =>
      ⟨fun i σ' G' H' => ∃ v3 v4, σ' = [some v, some (.ref p), some (.int (leftOf 0 (l.take i))), v3, v4] ∧ Up G H G' H' ∧ Ex (gr G H2 H3) G' ∧ G' p = none ∧ H' p = some (.lst ((nights 0 (l.take i)).map V.int)), ?_, ?_, ?_, ?_⟩
    · have p2 : H2 p = some (.lst []) := e2 _ _ h1
      exact ⟨none, none, rfl, u2.data e3, Ex.refl _, by rw [gr_old p2]; exact gp, e3 _ _ p2⟩
    · rintro i σ' G' H' ⟨_, _, _, u', g', _⟩
      exact ⟨g', u'.s⟩
    · rintro i σ' G' H' H4 σ4 hi ⟨v3, v4, rfl, u', g', gp', hp'⟩ e4 hS
      obtain ⟨d, hd, rfl⟩ := stp_deed hS
      have u4 := u'.scal e4
      refine q_setI (n := leftOf 0 (l.take i) + d.1 - d.2) u4.s (by walk_at "ev") fun H5 e5 => ?_
      have u5 := u4.scal e5
      have ls : leftOf 0 (l.take (i + 1)) = leftOf 0 (l.take i) + d.1 - d.2 := by rw [take_succ_of hd, leftOf_append]; rfl
      refine z_app (xs := (nights 0 (l.take i)).map V.int) u5.s rfl (e5 _ _ (e4 _ _ hp')) (d := .int (leftOf 0 (l.take i) + d.1 - d.2)) (by walk_at "ev") (by rw [List.length_map, nights_length, List.length_take]; omega) fun v6 H6 e6 z6 => ?_
      cases z6
      refine ⟨G', some (.int d.1), some (.int d.2), ?_, (u5.scal e6).mut gp' hp, g', gp', ?_⟩
      · rw [ls]; rfl
      · rw [upd_same, take_succ_of hd, nights_append, List.map_append]
        rfl
    · rintro σ' G' H' ⟨v3, v4, rfl, u', g', gp', hp'⟩
      rw [List.length_map, List.take_length] at hp'
      exact ⟨_, rfl, u'.outN k hp gp' hp' (DsA.ints _)⟩
end
end Gt

namespace Gt
open PySem PySem.Spec PyProof.Rows L2 Evl Gs
local macro_rules | `(tactic| walk_at "ev1") => `(tactic| first
  | exact evd_ci | exact evd_cb | exact evd_cn | exact evd_cs
  | exact evd_vi rfl | exact evd_vb rfl | exact evd_vn rfl
  | exact evd_var rfl (by assumption)
  | exact evd_sumS (by assumption) rfl | exact evd_lenS (by assumption) rfl
  | apply evd_I0 | apply evd_B0 | apply evd_U
  | apply evd_ixT | apply evd_ixL
  | apply evd_chain
  | apply evd_max2 | apply evd_min2 | apply evd_min3
  | exact evd_len (evd_var rfl (by assumption)) | exact evd_lenT (evd_var rfl (by assumption)) | apply evd_len
  | refine evd_tup ?_
  | apply evd_eq | apply evd_ne | apply evd_eqB | apply evd_neB
  | apply evd_isi | refine evd_not ?_
  | apply evd_I
  | exact eva_nil | refine eva_cons ?_ ?_
  | refine evn_lst ?_ | refine evn_sl ?_ ?_ ?_ | refine evn_cat ?_ ?_ ?_ | refine evn_listOf ?_ | refine evn_revL ?_
  | exact evo_none | refine evo_some ?_
  | refine EvN.asD (evn_lst ?_) | refine EvN.asD (evn_sl ?_ ?_ ?_) | refine EvN.asD (evn_cat ?_ ?_ ?_) | refine EvN.asD (evn_listOf ?_) | refine EvN.asD (evn_revL ?_)
  | refine evt_test ?_ | refine evt_B ?_
  | exact kit_int_int | exact kit_int_bool | exact kit_list_list | exact kit_tuple_tuple | exact kit_bool_int | exact kit_bool_bool | exact kit_none_int | exact kit_str_int | exact kit_list_int | exact kit_tuple_int | exact kit_int_tuple | exact kit_none_tuple | exact kit_list_tuple | exact kit_str_tuple | exact kit_bool_tuple | exact kit_tuple_list | exact kit_none_list | exact kit_str_list | exact kit_int_list
  | (show EvD _ _ _ _; assumption) | (show atI _ _ = _; first | assumption | rfl) | (show SeqAt.shaped _ = true; first | assumption | rfl)
  | (show CMulW _ _; first | assumption | exact mul_ok (by omega) (by omega)) | (show CDivW _ _; first | assumption | exact div_lit (by decide +kernel) | exact div_ok (by omega) (by omega)) | (show (0 : Int) < _; omega) | (show CPow _ _; exact ⟨by decide, by decide, by decide⟩))
local macro_rules | `(tactic| walk_at "ev") => `(tactic| repeat' (walk_at "ev1"))

section
variable {P : Program} {w : World} {K : PySem.W.Frag} {mg : Str → Option Value} {base : Heap}
def sp_gain_of : Sp := spD fun ds d => ∃ (l : List Day) (m : List Deed), ds = [daysD l, deedsD m] ∧ l.length ≤ 40000 ∧ (∀ x ∈ l, smallDay x) ∧ (∀ x ∈ m, smallDeed x) ∧ d = .int (gainOf l m)
theorem ok_gain_of (F : FunH K mg "gain_of" "gain_of" st_gain_of ps_gain_of) (B : Blt mg)  : Has P w K mg base CX0 1 "gain_of" ps_gain_of sp_gain_of := by
  refine F.has (N := N_gain_of) sc_gain_of (fun vs H Q E h => ?_) (fun f cdv A outer s H vs Q E hr h => ?_)
  · obtain ⟨G, ds, d, _, hz, ⟨l, m, rfl, _⟩, _⟩ := h
    exact hz.1
  · obtain ⟨G, ds, d, a, hz, ⟨l, m, rfl, hl, hs, hs', rfl⟩, k⟩ := h
    obtain ⟨v, v', rfl, z, z'⟩ := hz.two
    have z : Ds G v (.list (l.map dayD)) := z
    have z' : Ds G v' (.list (m.map deedD)) := z'
    have u := Up.refl a
    have nd := sc_gain_of.nd
    refine ⟨_, (pss_one (ps_ret (pe_callB (cr_sumK K) (by rfl) B.sum (by decide +kernel) (pa_cons (pe_lc (own := [("day", 2), ("deed", 3)]) (by rfl) nd (pi_zipK K B.zip (pa_cons (pv 0) (pa_cons (pv 1) pa_nil))) (blkOk_by (own := [("day", 2), ("deed", 3)]) (N := N_gain_of) (sc := defScope st_gain_of) (by decide +kernel)) (fun _ _ _ _ _ => (pg_tupK K (n := 2) (pgs_names (pg_name (i := 2) nd rfl (Or.inl rfl)) (pgs_names (pg_name (i := 3) nd rfl (Or.inl rfl)) pgs_done)))) (fun _ _ _ _ _ => pts_nil) (fun _ _ _ _ _ => (pe_op op_sub (pe_op op_mulW (pe_ix (ix_tupK K) (pv 3) pe_int (fun _ _ => rfl)) (pe_ix (ix_tupK K) (pv 2) pe_int (fun _ _ => rfl))) (pe_op op_mulW (pe_ix (ix_tupK K) (pv 3) pe_int (fun _ _ => rfl)) (pe_ix (ix_tupK K) (pv 2) pe_int (fun _ _ => rfl)))))) pa_nil)))), ?_⟩
    refine z_ret u.s (evd_sum (map_int_of ?_ (evn_lcZ (l := l) (m := m) (fun x y => .int (gainD x y)) (by walk_at "ev") (by walk_at "ev") hl (fun _ _ => rfl) fun Gx v w x y g hx hy zx zy => ?_))) (u.retD k)
    · rw [List.map_zipWith]
    · obtain ⟨b1, b2, b3, b4⟩ := hs x hx
      obtain ⟨c1, c2⟩ := hs' y hy
      show EvD _ _ _ (.int (y.2 * x.2.2.1 - y.1 * x.1))
      walk_at "ev"
def sp_first_fault : Sp := spD fun ds d => ∃ (l : List Day) (room : Int) (m : List Deed), ds = [daysD l, .int room, deedsD m] ∧ m.length ≤ 40000 ∧ m.length ≤ l.length ∧ d = .int (faultOf l room m)
theorem ok_first_fault (F : FunH K mg "first_fault" "first_fault" st_first_fault ps_first_fault) (B : Blt mg) (h_nights : Has P w K mg base CX0 1 "nights" ps_nights sp_nights) : Has P w K mg base CX0 2 "first_fault" ps_first_fault sp_first_fault := by
  refine F.has (N := N_first_fault) sc_first_fault (fun vs H Q E h => ?_) (fun f cdv A outer s H vs Q E hr h => ?_)
  · obtain ⟨G, ds, d, _, hz, ⟨l, room, m, rfl, _⟩, _⟩ := h
    exact hz.1
  · obtain ⟨G, ds, d, a, hz, ⟨l, room, m, rfl, hm, hl, rfl⟩, k⟩ := h
    obtain ⟨v, vr, v', rfl, z, zr, z'⟩ := hz.three
    cases zr
    have z : Ds G v (.list (l.map dayD)) := z
    have z' : Ds G v' (.list (m.map deedD)) := z'
    have u := Up.refl a
    have nd := sc_first_fault.nd
    refine ⟨_, (pss_cons (ps_for PassesOwn.never rfl (pi_enumK K B.enumerate (pa_cons (pe_f h_nights (hr.mono (by decide)) (pa_cons (pv 2) pa_nil)) pa_nil)) (pg_tupK K (n := 2) (pgs_names (pg_name (i := 3) nd rfl (Or.inl rfl)) (pgs_names (pg_name (i := 4) nd rfl (Or.inl rfl)) pgs_done)))
  (pss_cons (ps_asg (pe_ix (ix_listK K) (pv 2) (pv 3) (fun _ _ => rfl)) (pg_tupK K (n := 2) (pgs_names (pg_name (i := 5) nd rfl (Or.inl rfl)) (pgs_names (pg_name (i := 6) nd rfl (Or.inl rfl)) pgs_done))))
  (pss_one (ps_if (PW.pt (pw_or (pt_not (pt_chain op_le op_le pe_int (pv 5) (pe_ix (ix_tupK K) (pe_ix (ix_listK K) (pv 0) (pv 3) (fun _ _ => rfl)) pe_int (fun _ _ => rfl)))) (pw_or (pt_not (pt_chain op_le op_le pe_int (pv 6) (pe_ix (ix_tupK K) (pe_ix (ix_listK K) (pv 0) (pv 3) (fun _ _ => rfl)) pe_int (fun _ _ => rfl)))) (pw_or1 (pt_not (pt_chain op_le op_le pe_int (pv 4) (pv 1)))))))
  (pss_one (ps_ret (pv 3)))
  pss_nil))))
  (pss_one (ps_ret (pe_un un_neg pe_int)))), ?_⟩
    refine q_for u.s (src_enum (ds := (nights 0 m).map .int) (j := 3) (k := 4) (evn_call (by walk_at "ev") ⟨m, rfl, hm, rfl⟩).asD) fun H1 e1 =>
      ⟨fun i σ' G' H' => ∃ v3 v4 v5 v6, σ' = [some v, some (.int room), some v', v3, v4, v5, v6] ∧ Up G H G' H' ∧ Ex (gr G H H1) G' ∧ faultOf l room m = faultFrom (l.drop i) room (leftOf 0 (m.take i)) i (m.drop i), ?_, ?_, ?_, ?_⟩
    · exact ⟨none, none, none, none, rfl, u.data e1, Ex.refl _, rfl⟩
    · rintro i σ' G' H' ⟨_, _, _, _, _, u', g', _⟩
      exact ⟨g', u'.s⟩
    · rintro i σ' G' H' H3 σ3 hi ⟨v3, v4, v5, v6, rfl, u', g', hf⟩ e3 ⟨a3, a4, d3, d4, h3, h4, z3, z4, rfl⟩
      rw [List.length_map, nights_length] at hi
      obtain ⟨d, hd⟩ := get_of_lt hi
      obtain ⟨x, hx⟩ := get_of_lt (Nat.lt_of_lt_of_le hi hl)
      cases h3
      have h4 : ((nights 0 m).map PyData.int)[i]? = some d4 := h4
      rw [List.getElem?_map, nights_get hd] at h4
      cases h4
      cases z3
      cases z4
      have u3 := u'.scal e3
      have zl := z.mono u3.g
      have zm := z'.mono u3.g
      have ia := atI_map (f := dayD) hx
      have ib := atI_map (f := deedD) hd
      refine q_deed (x := d) u3.s (by walk_at "ev") fun H4 e4 => ?_
      have u4 := u3.scal e4
      have ls : leftOf 0 (m.take (i + 1)) = leftOf 0 (m.take i) + d.1 - d.2 := by rw [take_succ_of hd, leftOf_append]; rfl
      refine z_if1 (b := !okDeed x room (leftOf 0 (m.take i) + d.1 - d.2) d) u4.s (et_is (et_or (et_not (evt_test (by walk_at "ev"))) fun _ => et_or (et_not (evt_test (by walk_at "ev"))) fun _ => et_not (evt_test (by walk_at "ev"))) ?_) (fun hb H5 e5 => ?_) (fun hb H5 e5 => ?_)
      · unfold okDeed
        cases (decide (0 ≤ d.1) && decide (d.1 ≤ x.2.1)) <;> cases (decide (0 ≤ d.2) && decide (d.2 ≤ x.2.2.2)) <;> rfl
      · rw [faultFrom_drop hx hd, if_neg (by intro q; rw [q] at hb; cases hb)] at hf
        refine ⟨_, rfl, (u4.scal e5).outD k ?_⟩
        rw [hf]
        exact .int _
      · rw [faultFrom_drop hx hd, if_pos (by simpa using hb)] at hf
        exact ⟨G', some (.int i), some (.int (leftOf 0 (m.take i) + d.1 - d.2)), some (.int d.1), some (.int d.2), rfl, u4.scal e5, g', by rw [hf, ls]; rfl⟩
    · rintro σ' G' H' ⟨v3, v4, v5, v6, rfl, u', g', hf⟩
      rw [List.length_map, nights_length, List.drop_length] at hf
      have e : faultOf l room m = -1 := by rw [hf]; cases l.drop m.length <;> rfl
      rw [e] at k
      exact z_ret u'.s (by walk_at "ev") (u'.retD k)
def sp_stored : Sp := spN fun ds es => ∃ (l : List Day) (m : List Deed), ds = [daysD l, deedsD m] ∧ l.length ≤ 40000 ∧ (∀ x ∈ l, goodDay x) ∧ m.length = l.length ∧ (∀ x ∈ m, goodDeed x) ∧ es = (nights 0 m).map .int
theorem ok_stored (F : FunH K mg "stored" "stored" st_stored ps_stored) (B : Blt mg) (h_asked_days : Has P w K mg base CX0 3 "asked_days" ps_asked_days sp_asked_days) (h_asked_dealing : Has P w K mg base CX0 3 "asked_dealing" ps_asked_dealing sp_asked_dealing) (h_nights : Has P w K mg base CX0 1 "nights" ps_nights sp_nights) : Has P w K mg base CX0 4 "stored" ps_stored sp_stored := by
  refine F.has (N := N_stored) sc_stored (fun vs H Q E h => ?_) (fun f cdv A outer s H vs Q E hr h => ?_)
  · obtain ⟨G, ds, d, _, hz, ⟨l, m, rfl, _⟩, _⟩ := h
    exact hz.1
  · obtain ⟨G, ds, d, a, hz, ⟨l, m, rfl, hl, hg, hm, hg', rfl⟩, k⟩ := h
    obtain ⟨v, v', rfl, z, z'⟩ := hz.two
    have u := Up.refl a
    have nd := sc_stored.nd
    refine ⟨_, (pss_cons (ps_expr (pe_f h_asked_days (hr.mono (by decide)) (pa_cons (pv 0) pa_nil)))
  (pss_cons (ps_expr (pe_f h_asked_dealing (hr.mono (by decide)) (pa_cons (pv 0) (pa_cons (pv 1) pa_nil))))
  (pss_one (ps_ret (pe_f h_nights (hr.mono (by decide)) (pa_cons (pv 1) pa_nil)))))), ?_⟩
    refine q_drop u.s (evd_call (by walk_at "ev") ⟨l, rfl, hl, hg, rfl⟩) fun H1 e1 => ?_
    refine q_drop (u.scal e1).s (evd_call (by walk_at "ev") ⟨l, m, rfl, by omega, hg', hm, rfl⟩) fun H2 e2 => ?_
    exact z_retN ((u.scal e1).scal e2).s (evn_call (by walk_at "ev") ⟨m, rfl, by omega, rfl⟩) (((u.scal e1).scal e2).retN k)
def sp_gained : Sp := spD fun ds d => ∃ (l : List Day) (m : List Deed), ds = [daysD l, deedsD m] ∧ l.length ≤ 40000 ∧ (∀ x ∈ l, goodDay x) ∧ (∀ x ∈ l, smallDay x) ∧ m.length = l.length ∧ (∀ x ∈ m, goodDeed x) ∧ (∀ x ∈ m, smallDeed x) ∧ d = .int (gainOf l m)
theorem ok_gained (F : FunH K mg "gained" "gained" st_gained ps_gained) (B : Blt mg) (h_asked_days : Has P w K mg base CX0 3 "asked_days" ps_asked_days sp_asked_days) (h_asked_dealing : Has P w K mg base CX0 3 "asked_dealing" ps_asked_dealing sp_asked_dealing) (h_gain_of : Has P w K mg base CX0 1 "gain_of" ps_gain_of sp_gain_of) : Has P w K mg base CX0 4 "gained" ps_gained sp_gained := by
  refine F.has (N := N_gained) sc_gained (fun vs H Q E h => ?_) (fun f cdv A outer s H vs Q E hr h => ?_)
  · obtain ⟨G, ds, d, _, hz, ⟨l, m, rfl, _⟩, _⟩ := h
    exact hz.1
  · obtain ⟨G, ds, d, a, hz, ⟨l, m, rfl, hl, hg, hs, hm, hg', hs', rfl⟩, k⟩ := h
    obtain ⟨v, v', rfl, z, z'⟩ := hz.two
    have u := Up.refl a
    have nd := sc_gained.nd
    refine ⟨_, (pss_cons (ps_expr (pe_f h_asked_days (hr.mono (by decide)) (pa_cons (pv 0) pa_nil)))
  (pss_cons (ps_expr (pe_f h_asked_dealing (hr.mono (by decide)) (pa_cons (pv 0) (pa_cons (pv 1) pa_nil))))
  (pss_one (ps_ret (pe_f h_gain_of (hr.mono (by decide)) (pa_cons (pv 0) (pa_cons (pv 1) pa_nil))))))), ?_⟩
    refine q_drop u.s (evd_call (by walk_at "ev") ⟨l, rfl, hl, hg, rfl⟩) fun H1 e1 => ?_
    refine q_drop (u.scal e1).s (evd_call (by walk_at "ev") ⟨l, m, rfl, by omega, hg', hm, rfl⟩) fun H2 e2 => ?_
    exact z_ret ((u.scal e1).scal e2).s (evd_call (by walk_at "ev") ⟨l, m, rfl, hl, hs, hs', rfl⟩) (((u.scal e1).scal e2).retD k)
def sp_barred : Sp := spD fun ds d => ∃ (l : List Day) (room : Int) (m : List Deed), ds = [daysD l, .int room, deedsD m] ∧ l.length ≤ 40000 ∧ (∀ x ∈ l, goodDay x) ∧ 0 ≤ room ∧ m.length = l.length ∧ (∀ x ∈ m, goodDeed x) ∧ d = .int (faultOf l room m)
theorem ok_barred (F : FunH K mg "barred" "barred" st_barred ps_barred) (B : Blt mg) (h_asked_days : Has P w K mg base CX0 3 "asked_days" ps_asked_days sp_asked_days) (h_asked_dealing : Has P w K mg base CX0 3 "asked_dealing" ps_asked_dealing sp_asked_dealing) (h_asked_room : Has P w K mg base CX0 2 "asked_room" ps_asked_room sp_asked_room) (h_first_fault : Has P w K mg base CX0 2 "first_fault" ps_first_fault sp_first_fault) : Has P w K mg base CX0 4 "barred" ps_barred sp_barred := by
  refine F.has (N := N_barred) sc_barred (fun vs H Q E h => ?_) (fun f cdv A outer s H vs Q E hr h => ?_)
  · obtain ⟨G, ds, d, _, hz, ⟨l, m, r, rfl, _⟩, _⟩ := h
    exact hz.1
  · obtain ⟨G, ds, d, a, hz, ⟨l, room, m, rfl, hl, hg, hr0, hm, hg', rfl⟩, k⟩ := h
    obtain ⟨v, vr, v', rfl, z, zr, z'⟩ := hz.three
    cases zr
    have u := Up.refl a
    have nd := sc_barred.nd
    refine ⟨_, (pss_cons (ps_expr (pe_f h_asked_days (hr.mono (by decide)) (pa_cons (pv 0) pa_nil)))
  (pss_cons (ps_expr (pe_f h_asked_room (hr.mono (by decide)) (pa_cons (pv 1) pa_nil)))
  (pss_cons (ps_expr (pe_f h_asked_dealing (hr.mono (by decide)) (pa_cons (pv 0) (pa_cons (pv 2) pa_nil))))
  (pss_one (ps_ret (pe_f h_first_fault (hr.mono (by decide)) (pa_cons (pv 0) (pa_cons (pv 1) (pa_cons (pv 2) pa_nil))))))))), ?_⟩
    refine q_drop u.s (evd_call (by walk_at "ev") ⟨l, rfl, hl, hg, rfl⟩) fun H1 e1 => ?_
    refine q_drop (u.scal e1).s (evd_call (by walk_at "ev") ⟨room, rfl, hr0, rfl⟩) fun H2 e2 => ?_
    have u2 := (u.scal e1).scal e2
    refine q_drop u2.s (evd_call (by walk_at "ev") ⟨l, m, rfl, by omega, hg', hm, rfl⟩) fun H3 e3 => ?_
    exact z_ret (u2.scal e3).s (evd_call (by walk_at "ev") ⟨l, room, m, rfl, by omega, by omega, rfl⟩) ((u2.scal e3).retD k)
end
end Gt

namespace Gt
open PySem PySem.Spec PyProof.Rows L2 Evl Gs
local macro_rules | `(tactic| walk_at "ev1") => `(tactic| first
  | exact evd_ci | exact evd_cb | exact evd_cn | exact evd_cs
  | exact evd_vi rfl | exact evd_vb rfl | exact evd_vn rfl
  | exact evd_var rfl (by assumption)
  | exact evd_sumS (by assumption) rfl | exact evd_lenS (by assumption) rfl
  | apply evd_I0 | apply evd_B0 | apply evd_U
  | apply evd_ixT | apply evd_ixL
  | apply evd_chain
  | apply evd_max2 | apply evd_min2 | apply evd_min3
  | exact evd_len (evd_var rfl (by assumption)) | exact evd_lenT (evd_var rfl (by assumption)) | apply evd_len
  | refine evd_tup ?_
  | apply evd_eq | apply evd_ne | apply evd_eqB | apply evd_neB
  | apply evd_isi | refine evd_not ?_
  | apply evd_I
  | exact eva_nil | refine eva_cons ?_ ?_
  | refine evn_lst ?_ | refine evn_sl ?_ ?_ ?_ | refine evn_cat ?_ ?_ ?_ | refine evn_listOf ?_ | refine evn_revL ?_
  | exact evo_none | refine evo_some ?_
  | refine EvN.asD (evn_lst ?_) | refine EvN.asD (evn_sl ?_ ?_ ?_) | refine EvN.asD (evn_cat ?_ ?_ ?_) | refine EvN.asD (evn_listOf ?_) | refine EvN.asD (evn_revL ?_)
  | refine evt_test ?_ | refine evt_B ?_
  | exact kit_int_int | exact kit_int_bool | exact kit_list_list | exact kit_tuple_tuple | exact kit_bool_int | exact kit_bool_bool | exact kit_none_int | exact kit_str_int | exact kit_list_int | exact kit_tuple_int | exact kit_int_tuple | exact kit_none_tuple | exact kit_list_tuple | exact kit_str_tuple | exact kit_bool_tuple | exact kit_tuple_list | exact kit_none_list | exact kit_str_list | exact kit_int_list
  | (show EvD _ _ _ _; assumption) | (show atI _ _ = _; first | assumption | rfl) | (show SeqAt.shaped _ = true; first | assumption | rfl)
  | (show CMulW _ _; first | assumption | exact mul_ok (by omega) (by omega)) | (show CDivW _ _; first | assumption | exact div_lit (by decide +kernel) | exact div_ok (by omega) (by omega)) | (show (0 : Int) < _; omega) | (show CPow _ _; exact ⟨by decide, by decide, by decide⟩))
local macro_rules | `(tactic| walk_at "ev") => `(tactic| repeat' (walk_at "ev1"))

section
variable {P : Program} {w : World} {K : PySem.W.Frag} {mg : Str → Option Value} {base : Heap}
def sp__law_room (K : PySem.W.Frag) : Sp := fun vs H Q _ => ∃ (G : Hp) (l : Addr) (ns : List Int), vs = [.ref l] ∧ Ex G H ∧ Scr K G l ns ∧ ∀ H2, Ex H H2 → Q (.int (lawRoom ns)) H2
theorem evd_room {σ : L2.St} {G : Hp} {l : Addr} {ns : List Int} {j : Nat} {E : XK} (h : Scr K G l ns) (e : σ[j]? = some (some (.ref l))) : EvD (tCall (sp__law_room K) [] E (tCons (tVar j) tNil)) σ G (.int (lawRoom ns)) :=
  fun H1 a Q q => ⟨_, e, H1, l, ns, rfl, Ex.refl _, h.mono a, fun H2 e2 => q _ H2 e2 (.int _)⟩
theorem ok__law_room (F : FunH K mg "_law_room" "_law_room" st__law_room ps__law_room) (B : Blt mg)  : Has P w K mg base CX0 1 "_law_room" ps__law_room (sp__law_room K) := by
  refine F.has (N := N__law_room) sc__law_room (fun vs H Q E h => ?_) (fun f cdv A outer s H vs Q E hr h => ?_)
  · obtain ⟨G, l, ns, rfl, _⟩ := h
    rfl
  · obtain ⟨G, l, ns, rfl, a, hS, k⟩ := h
    have u := Up.refl a
    have nd := sc__law_room.nd
    refine ⟨_, (pss_cons (ps_set (i := 1) nd rfl (Or.inl rfl) (pe_callB (cr_sumK K) (by rfl) B.sum (by decide +kernel) (pa_cons (pv 0) pa_nil)))
  (pss_one (ps_ret (pe_ix (ix_tupK K) (pe_tup (pa_cons pe_int (pa_cons (pe_op op_add pe_int (pe_op op_mod (pe_op op_fdivW (pv 1) pe_int) pe_int)) (pa_cons (pe_op op_add pe_int (pe_op op_mod (pe_op op_fdivW (pv 1) pe_int) pe_int)) (pa_cons (pe_op op_add (pe_op op_pow pe_int pe_int) (pe_op op_mod (pv 1) pe_int)) (pa_cons (pe_op op_pow pe_int pe_int) pa_nil)))))) (pe_op op_mod (pe_op op_fdivW (pv 1) pe_int) pe_int) (fun _ _ => rfl))))), ?_⟩
    refine q_setI (n := ns.sum) u.s (by walk_at "ev") fun H1 e1 => ?_
    refine z_ret (d := .int (lawRoom ns)) (u.scal e1).s (evd_ixT (i := ns.sum / 3 % 5) (ds := (rooms ns.sum).map PyData.int) ?_ (by walk_at "ev") (pick_at (by omega) (by show ns.sum / 3 % 5 < 5; omega))) (fun v H2 e2 z => by rw [z.ofInt]; exact k H2 (e1.trans e2))
    unfold rooms
    walk_at "ev"
    all_goals exact div_ok (by omega) (by have := big_1000000; omega)
def sp__law_days (K : PySem.W.Frag) : Sp := fun vs H Q _ => ∃ (G : Hp) (l : Addr) (ns : List Int), vs = [.ref l] ∧ Ex G H ∧ Scr K G l ns ∧ ns.length ≤ 63 ∧ ∀ p xs H2, Ex H H2 → H p = none → H2 p = some (.lst xs) → DsA (but (gr G H H2) p) xs ((lawDays ns).map dayD) → Q (.ref p) H2
theorem evn_days {σ : L2.St} {G : Hp} {l : Addr} {ns : List Int} {j : Nat} {E : XK} (h : Scr K G l ns) (hl : ns.length ≤ 63) (e : σ[j]? = some (some (.ref l))) : EvN (tCall (sp__law_days K) [] E (tCons (tVar j) tNil)) σ G ((lawDays ns).map dayD) :=
  fun H1 a Q q => ⟨_, e, G, l, ns, rfl, a, h, hl, q⟩
theorem ite_days {P : Prop} [Decidable P] {A B : List Day} : (if P then A else B).map dayD = if P then A.map dayD else B.map dayD := by split <;> rfl
theorem ok__law_days (F : FunH K mg "_law_days" "_law_days" st__law_days ps__law_days) (B : Blt mg)  : Has P w K mg base CX0 1 "_law_days" ps__law_days (sp__law_days K) := by
  refine F.has (N := N__law_days) sc__law_days (fun vs H Q E h => ?_) (fun f cdv A outer s H vs Q E hr h => ?_)
  · obtain ⟨G, l, ns, rfl, _⟩ := h
    rfl
  · obtain ⟨G, l, ns, rfl, a, hS, hl, k⟩ := h
    have u := Up.refl a
    have bg := big_1000000
    have bl := big_law
    have nd := sc__law_days.nd
    refine ⟨_, (pss_cons (ps_set (i := 1) nd rfl (Or.inl rfl) (pe_callB (cr_sumK K) (by rfl) B.sum (by decide +kernel) (pa_cons (pv 0) pa_nil)))
  (pss_cons (ps_set (i := 2) nd rfl (Or.inl rfl) (pe_ix (ix_tupK K) (pe_tup (pa_cons pe_int (pa_cons pe_int (pa_cons (pe_op op_pow pe_int pe_int) (pa_cons pe_int pa_nil))))) (pe_op op_mod (pv 1) pe_int) (fun _ _ => rfl)))
  (pss_cons (ps_set (i := 3) nd rfl (Or.inl rfl) (pe_ix (ix_tupK K) (pe_tup (pa_cons pe_int (pa_cons pe_int (pa_cons (pe_op op_pow pe_int pe_int) (pa_cons pe_int pa_nil))))) (pe_op op_mod (pe_op op_fdivW (pv 1) pe_int) pe_int) (fun _ _ => rfl)))
  (pss_cons (ps_set (i := 4) nd rfl (Or.inl rfl) (pe_lst pa_nil))
  (pss_cons (ps_for PassesOwn.never rfl (pi_enumK K B.enumerate (pa_cons (pv 0) pa_nil)) (pg_tupK K (n := 2) (pgs_names (pg_name (i := 5) nd rfl (Or.inl rfl)) (pgs_names (pg_name (i := 6) nd rfl (Or.inl rfl)) pgs_done)))
  (pss_cons (ps_set (i := 7) nd rfl (Or.inl rfl) (pe_op op_mod (pv 6) (pv 2)))
  (pss_cons (ps_set (i := 8) nd rfl (Or.inl rfl) (pe_ifExp (pt_cmpR op_gt (pe_op op_mod (pe_op op_fdivW (pv 1) pe_int) pe_int) pe_int (nomark _)) (pe_op op_mod (pe_op op_fdivW (pv 6) pe_int) (pv 2)) (pe_op op_sub (pe_op op_add (pv 7) (pe_op op_mod (pe_op op_fdivW (pv 6) pe_int) pe_int)) pe_int)))
  (pss_one (ps_expr (pe_bm PySem.F.plainAttrs_list PySem.F.slot_list_append PySem.F.type_list_append mt_append (pv 4) (pa_cons (pe_tup (pa_cons (pv 7) (pa_cons (pe_op op_mod (pe_op op_fdivW (pv 6) pe_int) (pv 3)) (pa_cons (pe_callB (cb_max2 rfl) (by rfl) B.max (by decide +kernel) (pa_cons pe_int (pa_cons (pv 8) pa_nil))) (pa_cons (pe_op op_mod (pe_op op_fdivW (pe_op op_add (pv 6) (pv 5)) pe_int) (pv 3)) pa_nil))))) pa_nil)))))))
  (pss_cons (ps_if (PW.pt (pw_and (pt_cmpR op_eq (pe_op op_mod (pe_op op_fdivW (pv 1) pe_int) pe_int) pe_int (nomark _)) (pw_and1 (pt_cmpR (op_neDK K hr.units) (pv 0) (pe_lst pa_nil) (nomark _)))))
  (pss_cons (ps_set (i := 9) nd rfl (Or.inr rfl) (pv 4))
  (pss_one (ps_setLc (i := 4) (own := [("_law_at", 5)]) (by rfl) nd rfl rfl (sw_true rfl rfl rfl (by decide +kernel)) (pi_range1 (by rfl) B.range (pa_cons (pe_op op_add pe_int (pe_op op_mod (pv 1) pe_int)) pa_nil)) (blkOk_by (own := [("_law_at", 5)]) (N := N__law_days) (sc := defScope st__law_days) (by decide +kernel)) (fun _ _ _ _ _ => (pg_name (i := 5) nd rfl (Or.inl rfl))) (fun _ _ _ _ _ => pts_nil) (fun _ _ _ _ _ => (pe_ix (ix_listK K) (pv 9) (pe_op op_mod (pe_op op_add (pe_op op_mulW (pv 5) (pv 5)) (pe_op op_fdivW (pv 5) pe_int)) (pe_callB (cb_lenK K) (by rfl) B.len (by decide +kernel) (pa_cons (pv 9) pa_nil))) (fun _ _ => rfl))))))
  pss_nil)
  (pss_one (ps_ret (pv 4))))))))), ?_⟩
    refine q_setI (n := ns.sum) u.s (by walk_at "ev") fun H1 e1 => ?_
    refine q_setI (n := highOf ns.sum) (u.scal e1).s (evd_ixT (i := ns.sum % 4) (ds := highs.map PyData.int) (by unfold highs; walk_at "ev") (by walk_at "ev") (pick_at (by omega) (by show ns.sum % 4 < 4; omega))) fun H2 e2 => ?_
    refine q_setI (n := mostOf ns.sum) ((u.scal e1).scal e2).s (evd_ixT (i := ns.sum / 4 % 4) (ds := mosts.map PyData.int) (by unfold mosts; walk_at "ev") (by walk_at "ev") (pick_at (by omega) (by show ns.sum / 4 % 4 < 4; omega))) fun H3 e3 => ?_
    have u3 := ((u.scal e1).scal e2).scal e3
    refine q_setN u3.s (evn_lst eva_nil) fun p xs H4 e4 hp h4 z4 => ?_
    cases z4.unnil
    have gp : G p = none := none_of_ex u3.s hp
    have u4 := u3.scal e4
    have h0p : H p = none := none_of_ex u3.h hp
    refine q_for u4.s (src_enumS (K := K) (l := l) (ns := ns) (j := 5) (k := 6) rfl hS) fun H5 e5 =>
      ⟨fun i σ' G' H' => ∃ v5 v6 v7 v8 v9 xs, σ' = [some (.ref l), some (.int ns.sum), some (.int (highOf ns.sum)), some (.int (mostOf ns.sum)), some (.ref p), v5, v6, v7, v8, v9] ∧ Up G H G' H' ∧ Ex (gr G H4 H5) G' ∧ G' p = none ∧ H' p = some (.lst xs) ∧ DsA G' xs ((daysFrom ns.sum 0 (ns.take i)).map dayD), ?_, ?_, ?_, ?_⟩
    · exact ⟨none, none, none, none, none, [], rfl, u4.data e5, Ex.refl _, by rw [gr_old h4]; exact gp, e5 _ _ h4, .nil⟩
    · rintro i σ' G' H' ⟨_, _, _, _, _, _, _, u', g', _⟩
      exact ⟨g', u'.s⟩
    · rintro i σ' G' H' H6 σ6 hi ⟨v5, v6, v7, v8, v9, xs, rfl, u', g', gp', hp', zx⟩ e6 ⟨c, hc, rfl⟩
      have u6 := u'.scal e6
      obtain ⟨hh1, hh2⟩ := high_pos ns.sum
      obtain ⟨hm1, hm2⟩ := most_pos ns.sum
      refine q_setI (n := c % highOf ns.sum) u6.s (by walk_at "ev") fun H7 e7 => ?_
      have u7 := u6.scal e7
      refine q_setI (n := otherOf ns.sum c) u7.s (evd_if (b := decide (ns.sum / 16 % 3 > 0)) (by walk_at "ev") (fun hb => ?_) (fun hb => ?_)) fun H8 e8 => ?_
      · have hb := of_decide_eq_true hb
        rw [show otherOf ns.sum c = c / 7 % highOf ns.sum from if_pos hb]
        walk_at "ev"
      · have hb := of_decide_eq_false hb
        rw [show otherOf ns.sum c = c % highOf ns.sum + c / 7 % 3 - 1 from if_neg hb]
        walk_at "ev"
      have u8 := u7.scal e8
      have p8 : H8 p = some (.lst xs) := e8 _ _ (e7 _ _ (e6 _ _ hp'))
      refine z_app (xs := xs) u8.s rfl p8 (d := dayD (dayOf ns.sum i c)) ?_ (by rw [zx.1, List.length_map, daysFrom_length, List.length_take]; omega) fun v9 H9 e9 z9 => ?_
      · show EvD _ _ _ (.tuple [.int (c % highOf ns.sum), .int (c / 11 % mostOf ns.sum), .int (max 0 (otherOf ns.sum c)), .int ((c + (i : Int)) / 13 % mostOf ns.sum)])
        walk_at "ev"
      have u9 := u8.data e9
      have gp9 : gr G' H8 H9 p = none := by rw [gr_old p8]; exact gp'
      refine ⟨_, _, _, _, _, _, xs ++ [v9], rfl, u9.mut gp9 h0p, g'.trans (ex_gr u8.s), gp9, upd_same, ?_⟩
      rw [take_succ_of hc, daysFrom_append, List.map_append]
      refine (zx.mono (ex_gr u8.s)).append (.cons ?_ .nil)
      have e0 : 0 + (ns.take i).length = i := by rw [List.length_take]; omega
      rw [e0]
      exact z9
    · rintro σ' G' H' ⟨v5, v6, v7, v8, v9, xs, rfl, u', g', gp', hp', zx⟩
      rw [List.take_length] at zx
      have hS' := hS.mono u'.g
      refine q_if1 u'.s (b := decide (ns.sum / 48 % 9 = 2) && !ns.isEmpty) (et_and (evt_test (by walk_at "ev")) fun _ => evt_test (evd_neS hS' rfl)) (fun hb H6 e6 => ?_) (fun hb H6 e6 => ?_)
      · have hb1 : ns.sum / 48 % 9 = 2 := by simp only [Bool.and_eq_true, decide_eq_true_eq] at hb; exact hb.1
        have hb2 : ns ≠ [] := by
          intro q
          subst q
          simp at hb
        have ed : lawDays ns = moreDays ns.sum (daysFrom ns.sum 0 ns) := if_pos ⟨hb1, hb2⟩
        have hpos : 0 < ns.length := List.length_pos_iff.mpr hb2
        rw [ed] at k
        -- the list that was filled stands under another name
        have u6 := (u'.scal e6).adopt gp' h0p (e6 _ _ hp')
        have zp := adopt_ds gp' zx
        refine q_set u6.s (evd_var rfl zp) fun v7 H7 e7 z7 => ?_
        have u7 := u6.data e7
        rw [moreDays_map] at k
        refine z_setN u7.s (evn_lcR (n := 70 + ns.sum % 20) (fun (i : Nat) => dayD ((daysFrom ns.sum 0 ns).getD (((i : Int) * (i : Int) + (i : Int) / 7) % ((daysFrom ns.sum 0 ns).length : Int)).toNat (0, 0, 0, 0))) (by walk_at "ev") (by omega) (by omega) (fun _ => rfl) fun Gx i g hi => ?_) fun q ys H8 e8 hq h8 z8 => ?_
        · have z7' := z7.mono g
          rw [daysFrom_length]
          have hp1 : (0 : Int) < (ns.length : Int) := by omega
          refine evd_ixL (i := ((i : Int) * (i : Int) + (i : Int) / 7) % (ns.length : Int)) (evd_var rfl z7') ?_ (atI_getD (Int.emod_nonneg _ (by omega)) (by rw [daysFrom_length]; exact Int.emod_lt_of_pos _ hp1))
          refine evd_I (j := (ns.length : Int)) (by walk_at "ev") (EvD.to (evd_len (evd_var rfl z7')) (by rw [List.length_map, daysFrom_length])) hp1
        · have u8 := u7.data e8
          refine ⟨_, rfl, ?_⟩
          exact k q ys H8 u8.h (none_of_ex u7.h hq) h8 (z8.mono (but_mono u8.ex))
      · have ed : lawDays ns = daysFrom ns.sum 0 ns := if_neg fun q => by
          simp only [q.1, decide_true, Bool.true_and, Bool.not_eq_false', List.isEmpty_iff] at hb
          exact q.2 hb
        rw [ed] at k
        exact ⟨_, rfl, (u'.scal e6).outN k h0p gp' (e6 _ _ hp') zx⟩
end
end Gt

namespace Gt
open PySem PySem.Spec PyProof.Rows L2 Evl Gs
local macro_rules | `(tactic| walk_at "ev1") => `(tactic| first
  | exact evd_ci | exact evd_cb | exact evd_cn | exact evd_cs
  | exact evd_vi rfl | exact evd_vb rfl | exact evd_vn rfl
  | exact evd_var rfl (by assumption)
  | exact evd_sumS (by assumption) rfl | exact evd_lenS (by assumption) rfl
  | apply evd_I0 | apply evd_B0 | apply evd_U
  | apply evd_ixT | apply evd_ixL
  | apply evd_chain
  | apply evd_max2 | apply evd_min2 | apply evd_min3
  | exact evd_len (evd_var rfl (by assumption)) | exact evd_lenT (evd_var rfl (by assumption)) | apply evd_len
  | refine evd_tup ?_
  | apply evd_eq | apply evd_ne | apply evd_eqB | apply evd_neB
  | apply evd_isi | refine evd_not ?_
  | apply evd_I
  | exact eva_nil | refine eva_cons ?_ ?_
  | refine evn_lst ?_ | refine evn_sl ?_ ?_ ?_ | refine evn_cat ?_ ?_ ?_ | refine evn_listOf ?_ | refine evn_revL ?_
  | exact evo_none | refine evo_some ?_
  | refine EvN.asD (evn_lst ?_) | refine EvN.asD (evn_sl ?_ ?_ ?_) | refine EvN.asD (evn_cat ?_ ?_ ?_) | refine EvN.asD (evn_listOf ?_) | refine EvN.asD (evn_revL ?_)
  | refine evt_test ?_ | refine evt_B ?_
  | exact kit_int_int | exact kit_int_bool | exact kit_list_list | exact kit_tuple_tuple | exact kit_bool_int | exact kit_bool_bool | exact kit_none_int | exact kit_str_int | exact kit_list_int | exact kit_tuple_int | exact kit_int_tuple | exact kit_none_tuple | exact kit_list_tuple | exact kit_str_tuple | exact kit_bool_tuple | exact kit_tuple_list | exact kit_none_list | exact kit_str_list | exact kit_int_list
  | (show EvD _ _ _ _; assumption) | (show atI _ _ = _; first | assumption | rfl) | (show SeqAt.shaped _ = true; first | assumption | rfl)
  | (show CMulW _ _; first | assumption | exact mul_ok (by omega) (by omega)) | (show CDivW _ _; first | assumption | exact div_lit (by decide +kernel) | exact div_ok (by omega) (by omega)) | (show (0 : Int) < _; omega) | (show CPow _ _; exact ⟨by decide, by decide, by decide⟩))
local macro_rules | `(tactic| walk_at "ev") => `(tactic| repeat' (walk_at "ev1"))

section
variable {P : Program} {w : World} {K : PySem.W.Frag} {mg : Str → Option Value} {base : Heap}
def sp__law_numbers : Sp := spD fun ds d => ∃ ns : List Int, ds = [intsD ns] ∧ ns.length ≤ 40000 ∧ d = .bool true
theorem ok__law_numbers (F : FunH K mg "_law_numbers" "_law_numbers" st__law_numbers ps__law_numbers) (B : Blt mg)  : Has P w K mg base CX0 1 "_law_numbers" ps__law_numbers sp__law_numbers := by
  refine F.has (N := N__law_numbers) sc__law_numbers (fun vs H Q E h => ?_) (fun f cdv A outer s H vs Q E hr h => ?_)
  · obtain ⟨G, ds, d, _, hz, ⟨l, rfl, _⟩, _⟩ := h
    exact hz.1
  · obtain ⟨G, ds, d, a, hz, ⟨ns, rfl, hl, rfl⟩, k⟩ := h
    obtain ⟨v, rfl, z⟩ := hz.one
    have z : Ds G v (.list (ns.map PyData.int)) := z
    have u := Up.refl a
    have nd := sc__law_numbers.nd
    refine ⟨_, (pss_cons (ps_if (pt_not (pt_val (pe_callB (call_isiKK K) (by rfl) B.isinstance (by decide +kernel) (pa_cons (pv 0) (pa_cons (pe_bltn (v := .ty "list") (by rfl) B.list (by decide +kernel) rfl) pa_nil)))))
  (pss_one (ps_ret pe_bl))
  pss_nil)
  (pss_one (ps_ret (pe_callB (cr_allK K) (by rfl) B.all (by decide +kernel) (pa_cons (pe_lc (own := [("_law_one", 1)]) (by rfl) nd (pi_listK K (pv 0)) (blkOk_by (own := [("_law_one", 1)]) (N := N__law_numbers) (sc := defScope st__law_numbers) (by decide +kernel)) (fun _ _ _ _ _ => (pg_name (i := 1) nd rfl (Or.inl rfl))) (fun _ _ _ _ _ => pts_nil) (fun _ _ _ _ _ => (pe_and (pe_callB (call_isiKK K) (by rfl) B.isinstance (by decide +kernel) (pa_cons (pv 1) (pa_cons (pe_bltn (v := .ty "int") (by rfl) B.int (by decide +kernel) rfl) pa_nil))) (pe_one (pe_not (pe_callB (call_isiKK K) (by rfl) B.isinstance (by decide +kernel) (pa_cons (pv 1) (pa_cons (pe_bltn (v := .ty "bool") (by rfl) B.bool (by decide +kernel) rfl) pa_nil)))))))) pa_nil))))), ?_⟩
    refine q_if1 u.s (b := false) (et_not (a := true) (by walk_at "ev")) (fun h => nomatch h) (fun _ H1 e1 => ?_)
    refine z_ret (u.scal e1).s (EvD.to (evd_all (ns := ns.map fun _ => true) (EvN.asD (EvN.to (evn_lcL (fun _ => .bool true) (by walk_at "ev") (by rw [List.length_map]; exact hl) (fun _ => rfl) fun Gx v d g hd zd => ?_) (by rw [List.map_map, List.map_map]; rfl)))) ?_) ((u.scal e1).retD k)
    · obtain ⟨n, _, rfl⟩ := List.mem_map.mp hd
      exact evd_and (a := true) (b := true) (by walk_at "ev") fun _ => evd_not (a := false) (by walk_at "ev")
    · rw [List.all_map, List.all_eq_true.mpr]
      exact fun _ _ => rfl
def sp__law_can : Sp := spD fun ds d => ∃ (l : List Day) (room : Int) (m : List Deed), ds = [daysD l, .int room, deedsD m] ∧ m.length ≤ 40000 ∧ m.length ≤ l.length ∧ d = .int (faultOf l room m)
theorem ok__law_can (F : FunH K mg "_law_can" "_law_can" st__law_can ps__law_can) (B : Blt mg)  : Has P w K mg base CX0 1 "_law_can" ps__law_can sp__law_can := by
  refine F.has (N := N__law_can) sc__law_can (fun vs H Q E h => ?_) (fun f cdv A outer s H vs Q E hr h => ?_)
  · obtain ⟨G, ds, d, _, hz, ⟨l, room, m, rfl, _⟩, _⟩ := h
    exact hz.1
  · obtain ⟨G, ds, d, a, hz, ⟨l, room, m, rfl, hm, hl, rfl⟩, k⟩ := h
    obtain ⟨v, vr, v', rfl, z, zr, z'⟩ := hz.three
    cases zr
    have z : Ds G v (.list (l.map dayD)) := z
    have z' : Ds G v' (.list (m.map deedD)) := z'
    have u := Up.refl a
    have nd := sc__law_can.nd
    refine ⟨_, (pss_cons (ps_set (i := 3) nd rfl (Or.inl rfl) pe_int)
  (pss_cons (ps_for PassesOwn.never rfl (pi_enumK K B.enumerate (pa_cons (pv 2) pa_nil)) (pg_tupK K (n := 2) (pgs_names (pg_name (i := 4) nd rfl (Or.inl rfl)) (pgs_names (pg_name (i := 5) nd rfl (Or.inl rfl)) pgs_done)))
  (pss_cons (ps_set (i := 3) nd rfl (Or.inl rfl) (pe_op op_sub (pe_op op_add (pv 3) (pe_ix (ix_tupK K) (pv 5) pe_int (fun _ _ => rfl))) (pe_ix (ix_tupK K) (pv 5) pe_int (fun _ _ => rfl))))
  (pss_one (ps_if (PW.pt (pw_or (pt_cmpR op_lt (pe_callB (cb_min3 rfl) (by rfl) B.min (by decide +kernel) (pa_cons (pe_ix (ix_tupK K) (pv 5) pe_int (fun _ _ => rfl)) (pa_cons (pe_ix (ix_tupK K) (pv 5) pe_int (fun _ _ => rfl)) (pa_cons (pv 3) pa_nil)))) pe_int (nomark _)) (pw_or (pt_cmpR op_gt (pe_ix (ix_tupK K) (pv 5) pe_int (fun _ _ => rfl)) (pe_ix (ix_tupK K) (pe_ix (ix_listK K) (pv 0) (pv 4) (fun _ _ => rfl)) pe_int (fun _ _ => rfl)) (nomark _)) (pw_or (pt_cmpR op_gt (pe_ix (ix_tupK K) (pv 5) pe_int (fun _ _ => rfl)) (pe_ix (ix_tupK K) (pe_ix (ix_listK K) (pv 0) (pv 4) (fun _ _ => rfl)) pe_int (fun _ _ => rfl)) (nomark _)) (pw_or1 (pt_cmpR op_gt (pv 3) (pv 1) (nomark _)))))))
  (pss_one (ps_ret (pv 4)))
  pss_nil))))
  (pss_one (ps_ret (pe_un un_neg pe_int))))), ?_⟩
    refine q_setI (n := 0) u.s (by walk_at "ev") fun H0 e0 => ?_
    have u0 := u.scal e0
    refine q_for u0.s (src_enum (ds := m.map deedD) (j := 4) (k := 5) (by walk_at "ev")) fun H1 e1 =>
      ⟨fun i σ' G' H' => ∃ v4 v5, σ' = [some v, some (.int room), some v', some (.int (leftOf 0 (m.take i))), v4, v5] ∧ Up G H G' H' ∧ Ex (gr G H0 H1) G' ∧ faultOf l room m = faultFrom (l.drop i) room (leftOf 0 (m.take i)) i (m.drop i), ?_, ?_, ?_, ?_⟩
    · exact ⟨none, none, rfl, u0.data e1, Ex.refl _, rfl⟩
    · rintro i σ' G' H' ⟨_, _, _, u', g', _⟩
      exact ⟨g', u'.s⟩
    · rintro i σ' G' H' H3 σ3 hi ⟨v4, v5, rfl, u', g', hf⟩ e3 ⟨a3, a4, d3, d4, h3, h4, z3, z4, rfl⟩
      rw [List.length_map] at hi
      obtain ⟨d, hd, rfl⟩ := map_get h4
      obtain ⟨x, hx⟩ := get_of_lt (Nat.lt_of_lt_of_le hi hl)
      cases h3
      cases z3
      have u3 := u'.data e3
      have zl := z.mono u3.g
      have ia := atI_map (f := dayD) hx
      have ls : leftOf 0 (m.take (i + 1)) = leftOf 0 (m.take i) + d.1 - d.2 := by rw [take_succ_of hd, leftOf_append]; rfl
      refine q_setI (n := leftOf 0 (m.take i) + d.1 - d.2) u3.s (by walk_at "ev") fun H4 e4 => ?_
      have u4 := u3.scal e4
      refine z_if1 (b := !okDeed x room (leftOf 0 (m.take i) + d.1 - d.2) d) u4.s (et_is (et_or (evt_test (by walk_at "ev")) fun _ => et_or (evt_test (by walk_at "ev")) fun _ => et_or (evt_test (by walk_at "ev")) fun _ => evt_test (by walk_at "ev")) ?_) (fun hb H5 e5 => ?_) (fun hb H5 e5 => ?_)
      · unfold okDeed
        rw [Bool.eq_iff_iff]
        simp only [Bool.or_eq_true, Bool.not_eq_true', Bool.and_eq_false_iff, decide_eq_true_eq, decide_eq_false_iff_not]
        omega
      · rw [faultFrom_drop hx hd, if_neg (by intro q; rw [q] at hb; cases hb)] at hf
        refine ⟨_, rfl, (u4.scal e5).outD k ?_⟩
        rw [hf]
        exact .int _
      · rw [faultFrom_drop hx hd, if_pos (by simpa using hb)] at hf
        exact ⟨_, some (.int i), some a4, by rw [ls]; rfl, u4.scal e5, g'.trans (ex_gr u'.s), by rw [hf, ls]; rfl⟩
    · rintro σ' G' H' ⟨v4, v5, rfl, u', g', hf⟩
      rw [List.length_map, List.drop_length] at hf
      have e : faultOf l room m = -1 := by rw [hf]; cases l.drop m.length <;> rfl
      rw [e] at k
      exact z_ret u'.s (by walk_at "ev") (u'.retD k)
end
end Gt

namespace Gt
open PySem PySem.Spec PyProof.Rows L2 Evl Gs
local macro_rules | `(tactic| walk_at "ev1") => `(tactic| first
  | exact evd_ci | exact evd_cb | exact evd_cn | exact evd_cs
  | exact evd_vi rfl | exact evd_vb rfl | exact evd_vn rfl
  | exact evd_var rfl (by assumption)
  | exact evd_sumS (by assumption) rfl | exact evd_lenS (by assumption) rfl
  | apply evd_I0 | apply evd_B0 | apply evd_U
  | apply evd_ixT | apply evd_ixL
  | apply evd_chain
  | apply evd_max2 | apply evd_min2 | apply evd_min3
  | exact evd_len (evd_var rfl (by assumption)) | exact evd_lenT (evd_var rfl (by assumption)) | apply evd_len
  | refine evd_tup ?_
  | apply evd_eq | apply evd_ne | apply evd_eqB | apply evd_neB
  | apply evd_isi | refine evd_not ?_
  | apply evd_I
  | exact eva_nil | refine eva_cons ?_ ?_
  | refine evn_lst ?_ | refine evn_sl ?_ ?_ ?_ | refine evn_cat ?_ ?_ ?_ | refine evn_listOf ?_ | refine evn_revL ?_
  | exact evo_none | refine evo_some ?_
  | refine EvN.asD (evn_lst ?_) | refine EvN.asD (evn_sl ?_ ?_ ?_) | refine EvN.asD (evn_cat ?_ ?_ ?_) | refine EvN.asD (evn_listOf ?_) | refine EvN.asD (evn_revL ?_)
  | refine evt_test ?_ | refine evt_B ?_
  | exact kit_int_int | exact kit_int_bool | exact kit_list_list | exact kit_tuple_tuple | exact kit_bool_int | exact kit_bool_bool | exact kit_none_int | exact kit_str_int | exact kit_list_int | exact kit_tuple_int | exact kit_int_tuple | exact kit_none_tuple | exact kit_list_tuple | exact kit_str_tuple | exact kit_bool_tuple | exact kit_tuple_list | exact kit_none_list | exact kit_str_list | exact kit_int_list
  | (show EvD _ _ _ _; assumption) | (show atI _ _ = _; first | assumption | rfl) | (show SeqAt.shaped _ = true; first | assumption | rfl)
  | (show CMulW _ _; first | assumption | exact mul_ok (by omega) (by omega)) | (show CDivW _ _; first | assumption | exact div_lit (by decide +kernel) | exact div_ok (by omega) (by omega)) | (show (0 : Int) < _; omega) | (show CPow _ _; exact ⟨by decide, by decide, by decide⟩))
local macro_rules | `(tactic| walk_at "ev") => `(tactic| repeat' (walk_at "ev1"))

section
variable {P : Program} {w : World} {K : PySem.W.Frag} {mg : Str → Option Value} {base : Heap}
def sp_law (K : PySem.W.Frag) : Sp := fun vs H Q _ => ∃ (l : Addr) (ns : List Int), vs = [.ref l] ∧ SqL K H l (ns.map V.int) ∧ ns.length ≤ 63 ∧ ∀ H2, Q (.bl true) H2
theorem law_start {K : PySem.W.Frag} {H : Hp} {a : Addr} {ns : List Int} (hS : SqL K H a (ns.map V.int)) (hl : ns.length ≤ 63) : sp_law K [.ref a] H (fun v _ => v = .bl true) (fun _ _ _ => False) := ⟨a, ns, rfl, hS, hl, fun _ => rfl⟩
/-- two lists in one -/
theorem plain_both (l : List Day) (m : List Deed) : plain 3 (.list [daysD l, deedsD m]) = true := by
  have h1 := plain_days l
  have h2 := plain_deeds m
  show (plain 2 (daysD l) && (plain 2 (deedsD m) && true)) = true
  rw [h1, h2]
  rfl
def bought0 (turn c room left : Int) (d : Day) : Int := if turn < 2 then min d.2.1 (c % (room + 2 - min left room)) else c % (d.2.1 + 1)
theorem bought0_ok {turn c room left : Int} {d : Day} (hd : lawDay d) (h0 : 0 ≤ room) : 0 ≤ bought0 turn c room left d ∧ bought0 turn c room left d ≤ 10 ^ 25 := by
  obtain ⟨_, ⟨h1, h2⟩, _⟩ := hd
  have a1 := Int.emod_nonneg c (show room + 2 - min left room ≠ 0 by omega)
  have a2 := Int.emod_nonneg c (show d.2.1 + 1 ≠ 0 by omega)
  have a3 := Int.emod_lt_of_pos c (show 0 < d.2.1 + 1 by omega)
  unfold bought0
  split <;> omega
theorem ok_law {f : Addr} {fd : FuncData} (F : Fun K "law" "law" st_law f fd) (B : Blt mg) (h__law_can : Has P w K mg base CX0 1 "_law_can" ps__law_can sp__law_can) (h__law_days : Has P w K mg base CX0 1 "_law_days" ps__law_days (sp__law_days K)) (h__law_numbers : Has P w K mg base CX0 1 "_law_numbers" ps__law_numbers sp__law_numbers) (h__law_room : Has P w K mg base CX0 1 "_law_room" ps__law_room (sp__law_room K)) (h_barred : Has P w K mg base CX0 4 "barred" ps_barred sp_barred) (h_gained : Has P w K mg base CX0 4 "gained" ps_gained sp_gained) (h_stored : Has P w K mg base CX0 4 "stored" ps_stored sp_stored) : FnOk P w K mg base CX0 5 f fd ps_law (sp_law K) := by
  refine F.ok (N := N_law) sc_law (fun vs H Q E h => ?_) (fun cdv A outer s H vs Q E hr h => ?_)
  · obtain ⟨l, ns, rfl, _⟩ := h
    rfl
  · obtain ⟨l, ns, rfl, hS, hl, k⟩ := h
    have u := Up.refl (Ex.refl H)
    have bl := big_law
    have bm := big_1000000
    have hS : Scr K H l ns := hS
    have nd := sc_law.nd
    refine ⟨_, (pss_cons (ps_set (i := 1) nd rfl (Or.inl rfl) (pe_f h__law_days (hr.mono (by decide)) (pa_cons (pv 0) pa_nil)))
  (pss_cons (ps_set (i := 2) nd rfl (Or.inl rfl) (pe_f h__law_room (hr.mono (by decide)) (pa_cons (pv 0) pa_nil)))
  (pss_cons (ps_set (i := 3) nd rfl (Or.inl rfl) (pe_callB (cr_sumK K) (by rfl) B.sum (by decide +kernel) (pa_cons (pv 0) pa_nil)))
  (pss_cons (ps_for PassesOwn.never rfl (pi_range1 (by rfl) B.range (pa_cons pe_int pa_nil)) (pg_name (i := 4) nd rfl (Or.inl rfl))
  (pss_cons (ps_set (i := 5) nd rfl (Or.inl rfl) (pe_lst pa_nil))
  (pss_cons (ps_set (i := 6) nd rfl (Or.inl rfl) pe_int)
  (pss_cons (ps_for PassesOwn.never rfl (pi_enumK K B.enumerate (pa_cons (pv 1) pa_nil)) (pg_tupK K (n := 2) (pgs_names (pg_name (i := 7) nd rfl (Or.inl rfl)) (pgs_names (pg_name (i := 8) nd rfl (Or.inl rfl)) pgs_done)))
  (pss_cons (ps_set (i := 9) nd rfl (Or.inl rfl) (pe_op op_add (pe_op op_fdivW (pe_ix (ix_listK K) (pv 0) (pe_op op_mod (pv 7) (pe_callB (cb_lenK K) (by rfl) B.len (by decide +kernel) (pa_cons (pv 0) pa_nil))) (fun _ _ => rfl)) (pe_op op_add (pv 4) pe_int)) (pv 7)))
  (pss_cons (ps_set (i := 10) nd rfl (Or.inl rfl) (pe_ifExp (pt_cmpR op_lt (pv 4) pe_int (nomark _)) (pe_callB (cb_min2 rfl) (by rfl) B.min (by decide +kernel) (pa_cons (pe_ix (ix_tupK K) (pv 8) pe_int (fun _ _ => rfl)) (pa_cons (pe_op op_mod (pv 9) (pe_op op_sub (pe_op op_add (pv 2) pe_int) (pe_callB (cb_min2 rfl) (by rfl) B.min (by decide +kernel) (pa_cons (pv 6) (pa_cons (pv 2) pa_nil))))) pa_nil))) (pe_op op_mod (pv 9) (pe_op op_add (pe_ix (ix_tupK K) (pv 8) pe_int (fun _ _ => rfl)) pe_int))))
  (pss_cons (ps_set (i := 11) nd rfl (Or.inl rfl) (pe_callB (cb_min2 rfl) (by rfl) B.min (by decide +kernel) (pa_cons (pe_ix (ix_tupK K) (pv 8) pe_int (fun _ _ => rfl)) (pa_cons (pe_op op_mod (pe_op op_fdivW (pv 9) pe_int) (pe_op op_add (pe_op op_add (pv 6) (pv 10)) pe_int)) pa_nil))))
  (pss_cons (ps_if (PW.pt (pw_and (pt_cmpR op_eq (pv 7) (pe_op op_mod (pv 3) (pe_callB (cb_lenK K) (by rfl) B.len (by decide +kernel) (pa_cons (pv 1) pa_nil))) (nomark _)) (pw_and1 (pt_cmpR op_gt (pv 4) pe_int (nomark _)))))
  (pss_cons (ps_set (i := 11) nd rfl (Or.inl rfl) (pe_op op_add (pv 11) (pe_op op_mod (pe_op op_fdivW (pv 3) pe_int) pe_int)))
  (pss_one (ps_set (i := 10) nd rfl (Or.inl rfl) (pe_op op_add (pv 10) (pe_ix (ix_tupK K) (pe_tup (pa_cons pe_int (pa_cons pe_int (pa_cons (pe_op op_add (pe_ix (ix_tupK K) (pv 8) pe_int (fun _ _ => rfl)) pe_int) pa_nil)))) (pe_op op_mod (pe_op op_fdivW (pv 3) pe_int) pe_int) (fun _ _ => rfl))))))
  pss_nil)
  (pss_cons (ps_expr (pe_bm PySem.F.plainAttrs_list PySem.F.slot_list_append PySem.F.type_list_append mt_append (pv 5) (pa_cons (pe_tup (pa_cons (pv 10) (pa_cons (pv 11) pa_nil))) pa_nil)))
  (pss_one (ps_set (i := 6) nd rfl (Or.inl rfl) (pe_callB (cb_max2 rfl) (by rfl) B.max (by decide +kernel) (pa_cons pe_int (pa_cons (pe_op op_sub (pe_op op_add (pv 6) (pv 10)) (pv 11)) pa_nil)))))))))))
  (pss_cons (ps_set (i := 12) nd rfl (Or.inl rfl) (pe_lst (pa_cons (pe_callTy (cb_listK K) (by rfl) B.list (by decide +kernel) (pa_cons (pv 1) pa_nil)) (pa_cons (pe_callTy (cb_listK K) (by rfl) B.list (by decide +kernel) (pa_cons (pv 5) pa_nil)) pa_nil))))
  (pss_cons (ps_set (i := 13) nd rfl (Or.inl rfl) (pe_f h_stored (hr.mono (by decide)) (pa_cons (pe_ix (ix_listK K) (pv 12) pe_int (fun _ _ => rfl)) (pa_cons (pe_ix (ix_listK K) (pv 12) pe_int (fun _ _ => rfl)) pa_nil))))
  (pss_cons (ps_set (i := 14) nd rfl (Or.inl rfl) pe_int)
  (pss_cons (ps_set (i := 15) nd rfl (Or.inl rfl) (pe_lst pa_nil))
  (pss_cons (ps_for PassesOwn.never rfl (pi_listK K (pv 5)) (pg_tupK K (n := 2) (pgs_names (pg_name (i := 10) nd rfl (Or.inl rfl)) (pgs_names (pg_name (i := 11) nd rfl (Or.inl rfl)) pgs_done)))
  (pss_cons (ps_set (i := 14) nd rfl (Or.inl rfl) (pe_op op_sub (pe_op op_add (pv 14) (pv 10)) (pv 11)))
  (pss_one (ps_expr (pe_bm PySem.F.plainAttrs_list PySem.F.slot_list_append PySem.F.type_list_append mt_append (pv 15) (pa_cons (pv 14) pa_nil))))))
  (pss_cons (ps_if (PW.pt (pw_or (pt_not (pt_val (pe_f h__law_numbers (hr.mono (by decide)) (pa_cons (pv 13) pa_nil)))) (pw_or (pt_cmpR (op_neDK K hr.units) (pv 13) (pv 15) (nomark _)) (pw_or1 (pt_cmpR (op_neDK K hr.units) (pv 12) (pe_lst (pa_cons (pv 1) (pa_cons (pv 5) pa_nil))) (nomark _))))))
  (pss_one (ps_ret pe_bl))
  pss_nil)
  (pss_cons (ps_expr (pe_bm PySem.F.plainAttrs_list PySem.F.slot_list_append PySem.F.type_list_append mt_append (pv 13) (pa_cons pe_int pa_nil)))
  (pss_cons (ps_set (i := 16) nd rfl (Or.inl rfl) (pe_f h_gained (hr.mono (by decide)) (pa_cons (pe_ix (ix_listK K) (pv 12) pe_int (fun _ _ => rfl)) (pa_cons (pe_ix (ix_listK K) (pv 12) pe_int (fun _ _ => rfl)) pa_nil))))
  (pss_cons (ps_set (i := 15) nd rfl (Or.inl rfl) (pe_callB (cr_sumK K) (by rfl) B.sum (by decide +kernel) (pa_cons (pe_lc (own := [("_law_day", 8), ("_law_deed", 18)]) (by rfl) nd (pi_zipK K B.zip (pa_cons (pv 1) (pa_cons (pv 5) pa_nil))) (blkOk_by (own := [("_law_day", 8), ("_law_deed", 18)]) (N := N_law) (sc := defScope st_law) (by decide +kernel)) (fun _ _ _ _ _ => (pg_tupK K (n := 2) (pgs_names (pg_name (i := 8) nd rfl (Or.inl rfl)) (pgs_names (pg_name (i := 18) nd rfl (Or.inl rfl)) pgs_done)))) (fun _ _ _ _ _ => pts_nil) (fun _ _ _ _ _ => (pe_op op_sub (pe_op op_mulW (pe_ix (ix_tupK K) (pv 18) pe_int (fun _ _ => rfl)) (pe_ix (ix_tupK K) (pv 8) pe_int (fun _ _ => rfl))) (pe_op op_mulW (pe_ix (ix_tupK K) (pv 18) pe_int (fun _ _ => rfl)) (pe_ix (ix_tupK K) (pv 8) pe_int (fun _ _ => rfl)))))) pa_nil)))
  (pss_cons (ps_if (PW.pt (pw_or (pt_val (pe_callB (call_isiKK K) (by rfl) B.isinstance (by decide +kernel) (pa_cons (pv 16) (pa_cons (pe_bltn (v := .ty "bool") (by rfl) B.bool (by decide +kernel) rfl) pa_nil)))) (pw_or (pt_not (pt_val (pe_callB (call_isiKK K) (by rfl) B.isinstance (by decide +kernel) (pa_cons (pv 16) (pa_cons (pe_bltn (v := .ty "int") (by rfl) B.int (by decide +kernel) rfl) pa_nil))))) (pw_or1 (pt_cmpR op_ne (pv 16) (pv 15) (nomark _))))))
  (pss_one (ps_ret pe_bl))
  pss_nil)
  (pss_cons (ps_set (i := 17) nd rfl (Or.inl rfl) (pe_f h_barred (hr.mono (by decide)) (pa_cons (pe_ix (ix_listK K) (pv 12) pe_int (fun _ _ => rfl)) (pa_cons (pv 2) (pa_cons (pe_ix (ix_listK K) (pv 12) pe_int (fun _ _ => rfl)) pa_nil)))))
  (pss_one (ps_if (PW.pt (pw_or (pt_val (pe_callB (call_isiKK K) (by rfl) B.isinstance (by decide +kernel) (pa_cons (pv 17) (pa_cons (pe_bltn (v := .ty "bool") (by rfl) B.bool (by decide +kernel) rfl) pa_nil)))) (pw_or (pt_cmpR op_ne (pv 17) (pe_f h__law_can (hr.mono (by decide)) (pa_cons (pv 1) (pa_cons (pv 2) (pa_cons (pv 5) pa_nil)))) (nomark _)) (pw_or1 (pt_cmpR (op_neDK K hr.units) (pv 12) (pe_lst (pa_cons (pv 1) (pa_cons (pv 5) pa_nil))) (nomark _))))))
  (pss_one (ps_ret pe_bl))
  pss_nil)))))))))))))))))
  (pss_one (ps_ret (pe_and (pe_cmpR (op_eqDK K hr.units) (pe_f h_stored (hr.mono (by decide)) (pa_cons (pe_lst pa_nil) (pa_cons (pe_lst pa_nil) pa_nil))) (pe_lst pa_nil) (nomark _)) (pe_and (pe_cmpR op_eq (pe_f h_barred (hr.mono (by decide)) (pa_cons (pe_lst pa_nil) (pa_cons pe_int (pa_cons (pe_lst pa_nil) pa_nil)))) (pe_un un_neg pe_int) (nomark _)) (pe_one (pe_cmpR op_eq (pe_f h_gained (hr.mono (by decide)) (pa_cons (pe_lst (pa_cons (pe_tup (pa_cons pe_int (pa_cons pe_int (pa_cons pe_int (pa_cons pe_int pa_nil))))) pa_nil)) (pa_cons (pe_lst (pa_cons (pe_tup (pa_cons pe_int (pa_cons pe_int pa_nil))) pa_nil)) pa_nil))) pe_int (nomark _))))))))))), ?_⟩
    refine q_set u.s (evn_days hS hl rfl).asD fun v1 H1 e1 z1 => ?_
    have u1 := u.data e1
    obtain ⟨ds, hds⟩ : ∃ ds, ds = lawDays ns := ⟨_, rfl⟩
    have dl := lawDays_law ns
    have dlen := lawDays_length ns hl
    have dnil : ds ≠ [] → 0 < ns.length := fun h => by
      cases ns with
      | nil => exact absurd (hds.trans lawDays_nil) h
      | cons a r => exact Nat.succ_pos _
    rw [← hds] at z1 dl dlen
    refine q_setI (n := lawRoom ns) u1.s (evd_room (hS.mono u1.g) rfl) fun H2 e2 => ?_
    obtain ⟨rm0, rm1⟩ := room_law ns
    have u2 := u1.scal e2
    obtain ⟨room, hroom⟩ : ∃ r, r = lawRoom ns := ⟨_, rfl⟩
    rw [← hroom] at rm0 rm1 ⊢
    have hS2 := hS.mono u2.g
    refine q_setI (n := ns.sum) u2.s (by walk_at "ev") fun H3 e3 => ?_
    have u3 := u2.scal e3
    generalize gr H H H1 = G3 at z1 u1 u2 u3 hS2
    refine q_for u3.s (src_range (j := 4) (n := 3) (by walk_at "ev") (by decide) (by decide)) fun H4 e4 =>
      ⟨fun i σ' G' H' => ∃ r4 r5 r6 r7 r8 r9 r10 r11 r12 r13 r14 r15 r16 r17 r18, σ' = [some (.ref l), some v1, some (.int room), some (.int ns.sum), r4, r5, r6, r7, r8, r9, r10, r11, r12, r13, r14, r15, r16, r17, r18] ∧ Up H H G' H' ∧ Ex (gr G3 H3 H4) G', ?_, ?_, ?_, ?_⟩
    · exact ⟨none, none, none, none, none, none, none, none, none, none, none, none, none, none, none, rfl, u3.data e4, Ex.refl _⟩
    · rintro i σ' G' H' ⟨_, _, _, _, _, _, _, _, _, _, _, _, _, _, _, _, u', g'⟩
      exact ⟨g', u'.s⟩
    · rintro i σ' G' H' H5 σ5 hi ⟨r4, r5, r6, r7, r8, r9, r10, r11, r12, r13, r14, r15, r16, r17, r18, rfl, u', g'⟩ e5 rfl
      have hi : i < 3 := hi
      have u5 := u'.scal e5
      have g0 : Ex G3 G' := (ex_gr u3.s).trans g'
      have zd := z1.mono g0
      have hS5 := hS2.mono g0
      have g'0 := g'
      -- the dealing is made
      refine q_setN u5.s (evn_lst eva_nil) fun p xs0 H6 e6 hp h6 z6 => ?_
      cases z6.unnil
      have gp : G' p = none := none_of_ex u5.s hp
      have h0p : H p = none := none_of_ex u5.h hp
      refine q_setI (n := 0) (u5.scal e6).s (by walk_at "ev") fun H7 e7 => ?_
      have u7 := (u5.scal e6).scal e7
      have p7 := e7 _ _ h6
      obtain ⟨Pv, hPv⟩ : ∃ Pv : Hp → Nat → L2.St → Hp → Hp → Prop, Pv = fun H8 => fun j σ' G1 H' => ∃ (m : List Deed) (left : Int) (xs : List V) (r7 r8 r9 r10 r11 : Option V), σ' = [some (.ref l), some v1, some (.int room), some (.int ns.sum), some (.int i), some (.ref p), some (.int left), r7, r8, r9, r10, r11, r12, r13, r14, r15, r16, r17, r18] ∧ Up H H G1 H' ∧ Ex (gr G' H7 H8) G1 ∧ G1 p = none ∧ H' p = some (.lst xs) ∧ DsA G1 xs (m.map deedD) ∧ m.length = j ∧ (∀ x ∈ m, goodDeed x ∧ smallDeed x) ∧ 0 ≤ left := ⟨_, rfl⟩
      refine q_for u7.s (src_enum (ds := ds.map dayD) (j := 7) (k := 8) (by walk_at "ev")) fun H8 e8 => ⟨Pv H8, ?_, ?_, ?_, ?_⟩
      · rw [hPv]
        exact ⟨[], 0, [], r7, r8, r9, r10, r11, rfl, u7.data e8, Ex.refl _, by rw [gr_old p7]; exact gp, e8 _ _ p7, .nil, rfl, by simp, Int.le_refl _⟩
      · intro j σ' G1 H' hq
        rw [hPv] at hq
        obtain ⟨_, _, _, _, _, _, _, _, _, u', g', _⟩ := hq
        exact ⟨g', u'.s⟩
      · intro j σ' G1 H' H9 σ9 hj hq e9 hs9
        have hq0 := hq
        rw [hPv] at hq0
        obtain ⟨m, left, xs, r7, r8, r9, r10, r11, rfl, u', g1, gp1, hp1, zx, hm, hgm, hleft⟩ := hq0
        obtain ⟨a3, a4, d3, d4, h3, h4, z3, z4, rfl⟩ := hs9
        rw [List.length_map] at hj
        obtain ⟨d, hd, rfl⟩ := map_get h4
        cases h3
        cases z3
        have u9 := u'.data e9
        have hlaw := dl d (List.mem_of_getElem? hd)
        have hpos : 0 < ns.length := dnil (by intro q; rw [q] at hd; cases hd)
        have g9 : Ex G' (gr G1 H' H9) := (ex_gr u7.s).trans (g1.trans (ex_gr u'.s))
        have hS9 := hS5.mono g9
        have hsc : atI ns ((j : Int) % (ns.length : Int)) = some (pick ns ((j : Int) % (ns.length : Int))) := by
          have h1 := Int.emod_nonneg (j : Int) (show (ns.length : Int) ≠ 0 by omega)
          have h2 := Int.emod_lt_of_pos (j : Int) (show 0 < (ns.length : Int) by omega)
          generalize (j : Int) % (ns.length : Int) = q at h1 h2 ⊢
          obtain ⟨n, rfl⟩ := Int.eq_ofNat_of_zero_le h1
          refine atI_nat ?_
          unfold pick
          rw [Int.toNat_natCast, List.getD_eq_getElem?_getD, List.getElem?_eq_getElem (by omega)]
          rfl
        have hpos' : (0 : Int) < (ns.length : Int) := by omega
        refine q_setI (n := pick ns ((j : Int) % (ns.length : Int)) / ((i : Int) + 2) + (j : Int)) u9.s (evd_I0 (evd_I (evd_ixS hS9 rfl (by walk_at "ev") hsc) (by walk_at "ev") (div_ok (by omega) (by omega))) (by walk_at "ev")) fun H10 e10 => ?_
        generalize pick ns ((j : Int) % (ns.length : Int)) / ((i : Int) + 2) + (j : Int) = c
        have u10 := u9.scal e10
        obtain ⟨hb0, hb1⟩ := bought0_ok (turn := i) (c := c) (left := left) hlaw rm0
        obtain ⟨⟨ha1, ha2⟩, ⟨ha3, ha4⟩, ⟨ha5, ha6⟩, ha7, ha8⟩ := id hlaw
        refine q_setI (n := bought0 i c room left d) u10.s (evd_if (b := decide ((i : Int) < 2)) (by walk_at "ev") (fun hb => ?_) (fun hb => ?_)) fun H11 e11 => ?_
        · rw [show bought0 i c room left d = _ from if_pos (of_decide_eq_true hb)]
          walk_at "ev"
        · rw [show bought0 i c room left d = _ from if_neg (of_decide_eq_false hb)]
          walk_at "ev"
        have u11 := u10.scal e11
        generalize bought0 i c room left d = b at hb0 hb1 ⊢
        refine q_setI (n := min d.2.2.2 (c / 5 % (left + b + 1))) u11.s (by walk_at "ev") fun H12 e12 => ?_
        have u12 := u11.scal e12
        have hs0 : 0 ≤ min d.2.2.2 (c / 5 % (left + b + 1)) := by
          have := Int.emod_nonneg (c / 5) (show left + b + 1 ≠ 0 by omega)
          omega
        have hs1 : min d.2.2.2 (c / 5 % (left + b + 1)) ≤ 10 ^ 25 := by omega
        generalize min d.2.2.2 (c / 5 % (left + b + 1)) = sd at hs0 hs1 ⊢
        -- the rest of the turn, whatever is bought and sold
        have rest : ∀ (D : Ends) (hD : D.nx = Px (Pv H8) (j + 1)) (b sd : Int) H13, Ex H12 H13 → 0 ≤ b → b ≤ 10 ^ 26 → 0 ≤ sd → sd ≤ 10 ^ 26 → (tSeq (tDrop (tBM K "list" rAppend (tVar 5) (tCons (tTup (tCons (tVar 10) (tCons (tVar 11) tNil))) tNil)))
            (tAsg (tCB rMax2 (tCons (tC (.int 0)) (tCons (tOp (rI0 fun i j => .int (i - j)) (tOp (rI0 fun i j => .int (i + j)) (tVar 6) (tVar 10)) (tVar 11)) tNil))) (gName 6))) D
            [some (.ref l), some v1, some (.int room), some (.int ns.sum), some (.int i), some (.ref p), some (.int left), some (.int j), some a4, some (.int c), some (.int b), some (.int sd), r12, r13, r14, r15, r16, r17, r18] H13 := fun D hD b sd H13 e13 b0 b1 s0 s1 => by
          have u13 := u12.scal e13
          have p13 : H13 p = some (.lst xs) := e13 _ _ (e12 _ _ (e11 _ _ (e10 _ _ (e9 _ _ hp1))))
          have gp13 : gr G1 H' H9 p = none := by rw [gr_old hp1]; exact gp1
          refine q_app (d := deedD (b, sd)) u13.s rfl p13 (by show EvD _ _ _ (.tuple [.int b, .int sd]); walk_at "ev") (by rw [zx.1, List.length_map, hm]; omega) fun v14 H14 e14 z14 => ?_
          have u14 := u13.data e14
          have gp14 : gr (gr G1 H' H9) H13 H14 p = none := by rw [gr_old p13]; exact gp13
          have u14 := u14.mut (o := .lst (xs ++ [v14])) gp14 h0p
          refine z_setI (n := max 0 (left + b - sd)) u14.s (by walk_at "ev") fun H15 e15 => ?_
          rw [hD]
          refine ⟨gr (gr G1 H' H9) H13 H14, ?_⟩
          rw [hPv]
          refine ⟨m ++ [(b, sd)], _, xs ++ [v14], _, _, _, _, _, rfl, u14.scal e15, ?_, gp14, e15 _ _ upd_same, ?_, by rw [List.length_append, hm]; rfl, ?_, by omega⟩
          · exact (g1.trans (ex_gr u'.s)).trans (ex_gr u13.s)
          · rw [List.map_append]
            exact (zx.mono ((ex_gr u'.s).trans (ex_gr u13.s))).append (.cons z14 .nil)
          · intro x hx
            rcases List.mem_append.mp hx with hx | hx
            · exact hgm x hx
            · rw [List.mem_singleton] at hx
              subst hx
              exact ⟨⟨b0, s0⟩, by show b.natAbs < big; omega, by show sd.natAbs < big; omega⟩
        have hdl : (0 : Int) < (ds.length : Int) := by have := lt_of_get hd; omega
        have zd12 := zd.mono g9
        have hlen : EvD (tCB (rLenS K) (tCons (tVar 1) tNil)) [some (.ref l), some v1, some (.int room), some (.int ns.sum), some (.int i), some (.ref p), some (.int left), some (.int j), some a4, some (.int c), some (.int b), some (.int sd), r12, r13, r14, r15, r16, r17, r18] (gr G1 H' H9) (.int (ds.length : Int)) := EvD.to (evd_len (evd_var rfl zd12)) (by rw [List.length_map])
        refine q_if1 (b := decide ((j : Int) = ns.sum % (ds.length : Int)) && decide ((i : Int) > 0)) u12.s (et_and (evt_test (evd_eq (by walk_at "ev") (evd_I (by walk_at "ev") hlen hdl))) fun _ => evt_test (by walk_at "ev")) (fun hb H13 e13 => ?_) (fun hb H13 e13 => rest _ rfl b sd H13 e13 hb0 (by omega) hs0 (by omega))
        have u13 := u12.scal e13
        refine q_setI (n := sd + ns.sum / 9 % 3) u13.s (by walk_at "ev") fun H14 e14 => ?_
        have hpk := pick_mem (l := [0, 1, d.2.1 + 1]) (i := ns.sum / 27 % 3) (by omega) (by show ns.sum / 27 % 3 < 3; omega)
        have hpk2 : 0 ≤ pick [0, 1, d.2.1 + 1] (ns.sum / 27 % 3) ∧ pick [0, 1, d.2.1 + 1] (ns.sum / 27 % 3) ≤ d.2.1 + 1 := by
          generalize pick [0, 1, d.2.1 + 1] (ns.sum / 27 % 3) = q at hpk
          simp only [List.mem_cons, List.not_mem_nil, or_false] at hpk
          omega
        refine z_setI (n := b + pick [0, 1, d.2.1 + 1] (ns.sum / 27 % 3)) (u13.scal e14).s (evd_I0 (by walk_at "ev") (evd_ixT (i := ns.sum / 27 % 3) (ds := [0, 1, d.2.1 + 1].map PyData.int) (by show EvD _ _ _ (.tuple [.int 0, .int 1, .int (d.2.1 + 1)]); walk_at "ev") (by walk_at "ev") (pick_at (by omega) (by show ns.sum / 27 % 3 < 3; omega)))) fun H15 e15 => ?_
        exact rest _ rfl _ _ H15 ((e13.trans e14).trans e15) (by omega) (by omega) (by omega) (by omega)
      · intro σ' G1 H' hq
        rw [hPv] at hq
        obtain ⟨m, left, xs, r7, r8, r9, r10, r11, rfl, u', g1, gp1, hp1, zx, hm, hgm, hleft⟩ := hq
        have g1' : Ex G' G1 := (ex_gr u7.s).trans g1
        have ua := u'.adopt gp1 h0p hp1
        have zm := adopt_ds gp1 zx
        have zd2 := zd.mono (g1'.trans (Ex.new (o := .lst xs) gp1))
        have g2' : Ex G' (upd G1 p (.lst xs)) := g1'.trans (Ex.new gp1)
        generalize upd G1 p (.lst xs) = G2 at ua zm zd2 g2'
        rw [List.length_map] at hm
        have hg1 : ∀ x ∈ m, goodDeed x := fun x hx => (hgm x hx).1
        have hg2 : ∀ x ∈ m, smallDeed x := fun x hx => (hgm x hx).2
        have hd1 : ∀ x ∈ ds, goodDay x := fun x hx => (dl x hx).good
        have hd2 : ∀ x ∈ ds, smallDay x := fun x hx => (dl x hx).small
        clear zx hgm hleft g1 gp1 hp1
        refine q_set (d := .list [daysD ds, deedsD m]) ua.s (by walk_at "ev") fun v12 H9 e9 z12 => ?_
        have u9 := ua.data e9
        have g9 := ex_gr (H2 := H9) ua.s
        have zd9 := zd2.mono g9
        have zm9 := zm.mono g9
        have g3' := g2'.trans g9
        generalize gr G2 H' H9 = G3a at u9 z12 zd9 zm9 g3'
        refine q_setN u9.s (evn_call (es := (nights 0 m).map PyData.int) (by walk_at "ev") ⟨ds, m, rfl, by omega, hd1, by omega, hg1, rfl⟩) fun q13 xs13 H10 e10 hq13 hx13 z13 => ?_
        have gq : G3a q13 = none := none_of_ex u9.s hq13
        have h0q : H q13 = none := none_of_ex u9.h hq13
        have z13 := z13.ofInts
        subst z13
        have u10 := u9.scal e10
        refine q_setI (n := 0) u10.s (by walk_at "ev") fun H11 e11 => ?_
        have u11 := u10.scal e11
        refine q_setN u11.s (evn_lst eva_nil) fun p15 xs15 H12 e12 hp15 hx15 z15 => ?_
        cases z15.unnil
        have gp15 : G3a p15 = none := none_of_ex u11.s hp15
        have h0p15 : H p15 = none := none_of_ex u11.h hp15
        have ne15 : q13 ≠ p15 := ne_of_none (e11 _ _ hx13) hp15
        have u12 := u11.scal e12
        have q12 := e12 _ _ (e11 _ _ hx13)
        refine q_for u12.s (src_listT (js := [10, 11]) (m := 2) (ds := m.map deedD) (by walk_at "ev") rfl (deed_tuples m)) fun H13 e13 =>
          ⟨fun j σ' G4 H' => ∃ r10 r11, σ' = [some (.ref l), some v1, some (.int room), some (.int ns.sum), some (.int i), some (.ref p), some (.int left), r7, r8, r9, r10, r11, some v12, some (.ref q13), some (.int (leftOf 0 (m.take j))), some (.ref p15), r16, r17, r18] ∧ Up H H G4 H' ∧ Ex (gr G3a H12 H13) G4 ∧ G4 q13 = none ∧ G4 p15 = none ∧ H' q13 = some (.lst ((nights 0 m).map V.int)) ∧ H' p15 = some (.lst ((nights 0 (m.take j)).map V.int)), ?_, ?_, ?_, ?_⟩
        · exact ⟨r10, r11, rfl, u12.data e13, Ex.refl _, by rw [gr_old q12]; exact gq, by rw [gr_old hx15]; exact gp15, e13 _ _ q12, e13 _ _ hx15⟩
        · rintro j σ' G4 H' ⟨_, _, _, u', g', _⟩
          exact ⟨g', u'.s⟩
        · rintro j σ' G4 H' H14 σ4 hj ⟨r10, r11, rfl, u', g', gq', gp', hq', hp'⟩ e14 hS
          obtain ⟨d, hd, rfl⟩ := stp_deed hS
          have u14 := u'.scal e14
          have ls : leftOf 0 (m.take (j + 1)) = leftOf 0 (m.take j) + d.1 - d.2 := by rw [take_succ_of hd, leftOf_append]; rfl
          refine q_setI (n := leftOf 0 (m.take j) + d.1 - d.2) u14.s (by walk_at "ev") fun H15 e15 => ?_
          have u15 := u14.scal e15
          refine z_app (xs := (nights 0 (m.take j)).map V.int) u15.s rfl (e15 _ _ (e14 _ _ hp')) (d := .int (leftOf 0 (m.take j) + d.1 - d.2)) (by walk_at "ev") (by rw [List.length_map, nights_length, List.length_take]; omega) fun v16 H16 e16 z16 => ?_
          cases z16
          refine ⟨G4, some (.int d.1), some (.int d.2), ?_, (u15.scal e16).mut gp' h0p15, g', gq', gp', ?_, ?_⟩
          · rw [ls]; rfl
          · rw [upd_ne ne15]; exact e16 _ _ (e15 _ _ (e14 _ _ hq'))
          · rw [upd_same, take_succ_of hd, nights_append, List.map_append]
            rfl
        · rintro σ' G4 H' ⟨r10, r11, rfl, u', g', gq', gp', hq', hp'⟩
          rw [List.length_map, List.take_length] at hp'
          have ub := u'.adopt gp' h0p15 hp'
          have z15 := adopt_ds (ds := (nights 0 m).map PyData.int) gp' (DsA.ints (nights 0 m))
          have gb : Ex G3a (upd G4 p15 (.lst ((nights 0 m).map V.int))) := ((ex_gr u12.s).trans g').trans (Ex.new gp')
          have gq4 : (upd G4 p15 (.lst ((nights 0 m).map V.int))) q13 = none := by rw [upd_ne ne15]; exact gq'
          generalize upd G4 p15 (.lst ((nights 0 m).map V.int)) = G5 at ub z15 gb gq4
          have uc := ub.adopt gq4 h0q hq'
          have z13 := adopt_ds (ds := (nights 0 m).map PyData.int) gq4 (DsA.ints (nights 0 m))
          have z15c := z15.mono (Ex.new (o := .lst ((nights 0 m).map V.int)) gq4)
          have gc := gb.trans (Ex.new (o := .lst ((nights 0 m).map V.int)) gq4)
          have z12c := z12.mono gc
          have zdc := zd9.mono gc
          have zmc := zm9.mono gc
          have si := shaped_of 1 (plain_ints (nights 0 m))
          have sb := shaped_of 3 (plain_both ds m)
          have ei := eqv_self 1 (plain_ints (nights 0 m))
          have eb := eqv_self 3 (plain_both ds m)
          refine q_if1 (b := false) uc.s (et_is (et_or (a := false) (b := false) (et_not (a := true) (evt_B (evd_call (by walk_at "ev") ⟨nights 0 m, rfl, by rw [nights_length]; omega, rfl⟩))) fun _ => et_is (et_or (a := false) (b := false) (evt_test (EvD.to (evd_neD (by walk_at "ev") (by walk_at "ev") si si) (by rw [ei]; rfl))) fun _ => evt_test (EvD.to (evd_neD (d := .list [daysD ds, deedsD m]) (e := .list [daysD ds, deedsD m]) (by walk_at "ev") (by walk_at "ev") sb sb) (by rw [eb]; rfl))) rfl) rfl) (fun h => nomatch h) fun _ H17 e17 => ?_
          have u17 := ub.scal e17
          refine q_app (xs := (nights 0 m).map V.int) (d := .int 0) u17.s rfl (e17 _ _ hq') (by walk_at "ev") (by rw [List.length_map, nights_length]; omega) fun v18 H18 e18 z18 => ?_
          have u18 := (u17.scal e18).mut (o := .lst ((nights 0 m).map V.int ++ [v18])) gq4 h0q
          have z12d := z12.mono gb
          have zdd := zd9.mono gb
          have zmd := zm9.mono gb
          refine q_setI (n := gainOf ds m) u18.s (evd_call (by walk_at "ev") ⟨ds, m, rfl, by omega, hd1, hd2, by omega, hg1, hg2, rfl⟩) fun H19 e19 => ?_
          have u19 := u18.scal e19
          refine q_setI (n := gainOf ds m) u19.s (evd_sum (map_int_of ?_ (evn_lcZ (l := ds) (m := m) (fun x y => .int (gainD x y)) (by walk_at "ev") (by walk_at "ev") (by omega) (fun _ _ => rfl) fun Gx v w x y g hx hy zx zy => ?_))) fun H20 e20 => ?_
          · rw [List.map_zipWith]
          · obtain ⟨b1, b2, b3, b4⟩ := hd2 x hx
            obtain ⟨c1, c2⟩ := hg2 y hy
            show EvD _ _ _ (.int (y.2 * x.2.2.1 - y.1 * x.1))
            walk_at "ev"
          have u20 := u19.scal e20
          refine q_if1 (b := false) u20.s (et_is (et_or (a := false) (b := false) (evt_B (by walk_at "ev")) fun _ => et_is (et_or (a := false) (b := false) (et_not (a := true) (evt_B (by walk_at "ev"))) fun _ => evt_test (EvD.to (evd_ne (by walk_at "ev") (by walk_at "ev")) (by rw [decide_eq_true rfl]; rfl))) rfl) rfl) (fun h => nomatch h) fun _ H21 e21 => ?_
          have u21 := u20.scal e21
          refine q_setI (n := faultOf ds room m) u21.s (evd_call (by walk_at "ev") ⟨ds, room, m, rfl, by omega, hd1, rm0, by omega, hg1, rfl⟩) fun H22 e22 => ?_
          have u22 := u21.scal e22
          refine z_if1 (b := false) u22.s (et_is (et_or (a := false) (b := false) (evt_B (by walk_at "ev")) fun _ => et_is (et_or (a := false) (b := false) (evt_test (EvD.to (evd_ne (by walk_at "ev") (evd_call (by walk_at "ev") ⟨ds, room, m, rfl, by omega, by omega, rfl⟩)) (by rw [decide_eq_true rfl]; rfl))) fun _ => evt_test (EvD.to (evd_neD (d := .list [daysD ds, deedsD m]) (e := .list [daysD ds, deedsD m]) (by walk_at "ev") (by walk_at "ev") sb sb) (by rw [eb]; rfl))) rfl) rfl) (fun h => nomatch h) fun _ H23 e23 => ?_
          exact ⟨G5, _, _, _, _, _, _, _, _, _, _, _, _, _, _, _, rfl, u22.scal e23, g'0.trans (g3'.trans gb)⟩
    · rintro σ' G' H' ⟨r4, r5, r6, r7, r8, r9, r10, r11, r12, r13, r14, r15, r16, r17, r18, rfl, u', g'⟩
      have sn := shaped_of 1 (plain_ints [])
      have h1 : goodDay (4, 2, 9, 1) := by refine ⟨?_, ?_, ?_, ?_⟩ <;> decide
      have h2 : smallDay (4, 2, 9, 1) := ⟨by show (4 : Int).natAbs < big; omega, by show (2 : Int).natAbs < big; omega, by show (9 : Int).natAbs < big; omega, by show (1 : Int).natAbs < big; omega⟩
      have h3 : goodDeed (2, 1) := by refine ⟨?_, ?_⟩ <;> decide
      have h4 : smallDeed (2, 1) := ⟨by show (2 : Int).natAbs < big; omega, by show (1 : Int).natAbs < big; omega⟩
      refine z_ret (d := .bool true) u'.s (EvD.to (evd_and (a := true) (b := true) (EvD.to (evd_eqD (d := .list []) (e := .list []) (evn_call (by walk_at "ev") ⟨[], [], rfl, by simp, by simp, rfl, by simp, rfl⟩).asD (by walk_at "ev") sn sn) (by rfl)) fun _ => EvD.to (evd_and (a := true) (b := true) (EvD.to (evd_eq (i := -1) (j := -1) (evd_call (by walk_at "ev") ⟨[], 0, [], rfl, by simp, by simp, by decide, rfl, by simp, rfl⟩) (by walk_at "ev")) (by rfl)) fun _ => EvD.to (evd_eq (i := 1) (j := 1) (evd_call (by walk_at "ev") ⟨[(4, 2, 9, 1)], [(2, 1)], rfl, by simp, by simpa using h1, by simpa using h2, rfl, by simpa using h3, by simpa using h4, rfl⟩) (by walk_at "ev")) (by rfl)) (by rfl)) (by rfl)) fun v H2 e z => ?_
      cases z
      exact k H2
end
end Gt

namespace Gt
open PySem PySem.Spec PyProof.Rows L2 Evl Gs
theorem all_mk {l : PySem.W.OpenLaw} {w : World} {K : PySem.W.Frag} {h : Heap} {mg : Str → Option Value} {fa f1 f2 f3 f4 f5 f6 f7 f8 f9 f10 f11 f12 f13 f14 f15 f16  : Addr} (X : K.In h) (G : h.Ns mainGlobals mg) (hfa : mg "law" = some (.ref fa))
    {od1 an1 od2 an2 od3 an3 od4 an4 od5 an5 od6 an6 od7 an7 od8 an8 od9 an9 od10 an10 od11 an11 od12 an12 od13 an13 od14 an14 od15 an15 od16 an16 : Option Addr} {sl1 sl2 sl3 sl4 sl5 sl6 sl7 sl8 sl9 sl10 sl11 sl12 sl13 sl14 sl15 sl16 : Array (Option Value)} {oc1 kV1 dc1 pm1 cd1 ct1 oc2 kV2 dc2 pm2 cd2 ct2 oc3 kV3 dc3 pm3 cd3 ct3 oc4 kV4 dc4 pm4 cd4 ct4 oc5 kV5 dc5 pm5 cd5 ct5 oc6 kV6 dc6 pm6 cd6 ct6 oc7 kV7 dc7 pm7 cd7 ct7 oc8 kV8 dc8 pm8 cd8 ct8 oc9 kV9 dc9 pm9 cd9 ct9 oc10 kV10 dc10 pm10 cd10 ct10 oc11 kV11 dc11 pm11 cd11 ct11 oc12 kV12 dc12 pm12 cd12 ct12 oc13 kV13 dc13 pm13 cd13 ct13 oc14 kV14 dc14 pm14 cd14 ct14 oc15 kV15 dc15 pm15 cd15 ct15 oc16 kV16 dc16 pm16 cd16 ct16 : Value}
    (a1 : PySem.W.nsIn K mainGlobals "_law_can" = some (some (.ref f1)))
    (l1 : K.lookup f1 = some ⟨oc1, od1, .func (PySem.W.fnOf "_law_can" "_law_can" (defArgs st__law_can) (defBody st__law_can) (defScope st__law_can) .none kV1 dc1 pm1 an1 cd1 ct1), sl1⟩)
    (c1 : PySem.W.codeIn K cd1 "_law_can" = true)
    (k1 : PySem.W.keepIn K (.ref f1) = true)
    (a2 : PySem.W.nsIn K mainGlobals "_law_days" = some (some (.ref f2)))
    (l2 : K.lookup f2 = some ⟨oc2, od2, .func (PySem.W.fnOf "_law_days" "_law_days" (defArgs st__law_days) (defBody st__law_days) (defScope st__law_days) .none kV2 dc2 pm2 an2 cd2 ct2), sl2⟩)
    (c2 : PySem.W.codeIn K cd2 "_law_days" = true)
    (k2 : PySem.W.keepIn K (.ref f2) = true)
    (a3 : PySem.W.nsIn K mainGlobals "_law_numbers" = some (some (.ref f3)))
    (l3 : K.lookup f3 = some ⟨oc3, od3, .func (PySem.W.fnOf "_law_numbers" "_law_numbers" (defArgs st__law_numbers) (defBody st__law_numbers) (defScope st__law_numbers) .none kV3 dc3 pm3 an3 cd3 ct3), sl3⟩)
    (c3 : PySem.W.codeIn K cd3 "_law_numbers" = true)
    (k3 : PySem.W.keepIn K (.ref f3) = true)
    (a4 : PySem.W.nsIn K mainGlobals "_law_room" = some (some (.ref f4)))
    (l4 : K.lookup f4 = some ⟨oc4, od4, .func (PySem.W.fnOf "_law_room" "_law_room" (defArgs st__law_room) (defBody st__law_room) (defScope st__law_room) .none kV4 dc4 pm4 an4 cd4 ct4), sl4⟩)
    (c4 : PySem.W.codeIn K cd4 "_law_room" = true)
    (k4 : PySem.W.keepIn K (.ref f4) = true)
    (a5 : PySem.W.nsIn K mainGlobals "is_number" = some (some (.ref f5)))
    (l5 : K.lookup f5 = some ⟨oc5, od5, .func (PySem.W.fnOf "is_number" "is_number" (defArgs st_is_number) (defBody st_is_number) (defScope st_is_number) .none kV5 dc5 pm5 an5 cd5 ct5), sl5⟩)
    (c5 : PySem.W.codeIn K cd5 "is_number" = true)
    (k5 : PySem.W.keepIn K (.ref f5) = true)
    (a6 : PySem.W.nsIn K mainGlobals "are_numbers" = some (some (.ref f6)))
    (l6 : K.lookup f6 = some ⟨oc6, od6, .func (PySem.W.fnOf "are_numbers" "are_numbers" (defArgs st_are_numbers) (defBody st_are_numbers) (defScope st_are_numbers) .none kV6 dc6 pm6 an6 cd6 ct6), sl6⟩)
    (c6 : PySem.W.codeIn K cd6 "are_numbers" = true)
    (k6 : PySem.W.keepIn K (.ref f6) = true)
    (a7 : PySem.W.nsIn K mainGlobals "asked_days" = some (some (.ref f7)))
    (l7 : K.lookup f7 = some ⟨oc7, od7, .func (PySem.W.fnOf "asked_days" "asked_days" (defArgs st_asked_days) (defBody st_asked_days) (defScope st_asked_days) .none kV7 dc7 pm7 an7 cd7 ct7), sl7⟩)
    (c7 : PySem.W.codeIn K cd7 "asked_days" = true)
    (k7 : PySem.W.keepIn K (.ref f7) = true)
    (a8 : PySem.W.nsIn K mainGlobals "asked_dealing" = some (some (.ref f8)))
    (l8 : K.lookup f8 = some ⟨oc8, od8, .func (PySem.W.fnOf "asked_dealing" "asked_dealing" (defArgs st_asked_dealing) (defBody st_asked_dealing) (defScope st_asked_dealing) .none kV8 dc8 pm8 an8 cd8 ct8), sl8⟩)
    (c8 : PySem.W.codeIn K cd8 "asked_dealing" = true)
    (k8 : PySem.W.keepIn K (.ref f8) = true)
    (a9 : PySem.W.nsIn K mainGlobals "asked_room" = some (some (.ref f9)))
    (l9 : K.lookup f9 = some ⟨oc9, od9, .func (PySem.W.fnOf "asked_room" "asked_room" (defArgs st_asked_room) (defBody st_asked_room) (defScope st_asked_room) .none kV9 dc9 pm9 an9 cd9 ct9), sl9⟩)
    (c9 : PySem.W.codeIn K cd9 "asked_room" = true)
    (k9 : PySem.W.keepIn K (.ref f9) = true)
    (a10 : PySem.W.nsIn K mainGlobals "nights" = some (some (.ref f10)))
    (l10 : K.lookup f10 = some ⟨oc10, od10, .func (PySem.W.fnOf "nights" "nights" (defArgs st_nights) (defBody st_nights) (defScope st_nights) .none kV10 dc10 pm10 an10 cd10 ct10), sl10⟩)
    (c10 : PySem.W.codeIn K cd10 "nights" = true)
    (k10 : PySem.W.keepIn K (.ref f10) = true)
    (a11 : PySem.W.nsIn K mainGlobals "first_fault" = some (some (.ref f11)))
    (l11 : K.lookup f11 = some ⟨oc11, od11, .func (PySem.W.fnOf "first_fault" "first_fault" (defArgs st_first_fault) (defBody st_first_fault) (defScope st_first_fault) .none kV11 dc11 pm11 an11 cd11 ct11), sl11⟩)
    (c11 : PySem.W.codeIn K cd11 "first_fault" = true)
    (k11 : PySem.W.keepIn K (.ref f11) = true)
    (a12 : PySem.W.nsIn K mainGlobals "barred" = some (some (.ref f12)))
    (l12 : K.lookup f12 = some ⟨oc12, od12, .func (PySem.W.fnOf "barred" "barred" (defArgs st_barred) (defBody st_barred) (defScope st_barred) .none kV12 dc12 pm12 an12 cd12 ct12), sl12⟩)
    (c12 : PySem.W.codeIn K cd12 "barred" = true)
    (k12 : PySem.W.keepIn K (.ref f12) = true)
    (a13 : PySem.W.nsIn K mainGlobals "gain_of" = some (some (.ref f13)))
    (l13 : K.lookup f13 = some ⟨oc13, od13, .func (PySem.W.fnOf "gain_of" "gain_of" (defArgs st_gain_of) (defBody st_gain_of) (defScope st_gain_of) .none kV13 dc13 pm13 an13 cd13 ct13), sl13⟩)
    (c13 : PySem.W.codeIn K cd13 "gain_of" = true)
    (k13 : PySem.W.keepIn K (.ref f13) = true)
    (a14 : PySem.W.nsIn K mainGlobals "gained" = some (some (.ref f14)))
    (l14 : K.lookup f14 = some ⟨oc14, od14, .func (PySem.W.fnOf "gained" "gained" (defArgs st_gained) (defBody st_gained) (defScope st_gained) .none kV14 dc14 pm14 an14 cd14 ct14), sl14⟩)
    (c14 : PySem.W.codeIn K cd14 "gained" = true)
    (k14 : PySem.W.keepIn K (.ref f14) = true)
    (a15 : PySem.W.nsIn K mainGlobals "stored" = some (some (.ref f15)))
    (l15 : K.lookup f15 = some ⟨oc15, od15, .func (PySem.W.fnOf "stored" "stored" (defArgs st_stored) (defBody st_stored) (defScope st_stored) .none kV15 dc15 pm15 an15 cd15 ct15), sl15⟩)
    (c15 : PySem.W.codeIn K cd15 "stored" = true)
    (k15 : PySem.W.keepIn K (.ref f15) = true)
    (a16 : PySem.W.nsIn K mainGlobals "law" = some (some (.ref f16)))
    (l16 : K.lookup f16 = some ⟨oc16, od16, .func (PySem.W.fnOf "law" "law" (defArgs st_law) (defBody st_law) (defScope st_law) .none kV16 dc16 pm16 an16 cd16 ct16), sl16⟩)
    (c16 : PySem.W.codeIn K cd16 "law" = true)
    (k16 : PySem.W.keepIn K (.ref f16) = true)
    (z_len : PySem.W.nsIn K mainGlobals "len" = some none)
    (z_sum : PySem.W.nsIn K mainGlobals "sum" = some none)
    (z_max : PySem.W.nsIn K mainGlobals "max" = some none)
    (z_min : PySem.W.nsIn K mainGlobals "min" = some none)
    (z_all : PySem.W.nsIn K mainGlobals "all" = some none)
    (z_any : PySem.W.nsIn K mainGlobals "any" = some none)
    (z_list : PySem.W.nsIn K mainGlobals "list" = some none)
    (z_range : PySem.W.nsIn K mainGlobals "range" = some none)
    (z_enumerate : PySem.W.nsIn K mainGlobals "enumerate" = some none)
    (z_zip : PySem.W.nsIn K mainGlobals "zip" = some none)
    (z_reversed : PySem.W.nsIn K mainGlobals "reversed" = some none)
    (z_isinstance : PySem.W.nsIn K mainGlobals "isinstance" = some none)
    (z_int : PySem.W.nsIn K mainGlobals "int" = some none)
    (z_bool : PySem.W.nsIn K mainGlobals "bool" = some none)
    (z_tuple : PySem.W.nsIn K mainGlobals "tuple" = some none)
    (z_sorted : PySem.W.nsIn K mainGlobals "sorted" = some none) :
    ∃ fd : FuncData, (∀ (s : Shared) (v : Value), BindsTo s fd ⟨[v], []⟩ [("_law_script", v)]) ∧ ∀ base : Heap, K.In base → base.Ns mainGlobals mg → FnOk l.prog w K mg base CX0 5 fa fd ["_law_script"] (sp_law K) := by
  have e := hfa.symm.trans (PySem.W.mg_of X G a16)
  cases e
  have B : Blt mg := ⟨PySem.W.mg_none_of X G z_len, PySem.W.mg_none_of X G z_sum, PySem.W.mg_none_of X G z_max, PySem.W.mg_none_of X G z_min, PySem.W.mg_none_of X G z_all, PySem.W.mg_none_of X G z_any, PySem.W.mg_none_of X G z_list, PySem.W.mg_none_of X G z_range, PySem.W.mg_none_of X G z_enumerate, PySem.W.mg_none_of X G z_zip, PySem.W.mg_none_of X G z_reversed, PySem.W.mg_none_of X G z_isinstance, PySem.W.mg_none_of X G z_int, PySem.W.mg_none_of X G z_bool, PySem.W.mg_none_of X G z_tuple, PySem.W.mg_none_of X G z_sorted⟩
  have F1 := fun_mk (st := st__law_can) l1 c1 k1
  have H1 : FunH K mg "_law_can" "_law_can" st__law_can ps__law_can := ⟨f1, _, F1, PySem.W.mg_of X G a1, F1.binds (ps := ps__law_can) fun _ _ _ _ _ _ us hl => match us, hl with | [_, _, _], _ => rfl⟩
  have F2 := fun_mk (st := st__law_days) l2 c2 k2
  have H2 : FunH K mg "_law_days" "_law_days" st__law_days ps__law_days := ⟨f2, _, F2, PySem.W.mg_of X G a2, F2.binds (ps := ps__law_days) fun _ _ _ _ _ _ us hl => match us, hl with | [_], _ => rfl⟩
  have F3 := fun_mk (st := st__law_numbers) l3 c3 k3
  have H3 : FunH K mg "_law_numbers" "_law_numbers" st__law_numbers ps__law_numbers := ⟨f3, _, F3, PySem.W.mg_of X G a3, F3.binds (ps := ps__law_numbers) fun _ _ _ _ _ _ us hl => match us, hl with | [_], _ => rfl⟩
  have F4 := fun_mk (st := st__law_room) l4 c4 k4
  have H4 : FunH K mg "_law_room" "_law_room" st__law_room ps__law_room := ⟨f4, _, F4, PySem.W.mg_of X G a4, F4.binds (ps := ps__law_room) fun _ _ _ _ _ _ us hl => match us, hl with | [_], _ => rfl⟩
  have F5 := fun_mk (st := st_is_number) l5 c5 k5
  have H5 : FunH K mg "is_number" "is_number" st_is_number ps_is_number := ⟨f5, _, F5, PySem.W.mg_of X G a5, F5.binds (ps := ps_is_number) fun _ _ _ _ _ _ us hl => match us, hl with | [_], _ => rfl⟩
  have F6 := fun_mk (st := st_are_numbers) l6 c6 k6
  have H6 : FunH K mg "are_numbers" "are_numbers" st_are_numbers ps_are_numbers := ⟨f6, _, F6, PySem.W.mg_of X G a6, F6.binds (ps := ps_are_numbers) fun _ _ _ _ _ _ us hl => match us, hl with | [_, _], _ => rfl⟩
  have F7 := fun_mk (st := st_asked_days) l7 c7 k7
  have H7 : FunH K mg "asked_days" "asked_days" st_asked_days ps_asked_days := ⟨f7, _, F7, PySem.W.mg_of X G a7, F7.binds (ps := ps_asked_days) fun _ _ _ _ _ _ us hl => match us, hl with | [_], _ => rfl⟩
  have F8 := fun_mk (st := st_asked_dealing) l8 c8 k8
  have H8 : FunH K mg "asked_dealing" "asked_dealing" st_asked_dealing ps_asked_dealing := ⟨f8, _, F8, PySem.W.mg_of X G a8, F8.binds (ps := ps_asked_dealing) fun _ _ _ _ _ _ us hl => match us, hl with | [_, _], _ => rfl⟩
  have F9 := fun_mk (st := st_asked_room) l9 c9 k9
  have H9 : FunH K mg "asked_room" "asked_room" st_asked_room ps_asked_room := ⟨f9, _, F9, PySem.W.mg_of X G a9, F9.binds (ps := ps_asked_room) fun _ _ _ _ _ _ us hl => match us, hl with | [_], _ => rfl⟩
  have F10 := fun_mk (st := st_nights) l10 c10 k10
  have H10 : FunH K mg "nights" "nights" st_nights ps_nights := ⟨f10, _, F10, PySem.W.mg_of X G a10, F10.binds (ps := ps_nights) fun _ _ _ _ _ _ us hl => match us, hl with | [_], _ => rfl⟩
  have F11 := fun_mk (st := st_first_fault) l11 c11 k11
  have H11 : FunH K mg "first_fault" "first_fault" st_first_fault ps_first_fault := ⟨f11, _, F11, PySem.W.mg_of X G a11, F11.binds (ps := ps_first_fault) fun _ _ _ _ _ _ us hl => match us, hl with | [_, _, _], _ => rfl⟩
  have F12 := fun_mk (st := st_barred) l12 c12 k12
  have H12 : FunH K mg "barred" "barred" st_barred ps_barred := ⟨f12, _, F12, PySem.W.mg_of X G a12, F12.binds (ps := ps_barred) fun _ _ _ _ _ _ us hl => match us, hl with | [_, _, _], _ => rfl⟩
  have F13 := fun_mk (st := st_gain_of) l13 c13 k13
  have H13 : FunH K mg "gain_of" "gain_of" st_gain_of ps_gain_of := ⟨f13, _, F13, PySem.W.mg_of X G a13, F13.binds (ps := ps_gain_of) fun _ _ _ _ _ _ us hl => match us, hl with | [_, _], _ => rfl⟩
  have F14 := fun_mk (st := st_gained) l14 c14 k14
  have H14 : FunH K mg "gained" "gained" st_gained ps_gained := ⟨f14, _, F14, PySem.W.mg_of X G a14, F14.binds (ps := ps_gained) fun _ _ _ _ _ _ us hl => match us, hl with | [_, _], _ => rfl⟩
  have F15 := fun_mk (st := st_stored) l15 c15 k15
  have H15 : FunH K mg "stored" "stored" st_stored ps_stored := ⟨f15, _, F15, PySem.W.mg_of X G a15, F15.binds (ps := ps_stored) fun _ _ _ _ _ _ us hl => match us, hl with | [_, _], _ => rfl⟩
  have F16 := fun_mk (st := st_law) l16 c16 k16
  refine ⟨PySem.W.fnOf "law" "law" (defArgs st_law) (defBody st_law) (defScope st_law) .none kV16 dc16 pm16 an16 cd16 ct16, fun s v => .of_eq rfl, fun base _ _ => ?_⟩
  have h__law_can := ok__law_can (P := l.prog) (w := w) (base := base) H1 B 
  have h__law_days := ok__law_days (P := l.prog) (w := w) (base := base) H2 B 
  have h__law_numbers := ok__law_numbers (P := l.prog) (w := w) (base := base) H3 B 
  have h__law_room := ok__law_room (P := l.prog) (w := w) (base := base) H4 B 
  have h_is_number := ok_is_number (P := l.prog) (w := w) (base := base) H5 B 
  have h_are_numbers := ok_are_numbers (P := l.prog) (w := w) (base := base) H6 B h_is_number
  have h_asked_days := ok_asked_days (P := l.prog) (w := w) (base := base) H7 B h_are_numbers
  have h_asked_dealing := ok_asked_dealing (P := l.prog) (w := w) (base := base) H8 B h_are_numbers
  have h_asked_room := ok_asked_room (P := l.prog) (w := w) (base := base) H9 B h_is_number
  have h_nights := ok_nights (P := l.prog) (w := w) (base := base) H10 B 
  have h_first_fault := ok_first_fault (P := l.prog) (w := w) (base := base) H11 B h_nights
  have h_barred := ok_barred (P := l.prog) (w := w) (base := base) H12 B h_asked_days h_asked_dealing h_asked_room h_first_fault
  have h_gain_of := ok_gain_of (P := l.prog) (w := w) (base := base) H13 B 
  have h_gained := ok_gained (P := l.prog) (w := w) (base := base) H14 B h_asked_days h_asked_dealing h_gain_of
  have h_stored := ok_stored (P := l.prog) (w := w) (base := base) H15 B h_asked_days h_asked_dealing h_nights
  exact ok_law (P := l.prog) (w := w) (base := base) F16 B h__law_can h__law_days h__law_numbers h__law_room h_barred h_gained h_stored
end Gt
open PySem PySem.W PyProof.Rows in
set_option maxRecDepth 100000 in
set_option maxHeartbeats 0 in
theorem PySem.Challenge.cw_grainstore_k01_whole_dealings_holds : PySem.Challenge.rw_grainstore_k01_whole_dealings.Holds := by
  w_on; o_law; k_head; (case hw => w_witness2)
  k_fill
  refine L2.walk_of (l := PySem.Challenge.rw_grainstore_k01_whole_dealings) (n := 63) (k := 5) (x := "_law_script") (CX := fun _ => L2.CX0) (sp := fun w => Gt.sp_law _) rfl (by decide) rfl ⟨rfl, by decide, by decide⟩ (fun w h Y => PySem.W.kIn_of Y) ?F (fun _ H a ns hl _ hS => Gt.law_start hS hl) (fun _ _ _ _ _ h => h)
  case F =>
    intro w mg fa h KX G hmg
    refine' Gt.all_mk KX G hmg ?a1 ?l1 ?c1 ?k1 ?a2 ?l2 ?c2 ?k2 ?a3 ?l3 ?c3 ?k3 ?a4 ?l4 ?c4 ?k4 ?a5 ?l5 ?c5 ?k5 ?a6 ?l6 ?c6 ?k6 ?a7 ?l7 ?c7 ?k7 ?a8 ?l8 ?c8 ?k8 ?a9 ?l9 ?c9 ?k9 ?a10 ?l10 ?c10 ?k10 ?a11 ?l11 ?c11 ?k11 ?a12 ?l12 ?c12 ?k12 ?a13 ?l13 ?c13 ?k13 ?a14 ?l14 ?c14 ?k14 ?a15 ?l15 ?c15 ?k15 ?a16 ?l16 ?c16 ?k16 ?z_len ?z_sum ?z_max ?z_min ?z_all ?z_any ?z_list ?z_range ?z_enumerate ?z_zip ?z_reversed ?z_isinstance ?z_int ?z_bool ?z_tuple ?z_sorted
    (case a1 => k_is)
    (case l1 => k_is)
    (case c1 => k_is)
    (case k1 => k_is)
    (case a2 => k_is)
    (case l2 => k_is)
    (case c2 => k_is)
    (case k2 => k_is)
    (case a3 => k_is)
    (case l3 => k_is)
    (case c3 => k_is)
    (case k3 => k_is)
    (case a4 => k_is)
    (case l4 => k_is)
    (case c4 => k_is)
    (case k4 => k_is)
    (case a5 => k_is)
    (case l5 => k_is)
    (case c5 => k_is)
    (case k5 => k_is)
    (case a6 => k_is)
    (case l6 => k_is)
    (case c6 => k_is)
    (case k6 => k_is)
    (case a7 => k_is)
    (case l7 => k_is)
    (case c7 => k_is)
    (case k7 => k_is)
    (case a8 => k_is)
    (case l8 => k_is)
    (case c8 => k_is)
    (case k8 => k_is)
    (case a9 => k_is)
    (case l9 => k_is)
    (case c9 => k_is)
    (case k9 => k_is)
    (case a10 => k_is)
    (case l10 => k_is)
    (case c10 => k_is)
    (case k10 => k_is)
    (case a11 => k_is)
    (case l11 => k_is)
    (case c11 => k_is)
    (case k11 => k_is)
    (case a12 => k_is)
    (case l12 => k_is)
    (case c12 => k_is)
    (case k12 => k_is)
    (case a13 => k_is)
    (case l13 => k_is)
    (case c13 => k_is)
    (case k13 => k_is)
    (case a14 => k_is)
    (case l14 => k_is)
    (case c14 => k_is)
    (case k14 => k_is)
    (case a15 => k_is)
    (case l15 => k_is)
    (case c15 => k_is)
    (case k15 => k_is)
    (case a16 => k_is)
    (case l16 => k_is)
    (case c16 => k_is)
    (case k16 => k_is)
    (case z_len => k_is)
    (case z_sum => k_is)
    (case z_max => k_is)
    (case z_min => k_is)
    (case z_all => k_is)
    (case z_any => k_is)
    (case z_list => k_is)
    (case z_range => k_is)
    (case z_enumerate => k_is)
    (case z_zip => k_is)
    (case z_reversed => k_is)
    (case z_isinstance => k_is)
    (case z_int => k_is)
    (case z_bool => k_is)
    (case z_tuple => k_is)
    (case z_sorted => k_is)
