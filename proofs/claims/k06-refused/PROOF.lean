import PyProof.Rows.All
import Wide.All
import OpenK.AllK
import Wide.FinOn
import HandS.ForMost
import HandS.ForExc
import HandS.Wide
import HandS.IsInst
import HandS.Walk
import HandS.Style
import HandS.Flow
import HandS.SortInts
import HandS.Zip
import HandS.Evl
import HandS.Flt
import HandS.WordsExc
import HandS.ExcIs
import PySem.Challenge.RW_grainstore_k06_refused
set_option Elab.async false
set_option linter.all false
set_option maxRecDepth 100000
set_option maxHeartbeats 8000000
/-! Data held by the heap, and what expressions come to: EvD (some data), EvN (a new list). -/
namespace Gs
open PySem L2 Evl

/-! ### heaps -/
/-- G and what is new in H2 behind H1 -/
def gr (G H1 H2 : Hp) : Hp := fun a => match H1 a with
  | none => H2 a
  | some _ => G a
/-- G without a -/
def but (G : Hp) (p : Addr) : Hp := fun a => if a = p then none else G a
theorem gr_new {G H1 H2 : Hp} {a : Addr} (h : H1 a = none) : gr G H1 H2 a = H2 a := by unfold gr; rw [h]
theorem gr_old {G H1 H2 : Hp} {a : Addr} {o : HO} (h : H1 a = some o) : gr G H1 H2 a = G a := by unfold gr; rw [h]
theorem ex_gr {G H1 H2 : Hp} (g : Ex G H1) : Ex G (gr G H1 H2) := fun a o e => by
  rw [gr_old (g a o e)]; exact e
theorem gr_ex {G H1 H2 : Hp} (g : Ex G H1) (h : Ex H1 H2) : Ex (gr G H1 H2) H2 := fun a o e => by
  cases q : H1 a with
  | none => rw [gr_new q] at e; exact e
  | some u => rw [gr_old q] at e; exact h a o (g a o e)
theorem gr_gr {G H1 H2 H3 : Hp} (h12 : Ex H1 H2) (h23 : Ex H2 H3) : gr (gr G H1 H2) H2 H3 = gr G H1 H3 := by
  funext a
  cases q : H1 a with
  | none =>
    rw [gr_new q]
    cases r : H2 a with
    | none => rw [gr_new r]
    | some o => rw [gr_old r, gr_new q, r]; exact (h23 a o r).symm
  | some o => rw [gr_old q, gr_old (h12 a o q), gr_old q]
theorem gr_self {G H : Hp} (g : Ex G H) : gr G H H = G := by
  funext a
  cases q : H a with
  | none =>
    rw [gr_new q, q]
    cases r : G a with
    | none => rfl
    | some o => rw [g a o r] at q; cases q
  | some o => rw [gr_old q]
/-- a wider G, the same new things -/
theorem gr_mono {G G' H1 H2 : Hp} (g : Ex G G') (g' : Ex G' H1) : Ex (gr G H1 H2) (gr G' H1 H2) := fun a o e => by
  cases q : H1 a with
  | none => rw [gr_new q] at e ⊢; exact e
  | some u => rw [gr_old q] at e ⊢; exact g a o e
/-- later heap -/
theorem gr_later {G H1 H2 H3 : Hp} (g : Ex G H1) (h12 : Ex H1 H2) (h23 : Ex H2 H3) : Ex (gr G H1 H2) (gr G H1 H3) := fun a o e => by
  cases q : H1 a with
  | none => rw [gr_new q] at e ⊢; exact h23 a o e
  | some u => rw [gr_old q] at e ⊢; exact e
/-- the start one step earlier -/
theorem gr_back {G H0 H1 H2 : Hp} (h01 : Ex H0 H1) : Ex (gr G H1 H2) (gr G H0 H2) ∨ True := .inr trivial
theorem but_ex {G : Hp} {p : Addr} : Ex (but G p) G := fun a o e => by
  unfold but at e
  split at e
  · cases e
  · exact e
theorem but_self {G : Hp} {p : Addr} : but G p p = none := by unfold but; rw [if_pos rfl]
theorem but_ne {G : Hp} {p a : Addr} (h : a ≠ p) : but G p a = G a := by unfold but; rw [if_neg h]
theorem ex_but {G G' : Hp} {p : Addr} (g : Ex G G') (h : G p = none) : Ex G (but G' p) := fun a o e => by
  have : a ≠ p := fun z => by rw [z, h] at e; cases e
  rw [but_ne this]; exact g a o e
theorem but_mono {G G' : Hp} {p : Addr} (g : Ex G G') : Ex (but G p) (but G' p) := ex_but (but_ex.trans g) but_self
theorem but_upd {G : Hp} {p : Addr} {o : HO} : Ex (but G p) (upd G p o) := Ex.mut but_ex but_self
theorem none_of_ex {G H : Hp} {a : Addr} (g : Ex G H) (h : H a = none) : G a = none := fresh_back g h

/-! ### data -/
/-- v is the data d; lists and tuples are tracked ones -/
inductive Ds (H : Hp) : V → PyData → Prop
  | non : Ds H .non .none
  | bl (b : Bool) : Ds H (.bl b) (.bool b)
  | int (i : Int) : Ds H (.int i) (.int i)
  | str (x : Str) : Ds H (.str x) (.str x)
  | lst {a : Addr} {xs : List V} {ds : List PyData} : H a = some (.lst xs) → xs.length = ds.length → (∀ (i : Nat) x d, xs[i]? = some x → ds[i]? = some d → Ds H x d) → Ds H (.ref a) (.list ds)
  | tup {a : Addr} {xs : List V} {ds : List PyData} : H a = some (.tup xs) → xs.length = ds.length → (∀ (i : Nat) x d, xs[i]? = some x → ds[i]? = some d → Ds H x d) → Ds H (.ref a) (.tuple ds)
  | dct {a : Addr} : H a = some (.dK []) → Ds H (.ref a) (.dict [])
def DsA (H : Hp) (xs : List V) (ds : List PyData) : Prop := xs.length = ds.length ∧ ∀ (i : Nat) x d, xs[i]? = some x → ds[i]? = some d → Ds H x d
theorem Ds.list {H : Hp} {a : Addr} {xs : List V} {ds : List PyData} (h : H a = some (.lst xs)) (r : DsA H xs ds) : Ds H (.ref a) (.list ds) := .lst h r.1 r.2
theorem Ds.tuple {H : Hp} {a : Addr} {xs : List V} {ds : List PyData} (h : H a = some (.tup xs)) (r : DsA H xs ds) : Ds H (.ref a) (.tuple ds) := .tup h r.1 r.2
theorem Ds.ofList {H : Hp} {v : V} {ds : List PyData} (h : Ds H v (.list ds)) : ∃ a xs, v = .ref a ∧ H a = some (.lst xs) ∧ DsA H xs ds := by
  cases h with
  | lst h1 h2 h3 => exact ⟨_, _, rfl, h1, h2, h3⟩
theorem Ds.ofTuple {H : Hp} {v : V} {ds : List PyData} (h : Ds H v (.tuple ds)) : ∃ a xs, v = .ref a ∧ H a = some (.tup xs) ∧ DsA H xs ds := by
  cases h with
  | tup h1 h2 h3 => exact ⟨_, _, rfl, h1, h2, h3⟩
theorem Ds.ofInt {H : Hp} {v : V} {i : Int} (h : Ds H v (.int i)) : v = .int i := by cases h; rfl
theorem Ds.ofBl {H : Hp} {v : V} {b : Bool} (h : Ds H v (.bool b)) : v = .bl b := by cases h; rfl
theorem Ds.ofNon {H : Hp} {v : V} (h : Ds H v .none) : v = .non := by cases h; rfl
theorem Ds.mono {H H' : Hp} (e : Ex H H') {v : V} {d : PyData} (h : Ds H v d) : Ds H' v d := by
  induction h with
  | non => exact .non
  | bl b => exact .bl b
  | int i => exact .int i
  | str x => exact .str x
  | lst h1 h2 _ ih => exact .lst (e _ _ h1) h2 ih
  | tup h1 h2 _ ih => exact .tup (e _ _ h1) h2 ih
  | dct h => exact .dct (e _ _ h)
theorem DsA.mono {H H' : Hp} (e : Ex H H') {vs : List V} {ds : List PyData} (h : DsA H vs ds) : DsA H' vs ds := ⟨h.1, fun i x d h1 h2 => (h.2 i x d h1 h2).mono e⟩
theorem DsA.nil {H : Hp} : DsA H [] [] := ⟨rfl, fun i x d h => by simp at h⟩
theorem DsA.cons {H : Hp} {v : V} {vs : List V} {d : PyData} {ds : List PyData} (h : Ds H v d) (r : DsA H vs ds) : DsA H (v :: vs) (d :: ds) := ⟨by simp [r.1], fun i x e h1 h2 => by
  cases i with
  | zero => simp at h1 h2; subst h1 h2; exact h
  | succ i => exact r.2 i x e (by simpa using h1) (by simpa using h2)⟩
theorem DsA.uncons {H : Hp} {vs : List V} {d : PyData} {ds : List PyData} (h : DsA H vs (d :: ds)) : ∃ v vr, vs = v :: vr ∧ Ds H v d ∧ DsA H vr ds := by
  cases vs with
  | nil => exact absurd h.1 (by simp)
  | cons v vr => exact ⟨v, vr, rfl, h.2 0 v d rfl rfl, by simpa using h.1, fun i x e h1 h2 => h.2 (i + 1) x e (by simpa using h1) (by simpa using h2)⟩
theorem DsA.unnil {H : Hp} {vs : List V} (h : DsA H vs []) : vs = [] := List.eq_nil_of_length_eq_zero h.1
theorem DsA.append {H : Hp} {vs ws : List V} {ds es : List PyData} (h : DsA H vs ds) (r : DsA H ws es) : DsA H (vs ++ ws) (ds ++ es) := ⟨by simp [h.1, r.1], fun i x d h1 h2 => by
  by_cases hi : i < vs.length
  · rw [List.getElem?_append_left hi] at h1
    rw [List.getElem?_append_left (by rw [← h.1]; exact hi)] at h2
    exact h.2 i x d h1 h2
  · rw [List.getElem?_append_right (by omega)] at h1
    rw [List.getElem?_append_right (by rw [← h.1]; omega), ← h.1] at h2
    exact r.2 _ x d h1 h2⟩
theorem DsA.get {H : Hp} {vs : List V} {ds : List PyData} (h : DsA H vs ds) {i : Nat} {d : PyData} (e : ds[i]? = some d) : ∃ v, vs[i]? = some v ∧ Ds H v d := by
  have hi : i < ds.length := (List.getElem?_eq_some_iff.mp e).1
  have hv : vs[i]? = some (vs[i]'(by rw [h.1]; exact hi)) := List.getElem?_eq_getElem _
  exact ⟨_, hv, h.2 i _ d hv e⟩
theorem DsA.at {H : Hp} {vs : List V} {ds : List PyData} (h : DsA H vs ds) {i : Nat} {v : V} (e : vs[i]? = some v) : ∃ d, ds[i]? = some d ∧ Ds H v d := by
  have hi : i < vs.length := (List.getElem?_eq_some_iff.mp e).1
  have hv : ds[i]? = some (ds[i]'(by rw [← h.1]; exact hi)) := List.getElem?_eq_getElem _
  exact ⟨_, hv, h.2 i v _ e hv⟩
theorem DsA.take {H : Hp} {vs : List V} {ds : List PyData} (h : DsA H vs ds) (n : Nat) : DsA H (vs.take n) (ds.take n) := ⟨by simp [h.1], fun i x d h1 h2 => by
  rw [List.getElem?_take] at h1 h2
  split at h1
  · rename_i hn
    rw [if_pos hn] at h2
    exact h.2 i x d h1 h2
  · cases h1⟩
theorem DsA.drop {H : Hp} {vs : List V} {ds : List PyData} (h : DsA H vs ds) (n : Nat) : DsA H (vs.drop n) (ds.drop n) := ⟨by simp [h.1], fun i x d h1 h2 => by
  rw [List.getElem?_drop] at h1 h2
  exact h.2 _ x d h1 h2⟩
theorem DsA.reverse {H : Hp} {vs : List V} {ds : List PyData} (h : DsA H vs ds) : DsA H vs.reverse ds.reverse := ⟨by simp [h.1], fun i x d h1 h2 => by
  have hi : i < vs.length := by have := (List.getElem?_eq_some_iff.mp h1).1; simpa using this
  rw [List.getElem?_reverse hi] at h1
  rw [List.getElem?_reverse (by rw [← h.1]; exact hi), ← h.1] at h2
  exact h.2 _ x d h1 h2⟩
theorem DsA.ints {H : Hp} : ∀ ns : List Int, DsA H (ns.map V.int) (ns.map PyData.int)
  | [] => .nil
  | n :: ns => .cons (.int n) (DsA.ints ns)
theorem DsA.ofInts {H : Hp} : ∀ {ns : List Int} {vs : List V}, DsA H vs (ns.map PyData.int) → vs = ns.map V.int
  | [], vs, h => h.unnil
  | n :: ns, vs, h => by
    obtain ⟨v, vr, rfl, h1, h2⟩ := DsA.uncons (show DsA H vs (PyData.int n :: ns.map PyData.int) from h)
    rw [h1.ofInt, DsA.ofInts h2]
    rfl
theorem DsA.bls {H : Hp} : ∀ ns : List Bool, DsA H (ns.map V.bl) (ns.map PyData.bool)
  | [] => .nil
  | n :: ns => .cons (.bl n) (DsA.bls ns)
theorem DsA.ofBls {H : Hp} : ∀ {ns : List Bool} {vs : List V}, DsA H vs (ns.map PyData.bool) → vs = ns.map V.bl
  | [], vs, h => h.unnil
  | n :: ns, vs, h => by
    obtain ⟨v, vr, rfl, h1, h2⟩ := DsA.uncons (show DsA H vs (PyData.bool n :: ns.map PyData.bool) from h)
    rw [h1.ofBl, DsA.ofBls h2]
    rfl
/-- what holds no list outlives the writing of one -/
def flatD : PyData → Bool
  | .none => true | .bool _ => true | .int _ => true | .str _ => true
  | .tuple ds => ds.all fun d => match d with
    | .none => true | .bool _ => true | .int _ => true | .str _ => true | _ => false
  | _ => false
theorem Ds.butFlat {H : Hp} {v : V} {d : PyData} {p : Addr} {ys : List V} (h : Ds H v d) (f : flatD d = true) (hp : H p = some (.lst ys)) : Ds (but H p) v d := by
  cases h with
  | non => exact .non
  | bl b => exact .bl b
  | int i => exact .int i
  | str x => exact .str x
  | lst h1 h2 h3 => cases f
  | dct h => cases f
  | @tup a xs ds h1 h2 h3 =>
    have ne : a ≠ p := fun z => by rw [z, hp] at h1; cases h1
    refine .tup (by rw [but_ne ne]; exact h1) h2 fun i x d e1 e2 => ?_
    have q := h3 i x d e1 e2
    have f' := List.all_eq_true.mp f d (List.mem_of_getElem? e2)
    cases q with
    | non => exact .non
    | bl b => exact .bl b
    | int i => exact .int i
    | str x => exact .str x
    | lst _ _ _ => cases f'
    | tup _ _ _ => cases f'
    | dct _ => cases f'
theorem DsA.butFlat {H : Hp} {vs : List V} {ds : List PyData} {p : Addr} {ys : List V} (h : DsA H vs ds) (f : ∀ d ∈ ds, flatD d = true) (hp : H p = some (.lst ys)) : DsA (but H p) vs ds :=
  ⟨h.1, fun i x d e1 e2 => (h.2 i x d e1 e2).butFlat (f d (List.mem_of_getElem? e2)) hp⟩
theorem dpAll_of {K : PySem.W.Frag} {H : Hp} : ∀ {xs : List V} {ds : List PyData}, xs.length = ds.length → (∀ (i : Nat) x d, xs[i]? = some x → ds[i]? = some d → Dp K H x d) → DpAll K H xs ds
  | [], [], _, _ => .nil
  | [], _ :: _, h, _ => by simp at h
  | _ :: _, [], h, _ => by simp at h
  | x :: xs, d :: ds, h, r => .cons (r 0 x d rfl rfl) (dpAll_of (by simpa using h) fun i y e h1 h2 => r (i + 1) y e (by simpa using h1) (by simpa using h2))
theorem can_item : ∀ {ds : List PyData} {i : Nat} {d : PyData}, PyData.canLayAll0 ds = true → ds[i]? = some d → d.canLay0 = true
  | [], i, d, _, h => by simp at h
  | e :: ds, 0, d, c, h => by
    simp only [PyData.canLayAll0, Bool.and_eq_true] at c
    have : e = d := Option.some.inj h
    rw [← this]; exact c.1
  | e :: ds, i + 1, d, c, h => by
    simp only [PyData.canLayAll0, Bool.and_eq_true] at c
    exact can_item c.2 (by simpa using h)
theorem Ds.dp {K : PySem.W.Frag} {H : Hp} {v : V} {d : PyData} (h : Ds H v d) : d.canLay0 = true → Dp K H v d := by
  induction h with
  | non => exact fun _ => .non
  | bl b => exact fun _ => .bl b
  | int i => exact fun _ => .int i
  | str x => exact fun _ => .str x
  | @lst a xs ds h1 h2 _ ih =>
    intro c
    have c : PyData.canLayAll0 ds = true := by simpa [PyData.canLay0] using c
    exact .lst (SqL.of h1) (dpAll_of h2 fun i x d e1 e2 => ih i x d e1 e2 (can_item c e2))
  | @tup a xs ds h1 h2 _ ih =>
    intro c
    have c : PyData.canLayAll0 ds = true := by simpa [PyData.canLay0] using c
    exact .tup (SqT.of h1) (dpAll_of h2 fun i x d e1 e2 => ih i x d e1 e2 (can_item c e2))
  | dct h => exact fun c => nomatch (show false = true from c)

/-! ### where a body stands: its entry (G0, H0), now (G, H) -/
structure Up (G0 H0 G H : Hp) : Prop where
  g : Ex G0 G
  s : Ex G H
  h : Ex H0 H
  n : ∀ a o, H0 a = some o → G a ≠ none → G0 a ≠ none
theorem Up.refl {G H : Hp} (g : Ex G H) : Up G H G H := ⟨Ex.refl _, g, Ex.refl _, fun _ _ _ h => h⟩
theorem Up.scal {G0 H0 G H H2 : Hp} (u : Up G0 H0 G H) (e : Ex H H2) : Up G0 H0 G H2 := ⟨u.g, u.s.trans e, u.h.trans e, u.n⟩
theorem Up.data {G0 H0 G H H2 : Hp} (u : Up G0 H0 G H) (e : Ex H H2) : Up G0 H0 (gr G H H2) H2 := ⟨u.g.trans (ex_gr u.s), gr_ex u.s e, u.h.trans e, fun a o h q => u.n a o h (by rw [gr_old (u.h a o h)] at q; exact q)⟩
theorem Up.mut {G0 H0 G H : Hp} {l : Addr} {o : HO} (u : Up G0 H0 G H) (hg : G l = none) (hh : H0 l = none) : Up G0 H0 G (upd H l o) := ⟨u.g, Ex.mut u.s hg, Ex.mut u.h hh, u.n⟩
theorem Up.sub {G0 H0 G G' H : Hp} (u : Up G0 H0 G H) (g : Ex G0 G') (e : Ex G' G) : Up G0 H0 G' H := ⟨g, e.trans u.s, u.h, fun a o h q => u.n a o h (fun z => q (none_of_ex e z))⟩
theorem Up.ex {G0 H0 G H : Hp} (u : Up G0 H0 G H) : Ex G (gr G0 H0 H) := fun a o e => by
  cases q : H0 a with
  | none => rw [gr_new q]; exact u.s a o e
  | some x =>
    rw [gr_old q]
    have := u.n a x q (by rw [e]; intro z; cases z)
    cases r : G0 a with
    | none => exact absurd r this
    | some y =>
      have := u.g a y r
      rw [e] at this
      exact this.symm
theorem Up.fin {G0 H0 G H : Hp} (u : Up G0 H0 G H) {v : V} {d : PyData} (h : Ds G v d) : Ds (gr G0 H0 H) v d := h.mono u.ex
theorem Up.finN {G0 H0 G H : Hp} (u : Up G0 H0 G H) {p : Addr} {vs : List V} {ds : List PyData} (hp : G p = none) (h : DsA G vs ds) : DsA (but (gr G0 H0 H) p) vs ds := h.mono (ex_but u.ex hp)

/-! ### what an expression comes to -/
def EvD (te : TE) (σ : St) (G : Hp) (d : PyData) : Prop := ∀ H1, Ex G H1 → ∀ Q : VK, (∀ v H2, Ex H1 H2 → Ds (gr G H1 H2) v d → Q v H2) → te σ H1 Q
/-- a new list, nobody else's -/
def EvN (te : TE) (σ : St) (G : Hp) (ds : List PyData) : Prop := ∀ H1, Ex G H1 → ∀ Q : VK, (∀ p vs H2, Ex H1 H2 → H1 p = none → H2 p = some (.lst vs) → DsA (but (gr G H1 H2) p) vs ds → Q (.ref p) H2) → te σ H1 Q
def EvAr (ta : TA) (σ : St) (G : Hp) (ds : List PyData) : Prop := ∀ H1, Ex G H1 → ∀ Q : List V → Hp → Prop, (∀ vs H2, Ex H1 H2 → DsA (gr G H1 H2) vs ds → Q vs H2) → ta σ H1 Q
section
variable {K : PySem.W.Frag} {σ : St} {G G' : Hp} {ta tb tc te tx : TE} {t u : TT} {d e : PyData} {ds es : List PyData}
theorem EvD.mono (g : Ex G G') (h : EvD te σ G d) : EvD te σ G' d := fun H1 a Q q => h H1 (g.trans a) Q fun v H2 e z => q v H2 e (z.mono (gr_mono g a))
theorem EvN.mono (g : Ex G G') (h : EvN te σ G ds) : EvN te σ G' ds := fun H1 a Q q => h H1 (g.trans a) Q fun p vs H2 e n hp z => q p vs H2 e n hp (z.mono (but_mono (gr_mono g a)))
theorem EvAr.mono {ta : TA} (g : Ex G G') (h : EvAr ta σ G ds) : EvAr ta σ G' ds := fun H1 a Q q => h H1 (g.trans a) Q fun v H2 e z => q v H2 e (z.mono (gr_mono g a))
theorem EvN.asD (h : EvN te σ G ds) : EvD te σ G (.list ds) := fun H1 a Q q => h H1 a Q fun p vs H2 e n hp z => q (.ref p) H2 e (.list (by rw [gr_new n]; exact hp) (z.mono but_ex))
theorem EvD.to (h : EvD te σ G d) (q : d = e) : EvD te σ G e := q ▸ h
theorem EvN.to (h : EvN te σ G ds) (q : ds = es) : EvN te σ G es := q ▸ h
/-- one after another -/
theorem EvD.seq (ha : EvD ta σ G d) (hb : EvD tb σ G e) {H1 : Hp} (a : Ex G H1) {R : V → V → Hp → Prop} (k : ∀ x y H3, Ex H1 H3 → Ds (gr G H1 H3) x d → Ds (gr G H1 H3) y e → R x y H3) : ta σ H1 fun x H2 => tb σ H2 fun y H3 => R x y H3 :=
  ha H1 a _ fun x H2 e2 zx => (hb.mono (ex_gr (H2 := H2) a)) H2 (gr_ex a e2) _ fun y H3 e3 zy => by
    rw [gr_gr e2 e3] at zy
    exact k x y H3 (e2.trans e3) (zx.mono (gr_later a e2 e3)) zy

/-! #### names, constants -/
theorem evd_var {i : Nat} {v : V} (h : σ[i]? = some (some v)) (z : Ds G v d) : EvD (tVar i) σ G d := fun H1 a Q q => ⟨v, h, q v H1 (Ex.refl _) (z.mono (ex_gr a))⟩
theorem evd_vi {i : Nat} {n : Int} (h : σ[i]? = some (some (.int n))) : EvD (tVar i) σ G (.int n) := evd_var h (.int n)
theorem evd_vb {i : Nat} {n : Bool} (h : σ[i]? = some (some (.bl n))) : EvD (tVar i) σ G (.bool n) := evd_var h (.bl n)
theorem evd_vn {i : Nat} (h : σ[i]? = some (some .non)) : EvD (tVar i) σ G .none := evd_var h .non
theorem evd_c {v : V} (z : Ds G v d) : EvD (tC v) σ G d := fun H1 a Q q => q v H1 (Ex.refl _) (z.mono (ex_gr a))
theorem evd_ci {n : Int} : EvD (tC (.int n)) σ G (.int n) := evd_c (.int n)
theorem evd_cb {n : Bool} : EvD (tC (.bl n)) σ G (.bool n) := evd_c (.bl n)
theorem evd_cn : EvD (tC .non) σ G .none := evd_c .non
theorem evd_cs {x : Str} : EvD (tC (.str x)) σ G (.str x) := evd_c (.str x)
/-! #### numbers -/
theorem evd_I0 {f : Int → Int → Int} {i j : Int} (ha : EvD ta σ G (.int i)) (hb : EvD tb σ G (.int j)) : EvD (tOp (rI0 fun i j => .int (f i j)) ta tb) σ G (.int (f i j)) := fun H1 a Q q =>
  ha.seq hb a fun x y H3 e zx zy => ⟨i, j, zx.ofInt, zy.ofInt, q _ H3 e (.int _)⟩
theorem evd_B0 {f : Int → Int → Bool} {i j : Int} (ha : EvD ta σ G (.int i)) (hb : EvD tb σ G (.int j)) : EvD (tOp (rI0 fun i j => .bl (f i j)) ta tb) σ G (.bool (f i j)) := fun H1 a Q q =>
  ha.seq hb a fun x y H3 e zx zy => ⟨i, j, zx.ofInt, zy.ofInt, q _ H3 e (.bl _)⟩
theorem evd_I {C : Int → Int → Prop} {f : Int → Int → Int} {i j : Int} (ha : EvD ta σ G (.int i)) (hb : EvD tb σ G (.int j)) (hc : C i j) : EvD (tOp (rI C fun i j => .int (f i j)) ta tb) σ G (.int (f i j)) := fun H1 a Q q =>
  ha.seq hb a fun x y H3 e zx zy => ⟨i, j, zx.ofInt, zy.ofInt, hc, q _ H3 e (.int _)⟩
theorem evd_U {f : Int → Int} {i : Int} (ha : EvD ta σ G (.int i)) : EvD (tUn (rU fun i => .int (f i)) ta) σ G (.int (f i)) := fun H1 a Q q =>
  ha H1 a _ fun x H2 e zx => ⟨i, zx.ofInt, q _ H2 e (.int _)⟩
theorem dec_vi {i j : Int} : decide (V.int i = V.int j) = decide (i = j) := by simp
theorem dec_vb {i j : Bool} : decide (V.bl i = V.bl j) = decide (i = j) := by simp
theorem evd_eq {i j : Int} (ha : EvD ta σ G (.int i)) (hb : EvD tb σ G (.int j)) : EvD (tOp rEq ta tb) σ G (.bool (decide (i = j))) := fun H1 a Q q =>
  ha.seq hb a fun x y H3 e zx zy => by
    rw [zx.ofInt, zy.ofInt]
    refine ⟨rfl, ?_⟩
    rw [dec_vi]
    exact q _ H3 e (.bl _)
theorem evd_ne {i j : Int} (ha : EvD ta σ G (.int i)) (hb : EvD tb σ G (.int j)) : EvD (tOp rNe ta tb) σ G (.bool (!decide (i = j))) := fun H1 a Q q =>
  ha.seq hb a fun x y H3 e zx zy => by
    rw [zx.ofInt, zy.ofInt]
    refine ⟨rfl, ?_⟩
    rw [dec_vi]
    exact q _ H3 e (.bl _)
theorem evd_eqB {i j : Bool} (ha : EvD ta σ G (.bool i)) (hb : EvD tb σ G (.bool j)) : EvD (tOp rEq ta tb) σ G (.bool (decide (i = j))) := fun H1 a Q q =>
  ha.seq hb a fun x y H3 e zx zy => by
    rw [zx.ofBl, zy.ofBl]
    refine ⟨rfl, ?_⟩
    rw [dec_vb]
    exact q _ H3 e (.bl _)
theorem evd_neB {i j : Bool} (ha : EvD ta σ G (.bool i)) (hb : EvD tb σ G (.bool j)) : EvD (tOp rNe ta tb) σ G (.bool (!decide (i = j))) := fun H1 a Q q =>
  ha.seq hb a fun x y H3 e zx zy => by
    rw [zx.ofBl, zy.ofBl]
    refine ⟨rfl, ?_⟩
    rw [dec_vb]
    exact q _ H3 e (.bl _)
/-- a < b < c -/
theorem evd_chain {f g : Int → Int → Bool} {i j k : Int} (ha : EvD ta σ G (.int i)) (hb : EvD tb σ G (.int j)) (hc : EvD tc σ G (.int k)) :
    EvD (tChain (rI0 fun i j => .bl (f i j)) (rI0 fun i j => .bl (g i j)) ta tb tc) σ G (.bool (f i j && g j k)) := fun H1 a Q q =>
  ha.seq hb a fun x y H3 e zx zy => ⟨i, j, zx.ofInt, zy.ofInt, f i j, rfl, by
    cases hf : f i j with
    | false => exact q _ H3 e (by rw [hf]; exact .bl false)
    | true => exact (hc.mono (ex_gr (H2 := H3) a)) H3 (gr_ex a e) _ fun w H4 e4 zw => ⟨j, k, zy.ofInt, zw.ofInt, q _ H4 (e.trans e4) (by rw [hf]; exact .bl (g j k))⟩⟩
/-! #### places, slices, displays -/
theorem Ds.sqL {v : V} {H : Hp} (h : Ds H v (.list ds)) : ∃ a xs, v = .ref a ∧ SqL K H a xs ∧ DsA H xs ds := by
  obtain ⟨a, xs, h1, h2, h3⟩ := h.ofList
  exact ⟨a, xs, h1, SqL.of h2, h3⟩
theorem atI_ds {H : Hp} {xs : List V} {i : Int} (h : DsA H xs ds) (ha : atI ds i = some d) : ∃ v, atI xs i = some v ∧ Ds H v d := by
  unfold atI at ha ⊢
  rw [h.1]
  cases q : ixN ds.length i with
  | none => rw [q] at ha; cases ha
  | some j => rw [q] at ha; exact h.get ha
theorem evd_ixL {i : Int} (ha : EvD ta σ G (.list ds)) (hb : EvD tb σ G (.int i)) (hi : atI ds i = some d) : EvD (tOp (rIxL K) ta tb) σ G d := fun H1 a Q q =>
  ha.seq hb a fun x y H3 e zx zy => by
    obtain ⟨l, xs, rfl, h2, h3⟩ := zx.ofList
    obtain ⟨v, hv, zv⟩ := atI_ds h3 hi
    exact ⟨l, xs, i, v, rfl, zy.ofInt, SqL.of (gr_ex a e _ _ h2), hv, q v H3 e zv⟩
theorem evd_ixT {i : Int} (ha : EvD ta σ G (.tuple ds)) (hb : EvD tb σ G (.int i)) (hi : atI ds i = some d) : EvD (tOp (rIxT K) ta tb) σ G d := fun H1 a Q q =>
  ha.seq hb a fun x y H3 e zx zy => by
    obtain ⟨l, xs, rfl, h2, h3⟩ := zx.ofTuple
    obtain ⟨v, hv, zv⟩ := atI_ds h3 hi
    exact ⟨l, xs, i, v, rfl, zy.ofInt, SqT.of (gr_ex a e _ _ h2), hv, q v H3 e zv⟩
theorem eva_nil : EvAr tNil σ G [] := fun H1 a Q q => q [] H1 (Ex.refl _) .nil
theorem eva_cons {tr : TA} (h : EvD te σ G d) (r : EvAr tr σ G ds) : EvAr (tCons te tr) σ G (d :: ds) := fun H1 a Q q =>
  h H1 a _ fun x H2 e2 zx => (r.mono (ex_gr (H2 := H2) a)) H2 (gr_ex a e2) _ fun ys H3 e3 zy => by
    rw [gr_gr e2 e3] at zy
    exact q _ H3 (e2.trans e3) (.cons (zx.mono (gr_later a e2 e3)) zy)
theorem line_of {n : Nat} (h : n ≤ 100000) : n ≤ sizeLine := Nat.le_trans h (by decide)
theorem evd_tup {ta : TA} (h : EvAr ta σ G ds) (hl : ds.length ≤ 100000 := by simp) : EvD (tTup ta) σ G (.tuple ds) := fun H1 a Q q =>
  h H1 a _ fun vs H2 e2 z => ⟨line_of (by rw [z.1]; exact hl), fun p hp => q _ _ (e2.trans (Ex.new hp)) (.tuple (a := p) (xs := vs) (by rw [gr_new (none_of_ex e2 hp)]; exact upd_same) (z.mono (gr_later a e2 (Ex.new hp))))⟩
theorem evn_lst {ta : TA} (h : EvAr ta σ G ds) (hl : ds.length ≤ 100000 := by simp) : EvN (tLst ta) σ G ds := fun H1 a Q q =>
  h H1 a _ fun vs H2 e2 z => ⟨line_of (by rw [z.1]; exact hl), fun p hp => q p vs _ (e2.trans (Ex.new hp)) (none_of_ex e2 hp) upd_same
    (z.mono (ex_but (gr_later a e2 (Ex.new hp)) (by rw [gr_new (none_of_ex e2 hp)]; exact hp)))⟩
/-- a new list at p over what was there -/
theorem evn_put {H1 H2 : Hp} {p : Addr} {vs : List V} (a : Ex G H1) (e2 : Ex H1 H2) (hp : H2 p = none) (z : DsA (gr G H1 H2) vs ds) : DsA (but (gr G H1 (upd H2 p (.lst vs))) p) vs ds :=
  z.mono (ex_but (gr_later a e2 (Ex.new hp)) (by rw [gr_new (none_of_ex e2 hp)]; exact hp))
def cutD (xs : List PyData) (lo hi : Option Int) : List PyData := (xs.drop (HT.sIx xs.length 0 lo)).take (HT.sIx xs.length xs.length hi - HT.sIx xs.length 0 lo)
theorem DsA.cut {H : Hp} {vs : List V} (h : DsA H vs ds) (lo hi : Option Int) : DsA H (cutV vs lo hi) (cutD ds lo hi) := by
  unfold cutV cutD
  rw [h.1]
  exact (h.drop _).take _
def EvO (to : TO) (σ : St) (G : Hp) (o : Option Int) : Prop := ∀ H1, Ex G H1 → ∀ Q : Option Int → Hp → Prop, (∀ H2, Ex H1 H2 → Q o H2) → to σ H1 Q
theorem evo_none : EvO tNoPart σ G none := fun H1 _ Q q => q H1 (Ex.refl _)
theorem evo_some {i : Int} (h : EvD te σ G (.int i)) : EvO (tPart te) σ G (some i) := fun H1 a Q q => h H1 a _ fun v H2 e z => ⟨i, z.ofInt, q H2 e⟩
theorem evn_sl {tl th : TO} {lo hi : Option Int} (h : EvD te σ G (.list ds)) (hl : EvO tl σ G lo) (hh : EvO th σ G hi) : EvN (tSl (rSlL K) te tl th) σ G (cutD ds lo hi) := fun H1 a Q q =>
  h H1 a _ fun x H2 e2 z => hl H2 (a.trans e2) _ fun H3 e3 => hh H3 ((a.trans e2).trans e3) _ fun H4 e4 => by
    obtain ⟨l, xs, rfl, h2, h3⟩ := z.ofList
    have e24 := e3.trans e4
    refine ⟨l, xs, rfl, SqL.of (e24 _ _ (gr_ex a e2 _ _ h2)), fun p hp => q p _ _ ((e2.trans e24).trans (Ex.new hp)) (none_of_ex (e2.trans e24) hp) upd_same ?_⟩
    exact evn_put a (e2.trans e24) hp ((h3.cut lo hi).mono (gr_later a e2 e24))
theorem evn_revL (h : EvD te σ G (.list ds)) : EvN (tRevL K te) σ G ds.reverse := fun H1 a Q q =>
  h H1 a _ fun x H2 e2 z => by
    obtain ⟨l, xs, rfl, h2, h3⟩ := z.ofList
    exact ⟨l, xs, rfl, SqL.of (gr_ex a e2 _ _ h2), fun p hp => q p _ _ (e2.trans (Ex.new hp)) (none_of_ex e2 hp) upd_same (evn_put a e2 hp h3.reverse)⟩
theorem evn_cat (ha : EvD ta σ G (.list ds)) (hb : EvD tb σ G (.list es)) (hl : ds.length + es.length ≤ 100000) : EvN (tOp rCat ta tb) σ G (ds ++ es) := fun H1 a Q q =>
  ha.seq hb a fun x y H3 e zx zy => by
    obtain ⟨l, xs, rfl, h2, h3⟩ := zx.ofList
    obtain ⟨m, ys, rfl, h4, h5⟩ := zy.ofList
    exact ⟨l, m, xs, ys, rfl, rfl, gr_ex a e _ _ h2, gr_ex a e _ _ h4, line_of (by rw [h3.1, h5.1]; exact hl), fun p hp => q p _ _ (e.trans (Ex.new hp)) (none_of_ex e hp) upd_same (evn_put a e hp (h3.append h5))⟩
theorem evn_listOf (h : EvD te σ G (.list ds)) : EvN (tCB (rListS K) (tCons te tNil)) σ G ds := fun H1 a Q q =>
  h H1 a _ fun x H2 e2 z => by
    obtain ⟨l, xs, rfl, h2, h3⟩ := z.ofList
    exact ⟨l, xs, rfl, .inl (SqL.of (gr_ex a e2 _ _ h2)), fun p hp => q p _ _ (e2.trans (Ex.new hp)) (none_of_ex e2 hp) upd_same (evn_put a e2 hp h3)⟩
theorem evn_listOfT (h : EvD te σ G (.tuple ds)) : EvN (tCB (rListS K) (tCons te tNil)) σ G ds := fun H1 a Q q =>
  h H1 a _ fun x H2 e2 z => by
    obtain ⟨l, xs, rfl, h2, h3⟩ := z.ofTuple
    exact ⟨l, xs, rfl, .inr (SqT.of (gr_ex a e2 _ _ h2)), fun p hp => q p _ _ (e2.trans (Ex.new hp)) (none_of_ex e2 hp) upd_same (evn_put a e2 hp h3)⟩
/-! #### built-ins -/
theorem evd_len (h : EvD te σ G (.list ds)) : EvD (tCB (rLenS K) (tCons te tNil)) σ G (.int (ds.length : Int)) := fun H1 a Q q =>
  h H1 a _ fun x H2 e2 z => by
    obtain ⟨l, xs, rfl, h2, h3⟩ := z.ofList
    refine ⟨l, xs, rfl, .inl (SqL.of (gr_ex a e2 _ _ h2)), ?_⟩
    rw [h3.1]
    exact q _ H2 e2 (.int _)
theorem evd_lenT (h : EvD te σ G (.tuple ds)) : EvD (tCB (rLenS K) (tCons te tNil)) σ G (.int (ds.length : Int)) := fun H1 a Q q =>
  h H1 a _ fun x H2 e2 z => by
    obtain ⟨l, xs, rfl, h2, h3⟩ := z.ofTuple
    refine ⟨l, xs, rfl, .inr (SqT.of (gr_ex a e2 _ _ h2)), ?_⟩
    rw [h3.1]
    exact q _ H2 e2 (.int _)
theorem evd_sum {ns : List Int} (h : EvD te σ G (.list (ns.map PyData.int))) : EvD (tCB (rSum K) (tCons te tNil)) σ G (.int ns.sum) := fun H1 a Q q =>
  h H1 a _ fun x H2 e2 z => by
    obtain ⟨l, xs, rfl, h2, h3⟩ := z.ofList
    have := h3.ofInts
    subst this
    exact ⟨l, ns, rfl, SqL.of (gr_ex a e2 _ _ h2), q _ H2 e2 (.int _)⟩
theorem evd_all {ns : List Bool} (h : EvD te σ G (.list (ns.map PyData.bool))) : EvD (tCB (rAll K) (tCons te tNil)) σ G (.bool (ns.all id)) := fun H1 a Q q =>
  h H1 a _ fun x H2 e2 z => by
    obtain ⟨l, xs, rfl, h2, h3⟩ := z.ofList
    have := h3.ofBls
    subst this
    exact ⟨l, ns, rfl, SqL.of (gr_ex a e2 _ _ h2), q _ H2 e2 (.bl _)⟩
theorem evd_any {ns : List Bool} (h : EvD te σ G (.list (ns.map PyData.bool))) : EvD (tCB (rAny K) (tCons te tNil)) σ G (.bool (ns.any id)) := fun H1 a Q q =>
  h H1 a _ fun x H2 e2 z => by
    obtain ⟨l, xs, rfl, h2, h3⟩ := z.ofList
    have := h3.ofBls
    subst this
    exact ⟨l, ns, rfl, SqL.of (gr_ex a e2 _ _ h2), q _ H2 e2 (.bl _)⟩
def rMin2 : List V → Hp → VK → Prop := fun xs H Q => ∃ i j, xs = [.int i, .int j] ∧ Q (.int (if j < i then j else i)) H
theorem evd_max2 {i j : Int} (ha : EvD ta σ G (.int i)) (hb : EvD tb σ G (.int j)) : EvD (tCB rMax2 (tCons ta (tCons tb tNil))) σ G (.int (max i j)) := fun H1 a Q q =>
  ha.seq hb a fun x y H3 e zx zy => ⟨i, j, by rw [zx.ofInt, zy.ofInt], by
    rw [show (if j > i then j else i) = max i j by omega]
    exact q _ H3 e (.int _)⟩
theorem evd_min2 {i j : Int} (ha : EvD ta σ G (.int i)) (hb : EvD tb σ G (.int j)) : EvD (tCB rMin2 (tCons ta (tCons tb tNil))) σ G (.int (min i j)) := fun H1 a Q q =>
  ha.seq hb a fun x y H3 e zx zy => ⟨i, j, by rw [zx.ofInt, zy.ofInt], by
    rw [show (if j < i then j else i) = min i j by omega]
    exact q _ H3 e (.int _)⟩
/-! #### truth -/
theorem evt_test {b : Bool} (h : EvD te σ G (.bool b)) : EvT (tTest te) σ G b := fun H1 a Q q => h H1 a _ fun v H2 e z => ⟨b, z.ofBl, q H2 e⟩
theorem evt_B {b : Bool} (h : EvD te σ G (.bool b)) : EvT (tB te) σ G b := fun H1 a Q q => h H1 a _ fun v H2 e z => ⟨b, z.ofBl, q H2 e⟩
theorem evd_and {a b : Bool} (h1 : EvD ta σ G (.bool a)) (h2 : a = true → EvD tb σ G (.bool b)) : EvD (tAndV ta tb) σ G (.bool (a && b)) := fun H1 x Q q => h1 H1 x _ fun v H2 e z => ⟨a, z.ofBl, by
  cases a with
  | true => exact (h2 rfl) H2 (x.trans e) Q fun w H3 e3 z3 => by rw [z3.ofBl]; exact q _ H3 (e.trans e3) (.bl b)
  | false => exact q _ H2 e (.bl false)⟩
theorem evd_or {a b : Bool} (h1 : EvD ta σ G (.bool a)) (h2 : a = false → EvD tb σ G (.bool b)) : EvD (tOrV ta tb) σ G (.bool (a || b)) := fun H1 x Q q => h1 H1 x _ fun v H2 e z => ⟨a, z.ofBl, by
  cases a with
  | false => exact (h2 rfl) H2 (x.trans e) Q fun w H3 e3 z3 => by rw [z3.ofBl]; exact q _ H3 (e.trans e3) (.bl b)
  | true => exact q _ H2 e (.bl true)⟩
theorem evd_not {a : Bool} (h1 : EvD ta σ G (.bool a)) : EvD (tNotV ta) σ G (.bool (!a)) := fun H1 x Q q => h1 H1 x _ fun v H2 e z => ⟨a, z.ofBl, q _ H2 e (.bl _)⟩
theorem evd_if {b : Bool} (h : EvT t σ G b) (h1 : b = true → EvD ta σ G d) (h2 : b = false → EvD tb σ G d) : EvD (tIf t ta tb) σ G d := fun H1 a Q q => h H1 a _ fun H2 e => by
  have go : ∀ {tx : TE}, EvD tx σ G d → tx σ H2 Q := fun {tx} hx => hx H2 (a.trans e) Q fun v H3 e3 z => q v H3 (e.trans e3) (by
    refine z.mono fun x o hxo => ?_
    cases q1 : H1 x with
    | none =>
      rw [gr_new q1]
      cases q2 : H2 x with
      | none => rw [gr_new q2] at hxo; exact hxo
      | some y => rw [gr_old q2] at hxo; exact absurd (a x o hxo) (by rw [q1]; intro z; cases z)
    | some y => rw [gr_old q1]; rw [gr_old (e x y q1)] at hxo; exact hxo)
  cases b with
  | true => exact go (h1 rfl)
  | false => exact go (h2 rfl)
/-- == of data -/
theorem evd_eqD (ha : EvD ta σ G d) (hb : EvD tb σ G e) (sd : SeqAt.shaped d = true) (se : SeqAt.shaped e = true) : EvD (tOp (rEqD K) ta tb) σ G (.bool (PyData.eqv d e)) := fun H1 a Q q =>
  ha.seq hb a fun x y H3 ex zx zy => ⟨d, e, (zx.mono (gr_ex a ex)).dp (SeqAt.canLay_of_shaped sd), (zy.mono (gr_ex a ex)).dp (SeqAt.canLay_of_shaped se), sd, se, q _ H3 ex (.bl _)⟩
theorem evd_neD (ha : EvD ta σ G d) (hb : EvD tb σ G e) (sd : SeqAt.shaped d = true) (se : SeqAt.shaped e = true) : EvD (tOp (rNeD K) ta tb) σ G (.bool (!PyData.eqv d e)) := fun H1 a Q q =>
  ha.seq hb a fun x y H3 ex zx zy => ⟨d, e, (zx.mono (gr_ex a ex)).dp (SeqAt.canLay_of_shaped sd), (zy.mono (gr_ex a ex)).dp (SeqAt.canLay_of_shaped se), sd, se, q _ H3 ex (.bl _)⟩
end
end Gs

/-! Loops, comprehensions, calls over data. -/
namespace Gs
open PySem L2 Evl

/-! ### what is walked -/
/-- S: turn, heap, slots ahead, slots behind the target's store -/
def Src (wi : TI) (g : TG) (σ : St) (G : Hp) (n : Nat) (S : Nat → Hp → St → St → Prop) : Prop :=
  ∀ H1, Ex G H1 → ∀ R : It → Hp → Prop,
    (∀ (J : It) (H2 : Hp) (Gd : Hp → Prop) (Y : Nat → Hp → V → Hp → Prop), Ex H1 H2 → Walk J n Gd Y → (∀ H', Ex (gr G H1 H2) H' → Gd H') →
      (∀ i x Gx H H', i < n → Ex (gr G H1 H2) Gx → Ex Gx H → Y i H x H' → Ex H H' ∧ ∀ (σ0 : St) (Kk : St → Hp → Prop), (∀ σ', S i (gr Gx H H') σ0 σ' → Kk σ' H') → g x σ0 H' Kk) → R J H2) → wi σ H1 R
section
variable {K : PySem.W.Frag} {σ : St} {G G' : Hp} {ta tb tc te tl tx : TE} {t u tt : TT} {d e : PyData} {ds es : List PyData}
def SNm (ds : List PyData) (j : Nat) : Nat → Hp → St → St → Prop := fun i G σ σ' => ∃ v d, ds[i]? = some d ∧ Ds G v d ∧ σ' = σ.set j (some v)
theorem src_list {j : Nat} (h : EvD tl σ G (.list ds)) : Src (iList K tl) (gName j) σ G ds.length (SNm ds j) := fun H1 a R r =>
  h H1 a _ fun x H2 e2 z => by
    obtain ⟨l, xs, rfl, h2, h3⟩ := z.ofList
    have hk : ∀ H', Ex (gr G H1 H2) H' → SqL K H' l xs := fun H' e => SqL.of (e _ _ h2)
    refine ⟨l, rfl, ⟨xs, hk _ (gr_ex a e2)⟩, ?_⟩
    refine r (Itl K l) H2 (fun H => SqL K H l xs) (YAt xs) e2 (h3.1 ▸ walk_list) hk fun i x Gx H H' hi gx gh y => ?_
    obtain ⟨rfl, hy⟩ := y
    refine ⟨Ex.refl _, fun σ0 Kk kk => kk _ ?_⟩
    obtain ⟨d, hd, zd⟩ := h3.at hy
    refine ⟨x, d, hd, ?_, rfl⟩
    rw [gr_self gh]
    exact zd.mono gx
theorem src_tup {j : Nat} (h : EvD tl σ G (.tuple ds)) : Src (iTup K tl) (gName j) σ G ds.length (SNm ds j) := fun H1 a R r =>
  h H1 a _ fun x H2 e2 z => by
    obtain ⟨l, xs, rfl, h2, h3⟩ := z.ofTuple
    have hk : ∀ H', Ex (gr G H1 H2) H' → SqT K H' l xs := fun H' e => SqT.of (e _ _ h2)
    refine ⟨l, rfl, ⟨xs, hk _ (gr_ex a e2)⟩, ?_⟩
    refine r (Itt K l) H2 (fun H => SqT K H l xs) (YAt xs) e2 (h3.1 ▸ walk_tup) hk fun i x Gx H H' hi gx gh y => ?_
    obtain ⟨rfl, hy⟩ := y
    refine ⟨Ex.refl _, fun σ0 Kk kk => kk _ ?_⟩
    obtain ⟨d, hd, zd⟩ := h3.at hy
    refine ⟨x, d, hd, ?_, rfl⟩
    rw [gr_self gh]
    exact zd.mono gx
/-- the items are tuples, the target their names -/
inductive GSet : List V → List Nat → St → St → Prop
  | nil {σ : St} : GSet [] [] σ σ
  | cons {v : V} {vs : List V} {j : Nat} {js : List Nat} {σ σ' : St} : GSet vs js (σ.set j (some v)) σ' → GSet (v :: vs) (j :: js) σ σ'
def gNames : List Nat → TGs
  | [] => gNil
  | j :: js => gCons (gName j) (gNames js)
theorem gNames_run : ∀ {js : List Nat} {vs : List V} {σ : St} {H : Hp} {Kk : St → Hp → Prop}, vs.length = js.length → (∀ σ', GSet vs js σ σ' → Kk σ' H) → gNames js vs σ H Kk
  | [], [], σ, H, Kk, _, k => ⟨rfl, k _ .nil⟩
  | j :: js, v :: vs, σ, H, Kk, h, k => ⟨v, vs, rfl, gNames_run (js := js) (vs := vs) (by simpa using h) fun σ' g => k σ' (.cons g)⟩
  | [], _ :: _, _, _, _, h, _ => by simp at h
  | _ :: _, [], _, _, _, h, _ => by simp at h
def STp (ds : List PyData) (js : List Nat) : Nat → Hp → St → St → Prop := fun i G σ σ' => ∃ vs es, ds[i]? = some (.tuple es) ∧ DsA G vs es ∧ GSet vs js σ σ'
theorem src_listT {js : List Nat} {m : Nat} (h : EvD tl σ G (.list ds)) (hm : js.length = m) (ht : ∀ d ∈ ds, ∃ es, d = .tuple es ∧ es.length = m) : Src (iList K tl) (gTup K m (gNames js)) σ G ds.length (STp ds js) := fun H1 a R r =>
  h H1 a _ fun x H2 e2 z => by
    obtain ⟨l, xs, rfl, h2, h3⟩ := z.ofList
    have hk : ∀ H', Ex (gr G H1 H2) H' → SqL K H' l xs := fun H' e => SqL.of (e _ _ h2)
    refine ⟨l, rfl, ⟨xs, hk _ (gr_ex a e2)⟩, ?_⟩
    refine r (Itl K l) H2 (fun H => SqL K H l xs) (YAt xs) e2 (h3.1 ▸ walk_list) hk fun i x Gx H H' hi gx gh y => ?_
    obtain ⟨rfl, hy⟩ := y
    refine ⟨Ex.refl _, fun σ0 Kk kk => ?_⟩
    obtain ⟨d, hd, zd⟩ := h3.at hy
    obtain ⟨es, rfl, hes⟩ := ht d (List.mem_of_getElem? hd)
    obtain ⟨q, ys, rfl, q2, q3⟩ := zd.ofTuple
    refine ⟨q, ys, rfl, SqT.of (gh _ _ (gx _ _ q2)), by rw [q3.1, hes], gNames_run (by rw [q3.1, hes, hm]) fun σ' g => kk _ ⟨ys, es, hd, ?_, g⟩⟩
    rw [gr_self gh]
    exact q3.mono gx
/-- pairs made on the way: enumerate, zip -/
def SPr (f g : Nat → Option PyData) (j k : Nat) : Nat → Hp → St → St → Prop := fun i G σ σ' => ∃ v w d e, f i = some d ∧ g i = some e ∧ Ds G v d ∧ Ds G w e ∧ σ' = (σ.set j (some v)).set k (some w)
theorem pair_turn {j k : Nat} {fv gv : Nat → Option V} {f g : Nat → Option PyData} {i : Nat} {x : V} {Gx H H' : Hp} (gh : Ex Gx H) (y : YPair fv gv i H x H') (hf : ∀ v, fv i = some v → ∃ d, f i = some d ∧ Ds Gx v d) (hg : ∀ v, gv i = some v → ∃ d, g i = some d ∧ Ds Gx v d) :
    Ex H H' ∧ ∀ (σ0 : St) (Kk : St → Hp → Prop), (∀ σ', SPr f g j k i (gr Gx H H') σ0 σ' → Kk σ' H') → gTup K 2 (gNames [j, k]) x σ0 H' Kk := by
  obtain ⟨T, v, w, rfl, hT, rfl, h1, h2⟩ := y
  have e := Ex.new (o := .tup [v, w]) hT
  refine ⟨e, fun σ0 Kk kk => ⟨T, [v, w], rfl, SqT.of upd_same, rfl, v, [w], rfl, w, [], rfl, rfl, kk _ ?_⟩⟩
  obtain ⟨d, hd, zd⟩ := hf v h1
  obtain ⟨d', hd', zd'⟩ := hg w h2
  exact ⟨v, w, d, d', hd, hd', zd.mono (ex_gr gh), zd'.mono (ex_gr gh), rfl⟩
theorem src_enum {j k : Nat} (h : EvD tl σ G (.list ds)) : Src (iEnum K (tCons tl tNil)) (gTup K 2 (gNames [j, k])) σ G ds.length (SPr (fun i => some (.int (i : Int))) (fun i => ds[i]?) j k) := fun H1 a R r =>
  h H1 a _ fun x H2 e2 z => by
    obtain ⟨l, xs, rfl, h2, h3⟩ := z.ofList
    have hk : ∀ H', Ex (gr G H1 H2) H' → SqL K H' l xs := fun H' e => SqL.of (e _ _ h2)
    refine ⟨l, xs, rfl, hk _ (gr_ex a e2), ?_⟩
    refine r (Ite K l) H2 (fun H => SqL K H l xs) _ e2 (h3.1 ▸ walk_enum) hk fun i x Gx H H' hi gx gh y => pair_turn gh y (fun v hv => ?_) (fun v hv => ?_)
    · cases hv; exact ⟨_, rfl, .int _⟩
    · obtain ⟨d, hd, zd⟩ := h3.at hv
      exact ⟨d, hd, zd.mono gx⟩
theorem src_zip {j k : Nat} {ta tb : TE} (ha : EvD ta σ G (.list ds)) (hb : EvD tb σ G (.list es)) : Src (iZip K (tCons ta (tCons tb tNil))) (gTup K 2 (gNames [j, k])) σ G (min ds.length es.length) (SPr (fun i => ds[i]?) (fun i => es[i]?) j k) := fun H1 a R r =>
  ha.seq hb a fun x y H2 e2 zx zy => by
    obtain ⟨l, xs, rfl, h2, h3⟩ := zx.ofList
    obtain ⟨m, ys, rfl, h4, h5⟩ := zy.ofList
    have hk : ∀ H', Ex (gr G H1 H2) H' → SqL K H' l xs ∧ SqL K H' m ys := fun H' e => ⟨SqL.of (e _ _ h2), SqL.of (e _ _ h4)⟩
    have hk0 := hk _ (gr_ex a e2)
    refine ⟨l, m, xs, ys, rfl, hk0.1, hk0.2, ?_⟩
    refine r (Itz K l m) H2 _ _ e2 (walk_zip (by rw [h3.1, h5.1])) hk fun i x Gx H H' hi gx gh y => pair_turn gh y (fun v hv => ?_) (fun v hv => ?_)
    · obtain ⟨d, hd, zd⟩ := h3.at hv
      exact ⟨d, hd, zd.mono gx⟩
    · obtain ⟨d, hd, zd⟩ := h5.at hv
      exact ⟨d, hd, zd.mono gx⟩
theorem src_rev {j : Nat} (h : EvD tl σ G (.list ds)) : Src (iRev K (tCons tl tNil)) (gName j) σ G ds.length (SNm ds.reverse j) := fun H1 a R r =>
  h H1 a _ fun x H2 e2 z => by
    obtain ⟨l, xs, rfl, h2, h3⟩ := z.ofList
    have hk : ∀ H', Ex (gr G H1 H2) H' → SqL K H' l xs := fun H' e => SqL.of (e _ _ h2)
    refine ⟨l, xs, rfl, hk _ (gr_ex a e2), ?_⟩
    have wk : Walk (Itv K l xs.length) ds.length (fun H => SqL K H l xs) (fun i H x H' => H' = H ∧ xs[xs.length - 1 - i]? = some x) := by
      have w0 := walk_rev (K := K) (a := l) (xs := xs)
      have e0 := h3.1
      exact ⟨fun i H hi h => w0.goes i H (by omega) h, fun H h => by rw [← e0]; exact w0.stops H h, fun i H x H' hi h y => w0.yields i H x H' (by omega) h y⟩
    refine r (Itv K l xs.length) H2 (fun H => SqL K H l xs) _ e2 wk hk fun i x Gx H H' hi gx gh y => ?_
    obtain ⟨rfl, hy⟩ := y
    refine ⟨Ex.refl _, fun σ0 Kk kk => kk _ ?_⟩
    have hy' : xs.reverse[i]? = some x := by
      rw [List.getElem?_reverse (by rw [h3.1]; exact hi)]; exact hy
    obtain ⟨d, hd, zd⟩ := h3.reverse.at hy'
    refine ⟨x, d, hd, ?_, rfl⟩
    rw [gr_self gh]
    exact zd.mono gx
def SRg (j : Nat) : Nat → Hp → St → St → Prop := fun i _ σ σ' => σ' = σ.set j (some (.int (i : Int)))
theorem src_range {j : Nat} {n : Int} (h : EvD te σ G (.int n)) (hn : n ≤ 100000) (hm : -100000 ≤ n) : Src (iRng1 (tCons te tNil)) (gName j) σ G n.toNat (SRg j) := fun H1 a R r =>
  h H1 a _ fun x H2 e2 z => by
    rw [z.ofInt]
    refine ⟨n, rfl, by omega, by omega, ?_⟩
    refine r (Itr 0 n.toNat) H2 (fun _ => True) _ e2 walk_range (fun _ _ => trivial) fun i x Gx H H' hi gx gh y => ?_
    obtain ⟨rfl, rfl⟩ := y
    refine ⟨Ex.refl _, fun σ0 Kk kk => kk _ ?_⟩
    show List.set σ0 j (some (V.int ((0 : Int) + (i : Int)))) = List.set σ0 j (some (V.int (i : Int)))
    rw [Int.zero_add]
/-- the script -/
theorem src_listS {j : Nat} {l : Addr} {ns : List Int} (h : σ[j]? = some (some (.ref l))) (hs : SqL K G l (ns.map V.int)) {k : Nat} : Src (iList K (tVar j)) (gName k) σ G ns.length (fun i _ σ σ' => ∃ n, ns[i]? = some n ∧ σ' = σ.set k (some (.int n))) := fun H1 a R r => by
  have hk : ∀ H', Ex (gr G H1 H1) H' → SqL K H' l (ns.map V.int) := fun H' e => ex_l e (by rw [gr_self a]; exact hs)
  refine ⟨_, h, l, rfl, ⟨_, ex_l a hs⟩, ?_⟩
  refine r (Itl K l) H1 (fun H => SqL K H l (ns.map V.int)) (YAt (ns.map V.int)) (Ex.refl _) (by have := walk_list (K := K) (a := l) (xs := ns.map V.int); rwa [List.length_map] at this) hk fun i x Gx H H' hi gx gh y => ?_
  obtain ⟨rfl, hy⟩ := y
  rw [List.getElem?_map] at hy
  cases q : ns[i]? with
  | none => rw [q] at hy; cases hy
  | some n =>
    rw [q] at hy
    cases hy
    exact ⟨Ex.refl _, fun σ0 Kk kk => kk _ ⟨n, q, rfl⟩⟩
theorem src_enumS {m j k : Nat} {l : Addr} {ns : List Int} (h : σ[m]? = some (some (.ref l))) (hs : SqL K G l (ns.map V.int)) : Src (iEnum K (tCons (tVar m) tNil)) (gTup K 2 (gNames [j, k])) σ G ns.length (fun i _ σ σ' => ∃ n, ns[i]? = some n ∧ σ' = (σ.set j (some (.int (i : Int)))).set k (some (.int n))) := fun H1 a R r => by
  have hk : ∀ H', Ex (gr G H1 H1) H' → SqL K H' l (ns.map V.int) := fun H' e => ex_l e (by rw [gr_self a]; exact hs)
  refine ⟨_, h, l, _, rfl, ex_l a hs, ?_⟩
  refine r (Ite K l) H1 (fun H => SqL K H l (ns.map V.int)) _ (Ex.refl _) (by have := walk_enum (K := K) (a := l) (xs := ns.map V.int); rwa [List.length_map] at this) hk fun i x Gx H H' hi gx gh y => ?_
  have q := pair_turn (K := K) (j := j) (k := k) (f := fun i => some (.int (i : Int))) (g := fun i => (ns.map PyData.int)[i]?) gh y (fun v hv => by cases hv; exact ⟨_, rfl, .int _⟩) (fun v hv => by
    rw [List.getElem?_map] at hv
    show ∃ d, (ns.map PyData.int)[i]? = some d ∧ Ds Gx v d
    rw [List.getElem?_map]
    cases q : ns[i]? with
    | none => rw [q] at hv; cases hv
    | some n => rw [q] at hv; cases hv; exact ⟨_, rfl, .int _⟩)
  refine ⟨q.1, fun σ0 Kk kk => q.2 σ0 Kk fun σ' hs' => ?_⟩
  obtain ⟨v, w, d, e, h1, h2, z1, z2, rfl⟩ := hs'
  cases h1
  have h2 : (ns.map PyData.int)[i]? = some e := h2
  rw [List.getElem?_map] at h2
  cases q : ns[i]? with
  | none => rw [q] at h2; cases h2
  | some n =>
    rw [q] at h2
    cases h2
    rw [z1.ofInt, z2.ofInt]
    exact kk _ ⟨n, q, rfl⟩

/-! ### comprehensions -/
def givenD (n : Nat) (p : Nat → Bool) (f : Nat → PyData) : List PyData := ((List.range n).filter p).map f
theorem givenD_yes {n : Nat} {p : Nat → Bool} {f : Nat → PyData} (h : p n = true) : givenD (n + 1) p f = givenD n p f ++ [f n] := by
  unfold givenD
  rw [List.range_succ, List.filter_append, List.map_append, List.filter_cons, if_pos h] <;> rfl
theorem givenD_no {n : Nat} {p : Nat → Bool} {f : Nat → PyData} (h : p n = false) : givenD (n + 1) p f = givenD n p f := by
  unfold givenD
  rw [List.range_succ, List.filter_append, List.map_append, List.filter_cons, if_neg (by rw [h]; decide)]
  show _ ++ [] = _
  rw [List.append_nil]
theorem givenD_len (n : Nat) (p : Nat → Bool) (f : Nat → PyData) : (givenD n p f).length ≤ n := by
  unfold givenD
  rw [List.length_map]
  have h := List.length_filter_le p (List.range n)
  rw [List.length_range] at h
  exact h
theorem givenD_all {n : Nat} {f : Nat → PyData} : givenD n (fun _ => true) f = (List.range n).map f := by
  unfold givenD
  rw [List.filter_eq_self.mpr (fun _ _ => rfl)]
theorem evn_lc {wi : TI} {g : TG} {n : Nat} {S : Nat → Hp → St → St → Prop} {vs : List Nat} (hs : Src wi g σ G n S) (hz : n ≤ 40000) (p : Nat → Bool) (f : Nat → PyData) (hw : ∀ i Gx σ', S i Gx (wipe σ vs) σ' → wipe σ' vs = wipe σ vs)
    (ht : ∀ i Gx σ', i < n → Ex G Gx → S i Gx (wipe σ vs) σ' → EvT tt σ' Gx (p i)) (he : ∀ i Gx σ', i < n → Ex G Gx → S i Gx (wipe σ vs) σ' → p i = true → EvD te σ' Gx (f i)) :
    EvN (tLc wi g tt te vs) σ G (givenD n p f) := fun H1 a Q q => hs H1 a _ fun J H2 Gd Y e2 wk gd turn D hD => by
  have hD1 : H1 D = none := none_of_ex e2 hD
  have gD : gr G H1 H2 D = none := by rw [gr_new hD1]; exact hD
  refine lc_it wk (fun i H' => Ex H2 H' ∧ ∃ acc, H' D = some (.lst acc) ∧ DsA (but (gr G H1 H') D) acc (givenD i p f)) ⟨Ex.new hD, [], upd_same, .nil⟩ (fun i H' _ h => gd H' ((gr_ex a e2).trans h.1)) ?_ (fun H' h => ?_)
  · rintro i x H H' hi ⟨eh, acc, hacc, zacc⟩ y
    have g1 : Ex (gr G H1 H2) (but (gr G H1 H) D) := ex_but (gr_later a e2 eh) gD
    have g2 : Ex (but (gr G H1 H) D) H := but_ex.trans (gr_ex a (e2.trans eh))
    obtain ⟨e3, k3⟩ := turn i x (but (gr G H1 H) D) H H' hi g1 g2 y
    refine k3 _ _ fun σ' hS => ⟨hw i _ σ' hS, ?_⟩
    have gx : Ex G (gr (but (gr G H1 H) D) H H') := ((ex_gr (H2 := H2) a).trans g1).trans (ex_gr g2)
    have gx' : Ex (gr (but (gr G H1 H) D) H H') H' := gr_ex g2 e3
    have step : ∀ {H5 : Hp}, (∀ b o, b ≠ D → H b = some o → H5 b = some o) → Ex (but (gr G H1 H) D) (but (gr G H1 H5) D) := fun {H5} k b o e => by
      have ne : b ≠ D := fun z => by rw [z, but_self] at e; cases e
      rw [but_ne ne] at e ⊢
      cases r : H1 b with
      | none => rw [gr_new r] at e ⊢; exact k b o ne e
      | some u => rw [gr_old r] at e ⊢; exact e
    refine ht i _ σ' hi gx hS H' gx' _ fun H3 e4 => ?_
    cases hp : p i with
    | true =>
      refine he i _ σ' hi gx hS hp H3 (gx'.trans e4) _ fun yv H4 e5 zy => ⟨acc, e5 _ _ (e4 _ _ (e3 _ _ hacc)), Nat.lt_of_lt_of_le (by rw [zacc.1]; have := givenD_len i p f; omega) (line_of (Nat.le_refl 100000)), Ex.mut (((eh.trans e3).trans e4).trans e5) hD, _, upd_same, ?_⟩
      rw [givenD_yes hp]
      refine DsA.append (zacc.mono (step fun b o nb hb => by rw [upd_ne nb]; exact e5 _ _ (e4 _ _ (e3 _ _ hb)))) (.cons (zy.mono fun b o hb => ?_) .nil)
      have ne : b ≠ D := fun z => by
        subst z
        rw [gr_old (e4 _ _ (e3 _ _ hacc)), gr_old hacc, but_self] at hb
        cases hb
      rw [but_ne ne]
      have old4 : H4 b = some o := (gr_ex (gx'.trans e4) e5) b o hb
      cases r1 : H1 b with
      | none => rw [gr_new r1, upd_ne ne]; exact old4
      | some u1 =>
        have r2 : H b = some u1 := (e2.trans eh) b u1 r1
        rw [gr_old r1]
        rw [gr_old (e4 _ _ (e3 _ _ r2)), gr_old r2, but_ne ne, gr_old r1] at hb
        exact hb
    | false =>
      refine ⟨(eh.trans e3).trans e4, acc, e4 _ _ (e3 _ _ hacc), ?_⟩
      rw [givenD_no hp]
      exact zacc.mono (step fun b o nb hb => e4 _ _ (e3 _ _ hb))
  · obtain ⟨eh, acc, hacc, zacc⟩ := h
    exact q D acc H' (e2.trans eh) hD1 hacc zacc
theorem getD_of {i : Nat} (h : ds[i]? = some d) : ds.getD i .none = d := by
  rw [List.getD_eq_getElem?_getD, h]
  rfl
theorem range_getD (F : PyData → PyData) : ∀ ds : List PyData, (List.range ds.length).map (fun i => F (ds.getD i .none)) = ds.map F := fun ds => by
  apply List.ext_getElem?
  intro i
  rw [List.getElem?_map, List.getElem?_map]
  by_cases hi : i < ds.length
  · rw [List.getElem?_range hi, List.getElem?_eq_getElem hi]
    simp [hi]
  · rw [List.getElem?_eq_none (by simpa using hi), List.getElem?_eq_none (by simpa using hi)]
    rfl
theorem filter_getD (p : PyData → Bool) (F : PyData → PyData) : ∀ ds : List PyData, ((List.range ds.length).filter (fun i => p (ds.getD i .none))).map (fun i => F (ds.getD i .none)) = (ds.filter p).map F := fun ds => by
  have h1 : ds = (List.range ds.length).map (fun i => ds.getD i .none) := (by rw [range_getD (fun d => d)]; simp)
  conv => rhs; rw [h1]
  rw [List.filter_map, List.map_map]
  rfl
/-- over a list, one name -/
theorem evn_lcL {j : Nat} {vs : List Nat} (F : PyData → PyData) (h : EvD tl σ G (.list ds)) (hz : ds.length ≤ 40000) (hw : ∀ x, wipe ((wipe σ vs).set j (some x)) vs = wipe σ vs)
    (he : ∀ Gx v d, Ex G Gx → d ∈ ds → Ds Gx v d → EvD te ((wipe σ vs).set j (some v)) Gx (F d)) : EvN (tLc (iList K tl) (gName j) tYes te vs) σ G (ds.map F) := by
  have := evn_lc (tt := tYes) (te := te) (vs := vs) (src_list (K := K) (j := j) h) hz (fun _ => true) (fun i => F (ds.getD i .none)) (fun i Gx σ' hS => by
      obtain ⟨v, d, _, _, rfl⟩ := hS
      exact hw v) (fun i Gx σ' _ _ _ H1 _ Q q => q H1 (Ex.refl _)) (fun i Gx σ' _ g hS _ => by
      obtain ⟨v, d, hd, zd, rfl⟩ := hS
      rw [getD_of hd]
      exact he Gx v d g (List.mem_of_getElem? hd) zd)
  rwa [givenD_all, range_getD] at this
/-- over a tuple -/
theorem evn_lcT {j : Nat} {vs : List Nat} (F : PyData → PyData) (h : EvD tl σ G (.tuple ds)) (hz : ds.length ≤ 40000) (hw : ∀ x, wipe ((wipe σ vs).set j (some x)) vs = wipe σ vs)
    (he : ∀ Gx v d, Ex G Gx → d ∈ ds → Ds Gx v d → EvD te ((wipe σ vs).set j (some v)) Gx (F d)) : EvN (tLc (iTup K tl) (gName j) tYes te vs) σ G (ds.map F) := by
  have := evn_lc (tt := tYes) (te := te) (vs := vs) (src_tup (K := K) (j := j) h) hz (fun _ => true) (fun i => F (ds.getD i .none)) (fun i Gx σ' hS => by
      obtain ⟨v, d, _, _, rfl⟩ := hS
      exact hw v) (fun i Gx σ' _ _ _ H1 _ Q q => q H1 (Ex.refl _)) (fun i Gx σ' _ g hS _ => by
      obtain ⟨v, d, hd, zd, rfl⟩ := hS
      rw [getD_of hd]
      exact he Gx v d g (List.mem_of_getElem? hd) zd)
  rwa [givenD_all, range_getD] at this
theorem evn_lcLif {j : Nat} {vs : List Nat} (p : PyData → Bool) (F : PyData → PyData) (h : EvD tl σ G (.list ds)) (hz : ds.length ≤ 40000) (hw : ∀ x, wipe ((wipe σ vs).set j (some x)) vs = wipe σ vs)
    (ht : ∀ Gx v d, Ex G Gx → d ∈ ds → Ds Gx v d → EvT tt ((wipe σ vs).set j (some v)) Gx (p d))
    (he : ∀ Gx v d, Ex G Gx → d ∈ ds → Ds Gx v d → EvD te ((wipe σ vs).set j (some v)) Gx (F d)) : EvN (tLc (iList K tl) (gName j) tt te vs) σ G ((ds.filter p).map F) := by
  have := evn_lc (tt := tt) (te := te) (vs := vs) (src_list (K := K) (j := j) h) hz (fun i => p (ds.getD i .none)) (fun i => F (ds.getD i .none)) (fun i Gx σ' hS => by
      obtain ⟨v, d, _, _, rfl⟩ := hS
      exact hw v) (fun i Gx σ' _ g hS => by
      obtain ⟨v, d, hd, zd, rfl⟩ := hS
      rw [getD_of hd]
      exact ht Gx v d g (List.mem_of_getElem? hd) zd) (fun i Gx σ' _ g hS _ => by
      obtain ⟨v, d, hd, zd, rfl⟩ := hS
      rw [getD_of hd]
      exact he Gx v d g (List.mem_of_getElem? hd) zd)
  unfold givenD at this
  rwa [filter_getD] at this
theorem evn_lcR {j : Nat} {n : Int} {vs : List Nat} (F : Nat → PyData) (h : EvD tl σ G (.int n)) (hn : n ≤ 40000) (hm : -100000 ≤ n) (hw : ∀ x, wipe ((wipe σ vs).set j (some x)) vs = wipe σ vs)
    (he : ∀ Gx (i : Nat), Ex G Gx → (i : Int) < n → EvD te ((wipe σ vs).set j (some (.int (i : Int)))) Gx (F i)) : EvN (tLc (iRng1 (tCons tl tNil)) (gName j) tYes te vs) σ G ((List.range n.toNat).map F) := by
  have := evn_lc (tt := tYes) (te := te) (vs := vs) (src_range (j := j) h (by omega) hm) (by omega) (fun _ => true) F (fun i Gx σ' hS => by
      cases hS
      exact hw _) (fun i Gx σ' _ _ _ H1 _ Q q => q H1 (Ex.refl _)) (fun i Gx σ' hi g hS _ => by
      cases hS
      exact he Gx i g (by omega))
  rwa [givenD_all] at this

/-! ### statements -/
variable {D : Ends} {tu tw : TS} {g : TG} {G0 H0 H : Hp}
theorem z_set {i : Nat} (a : Ex G H) (h : EvD te σ G d) (k : ∀ v H2, Ex H H2 → Ds (gr G H H2) v d → D.nx (σ.set i (some v)) H2) : tAsg te (gName i) D σ H := h H a _ k
theorem z_setI {i : Nat} {n : Int} (a : Ex G H) (h : EvD te σ G (.int n)) (k : ∀ H2, Ex H H2 → D.nx (σ.set i (some (.int n))) H2) : tAsg te (gName i) D σ H := h H a _ fun v H2 e z => by
  show D.nx (σ.set i (some v)) H2
  rw [z.ofInt]; exact k H2 e
theorem z_setB {i : Nat} {n : Bool} (a : Ex G H) (h : EvD te σ G (.bool n)) (k : ∀ H2, Ex H H2 → D.nx (σ.set i (some (.bl n))) H2) : tAsg te (gName i) D σ H := h H a _ fun v H2 e z => by
  show D.nx (σ.set i (some v)) H2
  rw [z.ofBl]; exact k H2 e
theorem z_setZ {i : Nat} (a : Ex G H) (h : EvD te σ G .none) (k : ∀ H2, Ex H H2 → D.nx (σ.set i (some .non)) H2) : tAsg te (gName i) D σ H := h H a _ fun v H2 e z => by
  show D.nx (σ.set i (some v)) H2
  rw [z.ofNon]; exact k H2 e
theorem z_setN {i : Nat} (a : Ex G H) (h : EvN te σ G ds) (k : ∀ p vs H2, Ex H H2 → H p = none → H2 p = some (.lst vs) → DsA (but (gr G H H2) p) vs ds → D.nx (σ.set i (some (.ref p))) H2) : tAsg te (gName i) D σ H := h H a _ k
theorem z_ret (a : Ex G H) (h : EvD te σ G d) (k : ∀ v H2, Ex H H2 → Ds (gr G H H2) v d → D.rt v H2) : tRet te D σ H := h H a _ k
theorem z_retN (a : Ex G H) (h : EvN te σ G ds) (k : ∀ p vs H2, Ex H H2 → H p = none → H2 p = some (.lst vs) → DsA (but (gr G H H2) p) vs ds → D.rt (.ref p) H2) : tRet te D σ H := h H a _ k
theorem z_if {b : Bool} (a : Ex G H) (h : EvT t σ G b) (h1 : b = true → ∀ H2, Ex H H2 → tu D σ H2) (h2 : b = false → ∀ H2, Ex H H2 → tw D σ H2) : tIfS t tu tw D σ H := h H a _ fun H2 e => by
  cases b with
  | true => exact h1 rfl H2 e
  | false => exact h2 rfl H2 e
theorem z_drop (a : Ex G H) (h : EvD te σ G d) (k : ∀ H2, Ex H H2 → D.nx σ H2) : tDrop te D σ H := h H a _ fun v H2 e _ => k H2 e
/-- xs.append(e), xs in slot i, its list at l ours -/
theorem z_app {i : Nat} {l : Addr} {xs : List V} (a : Ex G H) (hs : σ[i]? = some (some (.ref l))) (hl : H l = some (.lst xs)) (h : EvD te σ G d) (hz : xs.length < 100000)
    (k : ∀ v H2, Ex H H2 → Ds (gr G H H2) v d → D.nx σ (upd H2 l (.lst (xs ++ [v])))) : tDrop (tBM K "list" rAppend (tVar i) (tCons te tNil)) D σ H :=
  ⟨_, hs, .inl ⟨rfl, xs, SqL.of hl⟩, h H a _ fun v H2 e z => ⟨l, xs, v, rfl, rfl, e _ _ hl, Nat.lt_of_lt_of_le hz (line_of (Nat.le_refl _)), k v H2 e z⟩⟩
/-- for: the word Pv by turn, slots, the heap's facts, the heap -/
abbrev Px (Pv : Nat → St → Hp → Hp → Prop) (i : Nat) : St → Hp → Prop := fun σ H => ∃ G, Pv i σ G H
theorem z_for {wi : TI} {n : Nat} {S : Nat → Hp → St → St → Prop} (a : Ex G H) (hs : Src wi g σ G n S)
    (k : ∀ H2, Ex H H2 → ∃ Pv : Nat → St → Hp → Hp → Prop, Pv 0 σ (gr G H H2) H2 ∧ (∀ i σ' G' H', Pv i σ' G' H' → Ex (gr G H H2) G' ∧ Ex G' H') ∧
      (∀ i σ' G' H' H3 σ3, i < n → Pv i σ' G' H' → Ex H' H3 → S i (gr G' H' H3) σ' σ3 → tu { D with nx := Px Pv (i + 1), ct := Px Pv (i + 1), bk := D.nx } σ3 H3) ∧
      (∀ σ' G' H', Pv n σ' G' H' → D.nx σ' H')) : tFor wi g tu D σ H := hs H a _ fun J H2 Gd Y e2 wk gd turn => by
  obtain ⟨Pv, h0, hG, ht, hd⟩ := k H2 e2
  refine for_it wk (Px Pv) ⟨_, h0⟩ ?_ ?_ ?_
  · rintro i σ' H' _ ⟨G', p⟩
    obtain ⟨g1, g2⟩ := hG i σ' G' H' p
    exact gd H' (g1.trans g2)
  · rintro i x σ' H' H'' hi ⟨G', p⟩ y
    obtain ⟨g1, g2⟩ := hG i σ' G' H' p
    obtain ⟨e3, k3⟩ := turn i x G' H' H'' hi g1 g2 y
    exact k3 _ _ fun σ2 hS => ht i σ' G' H' H'' σ2 hi p e3 hS
  · rintro σ' H' ⟨G', p⟩
    exact hd σ' G' H' p
/-- calls -/
def spD (R : List PyData → PyData → Prop) : Sp := fun vs H Q _ => ∃ G ds d, Ex G H ∧ DsA G vs ds ∧ R ds d ∧ ∀ v H2, Ex H H2 → Ds (gr G H H2) v d → Q v H2
def spN (R : List PyData → List PyData → Prop) : Sp := fun vs H Q _ => ∃ G ds es, Ex G H ∧ DsA G vs ds ∧ R ds es ∧ ∀ p xs H2, Ex H H2 → H p = none → H2 p = some (.lst xs) → DsA (but (gr G H H2) p) xs es → Q (.ref p) H2
theorem evd_call {ta : TA} {E : XK} {R : List PyData → PyData → Prop} (ha : EvAr ta σ G ds) (hr : R ds d) : EvD (tCall (spD R) [] E ta) σ G d := fun H1 a Q q => ha H1 a _ fun vs H2 e2 z => by
  rw [List.append_nil]
  exact ⟨gr G H1 H2, ds, d, gr_ex a e2, z, hr, fun v H3 e3 zv => q v H3 (e2.trans e3) (by rw [gr_gr e2 e3] at zv; exact zv)⟩
theorem evn_call {ta : TA} {E : XK} {R : List PyData → List PyData → Prop} (ha : EvAr ta σ G ds) (hr : R ds es) : EvN (tCall (spN R) [] E ta) σ G es := fun H1 a Q q => ha H1 a _ fun vs H2 e2 z => by
  rw [List.append_nil]
  exact ⟨gr G H1 H2, ds, es, gr_ex a e2, z, hr, fun p xs H3 e3 hp h3 zv => q p xs H3 (e2.trans e3) (none_of_ex e2 hp) h3 (by rw [gr_gr e2 e3] at zv; exact zv)⟩
end
end Gs

/-! Defs and methods by name: what stands in the text (FunH, MetH), what is promised (Has, HasM). -/
namespace Gs
open PySem PySem.Spec PyProof.Rows L2 Evl

structure Has (P : Program) (w : World) (K : PySem.W.Frag) (mg : Str → Option Value) (base : Heap) (CX : CXT) (k : Nat) (x : Str) (ps : List Str) (sp : Sp) : Prop where
  ex : ∃ f fd, FnOk P w K mg base CX k f fd ps sp ∧ mg x = some (.ref f) ∧ PySem.W.keepIn K (.ref f) = true ∧ Binds K fd ps []
structure HasM (P : Program) (w : World) (K : PySem.W.Frag) (mg : Str → Option Value) (base : Heap) (CX : CXT) (k : Nat) (C : Addr) (m : Str) (ps : List Str) (sp : Sp) : Prop where
  ex : ∃ f fd, FnOk P w K mg base CX k f fd ps sp ∧ Meth K C m f ∧ Binds K fd ps []
structure HasC (P : Program) (w : World) (K : PySem.W.Frag) (mg : Str → Option Value) (base : Heap) (CX : CXT) (k : Nat) (C : Addr) (x : Str) (ps : List Str) (sp : Sp) : Prop where
  ex : ∃ f fd, FnOk P w K mg base CX k f fd ps sp ∧ Mk K C f ∧ mg x = some (.ref C) ∧ Binds K fd ps []
structure FunH (K : PySem.W.Frag) (mg : Str → Option Value) (x qual : Str) (st : Stmt) (ps : List Str) : Prop where
  ex : ∃ f fd, Fun K x qual st f fd ∧ mg x = some (.ref f) ∧ Binds K fd ps []
structure MetH (K : PySem.W.Frag) (C : Addr) (m qual : Str) (st : Stmt) (ps : List Str) : Prop where
  ex : ∃ f fd, Fun K m qual st f fd ∧ Meth K C m f ∧ Binds K fd ps []
structure IniH (K : PySem.W.Frag) (mg : Str → Option Value) (C : Addr) (x qual : Str) (st : Stmt) (ps : List Str) : Prop where
  ex : ∃ f fd, Fun K "__init__" qual st f fd ∧ Mk K C f ∧ mg x = some (.ref C) ∧ Binds K fd ps []
section
variable {P : Program} {w : World} {K : PySem.W.Frag} {mg : Str → Option Value} {base : Heap} {N ps : List Str} {k : Nat} {sp : Sp} {x qual m : Str} {st : Stmt} {C : Addr}
theorem FunH.has (F : FunH K mg x qual st ps) (S : FnScope N ps (defScope st)) (len : ∀ vs H Q E, sp vs H Q E → vs.length = ps.length)
    (hbody : ∀ (f : Addr) (cdv : Value) (A : Around) (outer : List Env) (s : Shared) (H : Hp) (vs : List V) (Q : VK) (E : XK), Room k (A.deeper (envOfC qual (defScope st) s.heap.objs.size f cdv)) → sp vs H Q E →
      ∃ t, PSs (cxOf CX0 P w K mg base N qual (defScope st) f cdv A outer s H E).nox (defBody st) t ∧ t { nx := fun _ H' => Q .non H', rt := Q } (start N vs) H) : Has P w K mg base CX0 (k + 1) x ps sp := by
  obtain ⟨f, fd, F, hm, hb⟩ := F.ex
  exact ⟨f, fd, F.ok S len (fun cdv A outer s H vs Q E hr h => hbody f cdv A outer s H vs Q E hr h), hm, F.kp, hb⟩
theorem MetH.has (F : MetH K C m qual st ps) (S : FnScope N ps (defScope st)) (len : ∀ vs H Q E, sp vs H Q E → vs.length = ps.length)
    (hbody : ∀ (f : Addr) (cdv : Value) (A : Around) (outer : List Env) (s : Shared) (H : Hp) (vs : List V) (Q : VK) (E : XK), Room k (A.deeper (envOfC qual (defScope st) s.heap.objs.size f cdv)) → sp vs H Q E →
      ∃ t, PSs (cxOf CX0 P w K mg base N qual (defScope st) f cdv A outer s H E).nox (defBody st) t ∧ t { nx := fun _ H' => Q .non H', rt := Q } (start N vs) H) : HasM P w K mg base CX0 (k + 1) C m ps sp := by
  obtain ⟨f, fd, F, hm, hb⟩ := F.ex
  exact ⟨f, fd, F.ok S len (fun cdv A outer s H vs Q E hr h => hbody f cdv A outer s H vs Q E hr h), hm, hb⟩
theorem IniH.has (F : IniH K mg C x qual st ps) (S : FnScope N ps (defScope st)) (len : ∀ vs H Q E, sp vs H Q E → vs.length = ps.length)
    (hbody : ∀ (f : Addr) (cdv : Value) (A : Around) (outer : List Env) (s : Shared) (H : Hp) (vs : List V) (Q : VK) (E : XK), Room k (A.deeper (envOfC qual (defScope st) s.heap.objs.size f cdv)) → sp vs H Q E →
      ∃ t, PSs (cxOf CX0 P w K mg base N qual (defScope st) f cdv A outer s H E).nox (defBody st) t ∧ t { nx := fun _ H' => Q .non H', rt := Q } (start N vs) H) : HasC P w K mg base CX0 (k + 1) C x ps sp := by
  obtain ⟨f, fd, F, hm, hx, hb⟩ := F.ex
  exact ⟨f, fd, F.ok S len (fun cdv A outer s H vs Q E hr h => hbody f cdv A outer s H vs Q E hr h), hm, hx, hb⟩
end
section
variable {X : Cx} {CX : CXT} {k : Nat} {C : Addr} {ps : List Str} {sp : Sp} {E : XK} {x m : Str} {p pos apos : Pos} {e o : Expr} {es : List Expr} {ta : TE} {t : TA}
/-- f(e, ..) -/
theorem pe_f (h : Has X.prog X.w X.K X.mg X.base CX k x ps sp) (hr : Room k X.A) (ha : PA X (e :: es) t) (hx : Passes CX X E := by exact pass0) (hg : Gl X x := by rfl) (hdb : (x == ("__debug__" : Str)) = false := by decide)
    (he : starEach (e :: es) X.env = (false, eval e X.env) :: starEach es X.env := by rfl) (hpl : (backTo pos (starEach es X.env)).any (·.1) = false := by rfl) : PE X (.Call (.Name x p) (e :: es) [] pos) (tCall sp [] E t) := by
  refine ⟨fun pins s σ H Q I hw => ?_⟩
  obtain ⟨f, fd, F, hm, hk, hb⟩ := h.ex
  exact (pe_call F hr hg hm hk hb .nil hx ha hdb he hpl).run pins s σ H Q I hw
/-- o.m(e, ..) -/
theorem pe_m {pl : Sem Bool} (ho : PE X o ta) (c : Cls X.K C) (h : HasM X.prog X.w X.K X.mg X.base CX k C m ps sp) (hr : Room k X.A) (ha : PA X (e :: es) t) (hx : Passes CX X E := by exact pass0)
    (hst : starEach (e :: es) X.env = (false, eval e X.env) :: starEach es X.env := by rfl) (hpl : (backTo pos (starEach es X.env)).any (·.1) = false := by rfl)
    (ht : eval (.Call (.Attribute o m apos) (e :: es) [] pos) X.env = (do
      let ov ← eval o X.env
      standAt apos.atName
      let (f, first) ← holding [ov] (getMethod ov m pl)
      callWith pos f first (backTo pos (starEach (e :: es) X.env)) (backToKw pos (keywordEach [] X.env))) := by rfl) :
    PE X (.Call (.Attribute o m apos) (e :: es) [] pos) (tMeth C m sp [] E ta t) := by
  refine ⟨fun pins s σ H Q I hw => ?_⟩
  obtain ⟨f, fd, F, hm, hb⟩ := h.ex
  exact (pe_meth (pl := pl) ho c hm F hr hb .nil hx ha hst hpl ht).run pins s σ H Q I hw
/-- C(e, ..) -/
theorem pe_c (h : HasC X.prog X.w X.K X.mg X.base CX k C x ps sp) (hr : Room (k + 1) X.A) (ha : PA X (e :: es) t) (hx : Passes CX X E := by exact pass0) (hg : Gl X x := by rfl) (hdb : (x == ("__debug__" : Str)) = false := by decide)
    (he : starEach (e :: es) X.env = (false, eval e X.env) :: starEach es X.env := by rfl) (hpl : (backTo pos (starEach es X.env)).any (·.1) = false := by rfl) : PE X (.Call (.Name x p) (e :: es) [] pos) (tMake C sp [] E t) := by
  refine ⟨fun pins s σ H Q I hw => ?_⟩
  obtain ⟨f, fd, F, hM, hm, hb⟩ := h.ex
  exact (pe_make hM F hr hg hm hb .nil hx ha hdb he hpl).run pins s σ H Q I hw
/-- the slots of a target's names, said as a list -/
theorem pgs_names {j : Nat} {js : List Nat} {t : Expr} {ts : List Expr} (h : PG X t (gName j)) (r : PGs X ts (gNames js)) (hs : (assignEach (t :: ts) X.env).map (·.2) = assign t X.env :: (assignEach ts X.env).map (·.2) := by rfl) : PGs X (t :: ts) (gNames (j :: js)) := pgs_cons h r hs
theorem pgs_done : PGs X [] (gNames []) := pgs_nil
/-- the built-ins' rules under names of ours -/
theorem cb_len : CallR X (.builtin "len") (rLenS X.K) := call_len_seq
theorem cb_list : CallR X (.type "list") (rListS X.K) := call_list_of
theorem cb_max2 (hc : X.calm = true) : CallR X (.builtin "max") rMax2 := call_max2 hc
theorem cb_min2 (hc : X.calm = true) : CallR X (.builtin "min") rMin2 := call_min2 hc
def rMin3 : List V → Hp → VK → Prop := fun xs H Q => ∃ i j k : Int, xs = [.int i, .int j, .int k] ∧ Q (.int (min i (min j k))) H
theorem cb_min3 (hc : X.calm = true) : CallR X (.builtin "min") rMin3 := by
  intro pins s σ H xs us Q I r h
  obtain ⟨i, j, l, rfl, q⟩ := h
  refine call_min3Nu hc pins s σ H _ us Q I r ⟨_, _, _, .int (min i (min j l)), rfl, ?_, q⟩
  have two : ∀ a b : Int, nuMin2 (.int a) (.int b) = some (.int (min a b)) := fun a b => by
    show some (if decide (b < a) = true then V.int b else V.int a) = some (.int (min a b))
    by_cases h : b < a
    · rw [decide_eq_true h, if_pos rfl, show min a b = b by omega]
    · rw [decide_eq_false h, if_neg Bool.false_ne_true, show min a b = a by omega]
  show (nuMin2 (.int i) (.int j)).bind (fun m => nuMin2 m (.int l)) = _
  rw [two]
  show nuMin2 (.int (min i j)) (.int l) = _
  rw [two, show min (min i j) l = min i (min j l) by omega]
end
/-! the rules that speak of the written part, it said -/
section
variable {X : Cx} (K : PySem.W.Frag)
theorem ix_listK (h : X.K = K := by rfl) : IxR X (rIxL K) := by subst h; exact ix_list
theorem ix_tupK (h : X.K = K := by rfl) : IxR X (rIxT K) := by subst h; exact ix_tup
theorem sl_listK (h : X.K = K := by rfl) : SlR X (rSlL K) := by subst h; exact sl_list
theorem cb_lenK (h : X.K = K := by rfl) : CallR X (.builtin "len") (rLenS K) := by subst h; exact call_len_seq
theorem cb_listK (h : X.K = K := by rfl) : CallR X (.type "list") (rListS K) := by subst h; exact call_list_of
theorem cr_sumK (h : X.K = K := by rfl) (hc : X.calm = true := by rfl) : CallR X (.builtin "sum") (rSum K) := by subst h; exact cr_sum hc
theorem cr_allK (h : X.K = K := by rfl) (hc : X.calm = true := by rfl) : CallR X (.builtin "all") (rAll K) := by subst h; exact cr_all hc
theorem cr_anyK (h : X.K = K := by rfl) (hc : X.calm = true := by rfl) : CallR X (.builtin "any") (rAny K) := by subst h; exact cr_any hc
theorem cr_maxK (h : X.K = K := by rfl) (hc : X.calm = true := by rfl) : CallR X (.builtin "max") (rMax K) := by subst h; exact cr_max hc
theorem cr_sortedK (h : X.K = K := by rfl) : CallR X (.builtin "sorted") (rSortedI K) := by subst h; exact cr_sortedI
theorem call_isiKK (h : X.K = K := by rfl) : CallR X (.builtin "isinstance") (rIsi K) := by subst h; exact call_isi
theorem op_inK (h : X.K = K := by rfl) : OpR X (compareOp .In) (rIn K false) := by subst h; exact op_in_seq
theorem op_eqDK (hu : X.A.units + 64 < cLine) (h : X.K = K := by rfl) : OpR X (compareOp .Eq) (rEqD K) := by subst h; exact op_eqD hu
theorem op_neDK (hu : X.A.units + 64 < cLine) (h : X.K = K := by rfl) : OpR X (compareOp .NotEq) (rNeD K) := by subst h; exact op_neD hu
theorem pg_tupK {es : List Expr} {k : Nat} {t : TGs} {n : Nat} {pos : Pos} (h : PGs X es t) (hK : X.K = K := by rfl) (hc : X.calm = true := by rfl)
    (hn : (assignEach es X.env).length = n := by rfl) (hst : (assignEach es X.env).findIdx? (·.1) = none := by rfl) : PG X (.Tuple es k pos) (gTup K n t) := by subst hK; exact pg_tup hc h hn hst
theorem pi_listK {tg l : Expr} {tl : TE} (hl : PE X l tl) (h : X.K = K := by rfl) : PI X tg l (iList K tl) := by subst h; exact pi_list hl
theorem pi_tupK {tg l : Expr} {tl : TE} (hl : PE X l tl) (h : X.K = K := by rfl) : PI X tg l (iTup K tl) := by subst h; exact pi_tup hl
theorem pi_enumK {e : Expr} {ta : TA} {p pos tpos : Pos} {elts : List Expr} {kk : Nat} (hm : X.mg "enumerate" = none) (ha : PA X [e] ta) (h : X.K = K := by rfl) (hg : Gl X "enumerate" := by rfl) (hs : starEach [e] X.env = [(false, eval e X.env)] := by rfl) :
    PI X (.Tuple elts kk tpos) (.Call (.Name "enumerate" p) [e] [] pos) (iEnum K ta) := by subst h; exact pi_enum hg hm ha hs
theorem pi_zipK {e e2 : Expr} {ta : TA} {p pos tpos : Pos} {elts : List Expr} {kk : Nat} (hm : X.mg "zip" = none) (ha : PA X [e, e2] ta) (h : X.K = K := by rfl) (hg : Gl X "zip" := by rfl)
    (hs : starEach [e, e2] X.env = (false, eval e X.env) :: starEach [e2] X.env := by rfl) (hpl : (backTo pos (starEach [e2] X.env)).any (·.1) = false := by rfl) :
    PI X (.Tuple elts kk tpos) (.Call (.Name "zip" p) [e, e2] [] pos) (iZip K ta) := by subst h; exact pi_zip hg hm ha hs hpl
theorem pi_revK {tg e : Expr} {ta : TA} {p pos : Pos} (hm : X.mg "reversed" = none) (ha : PA X [e] ta) (h : X.K = K := by rfl) (hg : Gl X "reversed" := by rfl) (hs : starEach [e] X.env = [(false, eval e X.env)] := by rfl) :
    PI X tg (.Call (.Name "reversed" p) [e] [] pos) (iRev K ta) := by subst h; exact pi_reversed hg hm ha hs
theorem pe_revLK {e : Expr} {te : TE} {k : Nat} {p1 p2 p3 pos : Pos} (he : PE X e te) (h : X.K = K := by rfl) : PE X (.Subscript e (.Slice none none (some (.UnaryOp .USub (.Constant (.int 1) k p1) p2)) p3) pos) (tRevL K te) := by subst h; exact pe_revL he
theorem pe_fldK {e : Expr} {ta : TE} {f : Str} {pos : Pos} (he : PE X e ta) (h : X.K = K := by rfl) (hb : attributeBase e f X.env (eval e X.env) = eval e X.env := by rfl) : PE X (.Attribute e f pos) (tFld K ta f) := by subst h; exact pe_fld he hb
theorem ps_fldK {o value : Expr} {ta tv : TE} {f : Str} {pos pos' : Pos} (ha : PE X o ta) (hv : PE X value tv) (h : X.K = K := by rfl) (hs : swapsWith value (some (.Attribute o f pos')) pos.line X.env = pure false := by rfl) :
    PS X (.Assign [.Attribute o f pos'] value pos) (sFld K ta tv f) := by subst h; exact ps_fld ha hv hs
end
/-- the built-ins that the text calls are still the built-ins -/
structure Blt (mg : Str → Option Value) : Prop where
  len : mg "len" = none
  sum : mg "sum" = none
  max : mg "max" = none
  min : mg "min" = none
  all : mg "all" = none
  any : mg "any" = none
  list : mg "list" = none
  range : mg "range" = none
  enumerate : mg "enumerate" = none
  zip : mg "zip" = none
  reversed : mg "reversed" = none
  isinstance : mg "isinstance" = none
  int : mg "int" = none
  bool : mg "bool" = none
  tuple : mg "tuple" = none
  sorted : mg "sorted" = none
end Gs

namespace Gs
open PySem PySem.Spec PyProof.Rows L2 Evl
/-! ### isinstance of data -/
def tyD : PyData → String
  | .none => "NoneType" | .bool _ => "bool" | .int _ => "int" | .str _ => "str" | .list _ => "list" | .tuple _ => "tuple" | .dict _ => "dict"
theorem Ds.ty {K : PySem.W.Frag} {H : Hp} {v : V} {d : PyData} (h : Ds H v d) : TyX K H v (.type (tyD d)) := by
  cases h with
  | non => exact .base .non
  | bl b => exact .base (.bl b)
  | int i => exact .base (.int i)
  | str x => exact .base (.str x)
  | lst h1 _ _ => exact .base (.lst h1)
  | tup h1 _ _ => exact .base (.tup h1)
  | dct h1 => exact .base (.dK h1)
section
variable {K : PySem.W.Frag} {σ : L2.St} {G : Hp} {ta : TE} {d : PyData}
theorem evd_isi {n : String} {b : Bool} (ha : EvD ta σ G d) (hb : kitB (tyD d) n = some b) : EvD (tCB (rIsi K) (tCons ta (tCons (tC (.ty n)) tNil))) σ G (.bool b) := fun H1 a Q q =>
  ha H1 a _ fun v H2 e z => ⟨v, .ty n, _, _, b, rfl, .ty n, (z.mono (gr_ex a e)).ty, kit_ty hb, q _ H2 e (.bl b)⟩
end
/-! ### how a body ends -/
section
variable {G0 H0 G H : Hp} {d : PyData} {ds : List PyData} {Q : VK}
theorem Up.retD (u : Up G0 H0 G H) (k : ∀ v H2, Ex H0 H2 → Ds (gr G0 H0 H2) v d → Q v H2) : ∀ v H2, Ex H H2 → Ds (gr G H H2) v d → Q v H2 := fun v H2 e z => k v H2 (u.data e).h ((u.data e).fin z)
theorem Up.retN (u : Up G0 H0 G H) (k : ∀ p xs H2, Ex H0 H2 → H0 p = none → H2 p = some (.lst xs) → DsA (but (gr G0 H0 H2) p) xs ds → Q (.ref p) H2) :
    ∀ p xs H2, Ex H H2 → H p = none → H2 p = some (.lst xs) → DsA (but (gr G H H2) p) xs ds → Q (.ref p) H2 := fun p xs H2 e hp h2 z => k p xs H2 (u.data e).h (none_of_ex u.h hp) h2 (z.mono (but_mono (u.data e).ex))
/-- the value in hand is handed back -/
theorem Up.outD (u : Up G0 H0 G H) (k : ∀ v H2, Ex H0 H2 → Ds (gr G0 H0 H2) v d → Q v H2) {v : V} (z : Ds G v d) : Q v H := k v H u.h (u.fin z)
theorem Up.outN (u : Up G0 H0 G H) (k : ∀ p xs H2, Ex H0 H2 → H0 p = none → H2 p = some (.lst xs) → DsA (but (gr G0 H0 H2) p) xs ds → Q (.ref p) H2) {p : Addr} {xs : List V} (h0 : H0 p = none) (g0 : G p = none) (hp : H p = some (.lst xs)) (z : DsA G xs ds) : Q (.ref p) H :=
  k p xs H u.h h0 hp (u.finN g0 z)
theorem DsA.one {vs : List V} (h : DsA H vs [d]) : ∃ v, vs = [v] ∧ Ds H v d := by
  obtain ⟨v, vr, rfl, h1, h2⟩ := h.uncons
  exact ⟨v, by rw [h2.unnil], h1⟩
theorem DsA.two {vs : List V} {d1 d2 : PyData} (h : DsA H vs [d1, d2]) : ∃ v w, vs = [v, w] ∧ Ds H v d1 ∧ Ds H w d2 := by
  obtain ⟨v, vr, rfl, h1, h2⟩ := h.uncons
  obtain ⟨w, rfl, h3⟩ := h2.one
  exact ⟨v, w, rfl, h1, h3⟩
theorem DsA.three {vs : List V} {d1 d2 d3 : PyData} (h : DsA H vs [d1, d2, d3]) : ∃ v w x, vs = [v, w, x] ∧ Ds H v d1 ∧ Ds H w d2 ∧ Ds H x d3 := by
  obtain ⟨v, vr, rfl, h1, h2⟩ := h.uncons
  obtain ⟨w, x, rfl, h3, h4⟩ := h2.two
  exact ⟨v, w, x, rfl, h1, h3, h4⟩
theorem DsA.four {vs : List V} {d1 d2 d3 d4 : PyData} (h : DsA H vs [d1, d2, d3, d4]) : ∃ v w x y, vs = [v, w, x, y] ∧ Ds H v d1 ∧ Ds H w d2 ∧ Ds H x d3 ∧ Ds H y d4 := by
  obtain ⟨v, vr, rfl, h1, h2⟩ := h.uncons
  obtain ⟨w, x, y, rfl, h3, h4, h5⟩ := h2.three
  exact ⟨v, w, x, y, rfl, h1, h3, h4, h5⟩
end
/-! ### sizes -/
/-- numbers of at most a thousand bits -/
def big : Nat := 2 ^ 1000
theorem mul_ok {i j : Int} (hi : i.natAbs < 1000 * big) (hj : j.natAbs < 1000 * big) : CMulW i j := by
  have h : 1000 * big < 2 ^ 1010 := by
    show 1000 * 2 ^ 1000 < 2 ^ 1010
    decide +kernel
  exact wide_mul (a := 1010) (b := 1010) (Nat.lt_trans hi h) (Nat.lt_trans hj h) (by decide) (by decide) (by decide)
theorem div_ok {i j : Int} (h0 : 0 < j) (hj : j.natAbs < 1000 * big) : CDivW i j := by
  have h : 1000 * big < 2 ^ 1010 := by
    show 1000 * 2 ^ 1000 < 2 ^ 1010
    decide +kernel
  exact wide_div (b := 1010) h0 (Nat.lt_trans hj h) (by decide) (by decide)
theorem big_1000000 : 1000000 < big := by
  show 1000000 < 2 ^ 1000
  decide +kernel
theorem kit_int_int : kitB "int" "int" = some true := by decide +kernel
theorem kit_bool_int : kitB "bool" "int" = some true := by decide +kernel
theorem kit_none_int : kitB "NoneType" "int" = some false := by decide +kernel
theorem kit_str_int : kitB "str" "int" = some false := by decide +kernel
theorem kit_list_int : kitB "list" "int" = some false := by decide +kernel
theorem kit_dict_int : kitB "dict" "int" = some false := by decide +kernel
theorem kit_dict_tuple : kitB "dict" "tuple" = some false := by decide +kernel
theorem kit_dict_list : kitB "dict" "list" = some false := by decide +kernel
theorem kit_tuple_int : kitB "tuple" "int" = some false := by decide +kernel
theorem kit_int_bool : kitB "int" "bool" = some false := by decide +kernel
theorem kit_bool_bool : kitB "bool" "bool" = some true := by decide +kernel
theorem kit_int_tuple : kitB "int" "tuple" = some false := by decide +kernel
theorem kit_none_tuple : kitB "NoneType" "tuple" = some false := by decide +kernel
theorem kit_list_tuple : kitB "list" "tuple" = some false := by decide +kernel
theorem kit_str_tuple : kitB "str" "tuple" = some false := by decide +kernel
theorem kit_bool_tuple : kitB "bool" "tuple" = some false := by decide +kernel
theorem kit_tuple_tuple : kitB "tuple" "tuple" = some true := by decide +kernel
theorem kit_list_list : kitB "list" "list" = some true := by decide +kernel
theorem kit_tuple_list : kitB "tuple" "list" = some false := by decide +kernel
theorem kit_none_list : kitB "NoneType" "list" = some false := by decide +kernel
theorem kit_str_list : kitB "str" "list" = some false := by decide +kernel
theorem kit_int_list : kitB "int" "list" = some false := by decide +kernel
end Gs
namespace Gs
open PySem L2 Evl
theorem evd_min3 {σ : St} {G : Hp} {ta tb tc : TE} {i j l : Int} (ha : EvD ta σ G (.int i)) (hb : EvD tb σ G (.int j)) (hc : EvD tc σ G (.int l)) : EvD (tCB rMin3 (tCons ta (tCons tb (tCons tc tNil)))) σ G (.int (min i (min j l))) := fun H1 a Q q =>
  ha.seq hb a fun x y H3 e zx zy => (hc.mono (ex_gr (H2 := H3) a)) H3 (gr_ex a e) _ fun z H4 e4 zz => ⟨i, j, l, by rw [zx.ofInt, zy.ofInt, zz.ofInt], q _ H4 (e.trans e4) (.int _)⟩
end Gs

/-! The program's functions, in plain Lean. -/
namespace Gs
open PySem
abbrev Day := Int × Int × Int × Int
abbrev Deed := Int × Int
def dayD (d : Day) : PyData := .tuple [.int d.1, .int d.2.1, .int d.2.2.1, .int d.2.2.2]
def deedD (d : Deed) : PyData := .tuple [.int d.1, .int d.2]
def intsD (l : List Int) : PyData := .list (l.map PyData.int)
def daysD (l : List Day) : PyData := .list (l.map dayD)
def deedsD (l : List Deed) : PyData := .list (l.map deedD)
def isNum : PyData → Bool
  | .int n => decide (0 ≤ n)
  | _ => false
def areNums (d : PyData) (m : Int) : Bool := match d with
  | .tuple xs => decide ((xs.length : Int) = m) && (xs.map isNum).all id
  | _ => false
def nights : Int → List Deed → List Int
  | _, [] => []
  | left, d :: ds => (left + d.1 - d.2) :: nights (left + d.1 - d.2) ds
def leftOf (left : Int) (ds : List Deed) : Int := ds.foldl (fun l d => l + d.1 - d.2) left
def gainD (day : Day) (deed : Deed) : Int := deed.2 * day.2.2.1 - deed.1 * day.1
def gainOf (days : List Day) (dealing : List Deed) : Int := (List.zipWith gainD days dealing).sum
/-- whether a deed can be, behind which left is stored -/
def okDeed (day : Day) (room left : Int) (deed : Deed) : Bool := decide (0 ≤ deed.1) && decide (deed.1 ≤ day.2.1) && (decide (0 ≤ deed.2) && decide (deed.2 ≤ day.2.2.2)) && (decide (0 ≤ left) && decide (left ≤ room))
/-- the first place (from at on) where it can't be -/
def faultFrom : List Day → Int → Int → Int → List Deed → Int
  | day :: days, room, left, at_, d :: ds => if okDeed day room (left + d.1 - d.2) d = true then faultFrom days room (left + d.1 - d.2) (at_ + 1) ds else at_
  | _, _, _, _, _ => -1
def faultOf (days : List Day) (room : Int) (dealing : List Deed) : Int := faultFrom days room 0 0 dealing
def goodDay (d : Day) : Prop := 0 ≤ d.1 ∧ 0 ≤ d.2.1 ∧ 0 ≤ d.2.2.1 ∧ 0 ≤ d.2.2.2
def smallDay (d : Day) : Prop := d.1.natAbs < big ∧ d.2.1.natAbs < big ∧ d.2.2.1.natAbs < big ∧ d.2.2.2.natAbs < big
def smallDeed (d : Deed) : Prop := d.1.natAbs < big ∧ d.2.natAbs < big
theorem nights_length : ∀ (l : Int) (ds : List Deed), (nights l ds).length = ds.length
  | _, [] => rfl
  | l, d :: ds => by
    show (nights _ ds).length + 1 = ds.length + 1
    rw [nights_length]
theorem take_succ_of {α : Type} : ∀ {l : List α} {i : Nat} {x : α}, l[i]? = some x → l.take (i + 1) = l.take i ++ [x]
  | [], i, x, h => by simp at h
  | a :: l, 0, x, h => by
    have e : a = x := Option.some.inj h
    subst e; rfl
  | a :: l, i + 1, x, h => by
    show a :: l.take (i + 1) = a :: l.take i ++ [x]
    rw [take_succ_of (l := l) (i := i) (x := x) h]; rfl
theorem leftOf_append (l : Int) (a b : List Deed) : leftOf l (a ++ b) = leftOf (leftOf l a) b := List.foldl_append
theorem nights_append : ∀ (l : Int) (a b : List Deed), nights l (a ++ b) = nights l a ++ nights (leftOf l a) b
  | _, [], _ => rfl
  | l, d :: a, b => by
    show (l + d.1 - d.2) :: nights (l + d.1 - d.2) (a ++ b) = (l + d.1 - d.2) :: nights (l + d.1 - d.2) a ++ nights (leftOf (l + d.1 - d.2) a) b
    rw [nights_append]; rfl
end Gs
namespace Gs
open PySem L2 Evl
theorem z_seq {t u : TS} {D : Ends} {σ : St} {H : Hp} (h : t { D with nx := u D } σ H) : tSeq t u D σ H := h
theorem map_get {α β : Type} {f : α → β} {l : List α} {i : Nat} {y : β} (h : (l.map f)[i]? = some y) : ∃ x, l[i]? = some x ∧ y = f x := by
  rw [List.getElem?_map] at h
  cases q : l[i]? with
  | none => rw [q] at h; cases h
  | some x => rw [q] at h; exact ⟨x, rfl, (Option.some.inj h).symm⟩
theorem tuple_inj {a b : List PyData} (h : PyData.tuple a = PyData.tuple b) : a = b := by cases h; rfl
theorem stp_deed {l : List Deed} {j k i : Nat} {G : Hp} {σ σ' : St} (h : STp (l.map deedD) [j, k] i G σ σ') : ∃ d, l[i]? = some d ∧ σ' = (σ.set j (some (.int d.1))).set k (some (.int d.2)) := by
  obtain ⟨vs, es, h1, h2, h3⟩ := h
  obtain ⟨d, hd, e⟩ := map_get h1
  have e := tuple_inj e
  subst e
  obtain ⟨v, w, rfl, z1, z2⟩ := h2.two
  cases z1; cases z2
  cases h3 with
  | cons h3 => cases h3 with
    | cons h3 => cases h3; exact ⟨d, hd, rfl⟩
theorem stp_day {l : List Day} {j k m n i : Nat} {G : Hp} {σ σ' : St} (h : STp (l.map dayD) [j, k, m, n] i G σ σ') : ∃ d, l[i]? = some d ∧ σ' = (((σ.set j (some (.int d.1))).set k (some (.int d.2.1))).set m (some (.int d.2.2.1))).set n (some (.int d.2.2.2)) := by
  obtain ⟨vs, es, h1, h2, h3⟩ := h
  obtain ⟨d, hd, e⟩ := map_get h1
  have e := tuple_inj e
  subst e
  obtain ⟨v, w, x, y, rfl, z1, z2, z3, z4⟩ := h2.four
  cases z1; cases z2; cases z3; cases z4
  cases h3 with
  | cons h3 => cases h3 with
    | cons h3 => cases h3 with
      | cons h3 => cases h3 with
        | cons h3 => cases h3; exact ⟨d, hd, rfl⟩
theorem deed_tuples (l : List Deed) : ∀ d ∈ l.map deedD, ∃ es, d = .tuple es ∧ es.length = 2 := fun d hd => by
  obtain ⟨x, _, rfl⟩ := List.mem_map.mp hd
  exact ⟨_, rfl, rfl⟩
theorem day_tuples (l : List Day) : ∀ d ∈ l.map dayD, ∃ es, d = .tuple es ∧ es.length = 4 := fun d hd => by
  obtain ⟨x, _, rfl⟩ := List.mem_map.mp hd
  exact ⟨_, rfl, rfl⟩
/-- a tuple's items stored at names, at once -/
theorem g_tup {K : PySem.W.Frag} {js : List Nat} {m : Nat} {v : V} {es : List PyData} {G H : Hp} {σ : St} {Kk : St → Hp → Prop} (z : Ds G v (.tuple es)) (a : Ex G H) (h1 : es.length = m) (h2 : js.length = m) (k : ∀ vs σ', DsA G vs es → GSet vs js σ σ' → Kk σ' H) : gTup K m (gNames js) v σ H Kk := by
  obtain ⟨p, xs, rfl, hp, hx⟩ := z.ofTuple
  exact ⟨p, xs, rfl, SqT.of (a _ _ hp), by rw [hx.1, h1], gNames_run (by rw [hx.1, h1, h2]) fun σ' g => k xs σ' hx g⟩
theorem g_deed {K : PySem.W.Frag} {j k : Nat} {v : V} {d : Deed} {G H : Hp} {σ : St} {Kk : St → Hp → Prop} (z : Ds G v (deedD d)) (a : Ex G H) (q : Kk ((σ.set j (some (.int d.1))).set k (some (.int d.2))) H) : gTup K 2 (gNames [j, k]) v σ H Kk :=
  g_tup z a rfl rfl fun vs σ' h2 h3 => by
    obtain ⟨v, w, rfl, z1, z2⟩ := h2.two
    cases z1; cases z2
    cases h3 with
    | cons h3 => cases h3 with
      | cons h3 => cases h3; exact q
theorem g_day {K : PySem.W.Frag} {j k m n : Nat} {v : V} {d : Day} {G H : Hp} {σ : St} {Kk : St → Hp → Prop} (z : Ds G v (dayD d)) (a : Ex G H) (q : Kk ((((σ.set j (some (.int d.1))).set k (some (.int d.2.1))).set m (some (.int d.2.2.1))).set n (some (.int d.2.2.2))) H) : gTup K 4 (gNames [j, k, m, n]) v σ H Kk :=
  g_tup z a rfl rfl fun vs σ' h2 h3 => by
    obtain ⟨v, w, x, y, rfl, z1, z2, z3, z4⟩ := h2.four
    cases z1; cases z2; cases z3; cases z4
    cases h3 with
    | cons h3 => cases h3 with
      | cons h3 => cases h3 with
        | cons h3 => cases h3 with
          | cons h3 => cases h3; exact q
theorem atI_map {α : Type} {f : α → PyData} {l : List α} {i : Nat} {x : α} (h : l[i]? = some x) : atI (l.map f) (i : Int) = some (f x) := atI_nat (by rw [List.getElem?_map, h]; rfl)
theorem lt_of_get {α : Type} {l : List α} {i : Nat} {x : α} (h : l[i]? = some x) : i < l.length := (List.getElem?_eq_some_iff.mp h).1
theorem get_of_lt {α : Type} {l : List α} {i : Nat} (h : i < l.length) : ∃ x, l[i]? = some x := ⟨_, List.getElem?_eq_getElem h⟩
end Gs
namespace Gs
open PySem L2
theorem z_next {D : Ends} {σ : St} {H : Hp} (h : D.nx σ H) : tNext D σ H := h
end Gs
namespace Gs
open PySem L2 Evl
section
variable {K : PySem.W.Frag} {σ : St} {G H : Hp} {ta tb tc te tl tx : TE} {t tt : TT} {d e : PyData} {ds es : List PyData} {D : Ends} {tu tw u : TS} {g : TG}
theorem q_set {i : Nat} (a : Ex G H) (h : EvD te σ G d) (k : ∀ v H2, Ex H H2 → Ds (gr G H H2) v d → u D (σ.set i (some v)) H2) : tSeq (tAsg te (gName i)) u D σ H := z_seq (z_set a h k)
theorem q_setI {i : Nat} {n : Int} (a : Ex G H) (h : EvD te σ G (.int n)) (k : ∀ H2, Ex H H2 → u D (σ.set i (some (.int n))) H2) : tSeq (tAsg te (gName i)) u D σ H := z_seq (z_setI a h k)
theorem q_setB {i : Nat} {n : Bool} (a : Ex G H) (h : EvD te σ G (.bool n)) (k : ∀ H2, Ex H H2 → u D (σ.set i (some (.bl n))) H2) : tSeq (tAsg te (gName i)) u D σ H := z_seq (z_setB a h k)
theorem q_setZ {i : Nat} (a : Ex G H) (h : EvD te σ G .none) (k : ∀ H2, Ex H H2 → u D (σ.set i (some .non)) H2) : tSeq (tAsg te (gName i)) u D σ H := z_seq (z_setZ a h k)
theorem q_setN {i : Nat} (a : Ex G H) (h : EvN te σ G ds) (k : ∀ p vs H2, Ex H H2 → H p = none → H2 p = some (.lst vs) → DsA (but (gr G H H2) p) vs ds → u D (σ.set i (some (.ref p))) H2) : tSeq (tAsg te (gName i)) u D σ H := z_seq (z_setN a h k)
theorem q_if {b : Bool} (a : Ex G H) (h : EvT t σ G b) (h1 : b = true → ∀ H2, Ex H H2 → tu { D with nx := u D } σ H2) (h2 : b = false → ∀ H2, Ex H H2 → tw { D with nx := u D } σ H2) : tSeq (tIfS t tu tw) u D σ H := z_seq (z_if a h h1 h2)
theorem q_if1 {b : Bool} (a : Ex G H) (h : EvT t σ G b) (h1 : b = true → ∀ H2, Ex H H2 → tu { D with nx := u D } σ H2) (h2 : b = false → ∀ H2, Ex H H2 → u D σ H2) : tSeq (tIfS t tu tNext) u D σ H := z_seq (z_if a h h1 h2)
theorem z_if1 {b : Bool} (a : Ex G H) (h : EvT t σ G b) (h1 : b = true → ∀ H2, Ex H H2 → tu D σ H2) (h2 : b = false → ∀ H2, Ex H H2 → D.nx σ H2) : tIfS t tu tNext D σ H := z_if a h h1 h2
theorem q_drop (a : Ex G H) (h : EvD te σ G d) (k : ∀ H2, Ex H H2 → u D σ H2) : tSeq (tDrop te) u D σ H := z_seq (z_drop a h k)
theorem q_app {i : Nat} {l : Addr} {xs : List V} (a : Ex G H) (hs : σ[i]? = some (some (.ref l))) (hl : H l = some (.lst xs)) (h : EvD te σ G d) (hz : xs.length < 100000)
    (k : ∀ v H2, Ex H H2 → Ds (gr G H H2) v d → u D σ (upd H2 l (.lst (xs ++ [v])))) : tSeq (tDrop (tBM K "list" rAppend (tVar i) (tCons te tNil))) u D σ H := z_seq (z_app a hs hl h hz k)
theorem q_for {wi : TI} {n : Nat} {S : Nat → Hp → St → St → Prop} (a : Ex G H) (hs : Src wi g σ G n S)
    (k : ∀ H2, Ex H H2 → ∃ Pv : Nat → St → Hp → Hp → Prop, Pv 0 σ (gr G H H2) H2 ∧ (∀ i σ' G' H', Pv i σ' G' H' → Ex (gr G H H2) G' ∧ Ex G' H') ∧
      (∀ i σ' G' H' H3 σ3, i < n → Pv i σ' G' H' → Ex H' H3 → S i (gr G' H' H3) σ' σ3 → tu { D with nx := Px Pv (i + 1), ct := Px Pv (i + 1), bk := u D } σ3 H3) ∧
      (∀ σ' G' H', Pv n σ' G' H' → u D σ' H')) : tSeq (tFor wi g tu) u D σ H := z_seq (z_for a hs k)
/-- a, b, .. = e -/
theorem q_deed {x : Deed} {j k : Nat} (a : Ex G H) (h : EvD te σ G (deedD x)) (q : ∀ H2, Ex H H2 → u D ((σ.set j (some (.int x.1))).set k (some (.int x.2))) H2) : tSeq (tAsg te (gTup K 2 (gNames [j, k]))) u D σ H :=
  z_seq (h H a _ fun v H2 e z => g_deed z (gr_ex a e) (q H2 e))
theorem q_day {x : Day} {j k m n : Nat} (a : Ex G H) (h : EvD te σ G (dayD x)) (q : ∀ H2, Ex H H2 → u D ((((σ.set j (some (.int x.1))).set k (some (.int x.2.1))).set m (some (.int x.2.2.1))).set n (some (.int x.2.2.2))) H2) : tSeq (tAsg te (gTup K 4 (gNames [j, k, m, n]))) u D σ H :=
  z_seq (h H a _ fun v H2 e z => g_day z (gr_ex a e) (q H2 e))
theorem z_fall (h : u D σ H) : ({ D with nx := u D } : Ends).nx σ H := h
end
end Gs
namespace Gs
open PySem L2 Evl
section
variable {K : PySem.W.Frag} {σ : St} {G H : Hp} {ta tb tc te tl tx : TE} {t tt : TT} {d e : PyData} {ds es : List PyData}
theorem range_zip {α β : Type} (F : α → β → PyData) (l : List α) (m : List β) : (List.range (min l.length m.length)).map (fun i => match l[i]?, m[i]? with
    | some x, some y => F x y
    | _, _ => PyData.none) = List.zipWith F l m := by
  apply List.ext_getElem?
  intro i
  rw [List.getElem?_map, List.getElem?_zipWith]
  by_cases hi : i < min l.length m.length
  · rw [List.getElem?_range hi]
    have h1 : i < l.length := by omega
    have h2 : i < m.length := by omega
    rw [List.getElem?_eq_getElem h1, List.getElem?_eq_getElem h2]
    simp [h1, h2]
  · rw [List.getElem?_eq_none (by simpa using hi)]
    by_cases h1 : i < l.length
    · rw [List.getElem?_eq_none (l := m) (by omega)]
      cases l[i]? <;> rfl
    · rw [List.getElem?_eq_none (l := l) (by omega)]
      rfl
theorem evn_lcZ {α β : Type} {l : List α} {m : List β} {f : α → PyData} {g : β → PyData} {j k : Nat} {vs : List Nat} (F : α → β → PyData) (ha : EvD ta σ G (.list (l.map f))) (hb : EvD tb σ G (.list (m.map g))) (hz : l.length ≤ 40000)
    (hw : ∀ x y, wipe (((wipe σ vs).set j (some x)).set k (some y)) vs = wipe σ vs)
    (he : ∀ Gx v w x y, Ex G Gx → x ∈ l → y ∈ m → Ds Gx v (f x) → Ds Gx w (g y) → EvD te (((wipe σ vs).set j (some v)).set k (some w)) Gx (F x y)) :
    EvN (tLc (iZip K (tCons ta (tCons tb tNil))) (gTup K 2 (gNames [j, k])) tYes te vs) σ G (List.zipWith F l m) := by
  have hs := src_zip (K := K) (j := j) (k := k) ha hb
  rw [List.length_map, List.length_map] at hs
  have := evn_lc (tt := tYes) (te := te) (vs := vs) hs (by omega) (fun _ => true) (fun i => match l[i]?, m[i]? with
      | some x, some y => F x y
      | _, _ => PyData.none) (fun i Gx σ' hS => by
      obtain ⟨v, w, d, e, _, _, _, _, rfl⟩ := hS
      exact hw v w) (fun i Gx σ' _ _ _ H1 _ Q q => q H1 (Ex.refl _)) (fun i Gx σ' _ gx hS _ => by
      obtain ⟨v, w, d, e, h1, h2, z1, z2, rfl⟩ := hS
      obtain ⟨x, hx, rfl⟩ := map_get h1
      obtain ⟨y, hy, rfl⟩ := map_get h2
      rw [hx, hy]
      exact he Gx v w x y gx (List.mem_of_getElem? hx) (List.mem_of_getElem? hy) z1 z2)
  rwa [givenD_all, range_zip] at this
theorem map_int_of {l : List PyData} {ns : List Int} (h : l = ns.map PyData.int) (z : EvN te σ G l) : EvD te σ G (.list (ns.map PyData.int)) := (z.to h).asD
end
theorem faultFrom_drop {days : List Day} {room : Int} {dealing : List Deed} {left : Int} {at_ : Int} {i : Nat} {x : Day} {d : Deed} (hx : days[i]? = some x) (hd : dealing[i]? = some d) :
    faultFrom (days.drop i) room left at_ (dealing.drop i) = if okDeed x room (left + d.1 - d.2) d = true then faultFrom (days.drop (i + 1)) room (left + d.1 - d.2) (at_ + 1) (dealing.drop (i + 1)) else at_ := by
  have h1 : days.drop i = x :: days.drop (i + 1) := by
    rw [List.drop_eq_getElem_cons (lt_of_get hx)]
    congr 1
    rw [List.getElem?_eq_getElem (lt_of_get hx)] at hx
    exact Option.some.inj hx
  have h2 : dealing.drop i = d :: dealing.drop (i + 1) := by
    rw [List.drop_eq_getElem_cons (lt_of_get hd)]
    congr 1
    rw [List.getElem?_eq_getElem (lt_of_get hd)] at hd
    exact Option.some.inj hd
  rw [h1, h2]
  rfl
theorem nights_get {l : List Deed} {i : Nat} {d : Deed} (h : l[i]? = some d) : ∀ left, (nights left l)[i]? = some (leftOf left (l.take i) + d.1 - d.2) := fun left => by
  have e : l = l.take i ++ d :: l.drop (i + 1) := by
    have h2 : l.drop i = d :: l.drop (i + 1) := by
      rw [List.drop_eq_getElem_cons (lt_of_get h)]
      congr 1
      rw [List.getElem?_eq_getElem (lt_of_get h)] at h
      exact Option.some.inj h
    rw [← h2, List.take_append_drop]
  have hl : (nights left (l.take i)).length = i := by
    rw [nights_length, List.length_take]
    have := lt_of_get h
    omega
  conv => lhs; rw [e]
  rw [nights_append, List.getElem?_append_right (by rw [hl]; exact Nat.le_refl _), hl, Nat.sub_self]
  rfl
end Gs

/-! == of data made of numbers, lists, tuples; the script's own rules. -/
namespace Gs
open PySem L2 Evl
def plain : Nat → PyData → Bool
  | _, .int _ => true
  | _, .bool _ => true
  | n + 1, .list xs => xs.all (plain n)
  | n + 1, .tuple xs => xs.all (plain n)
  | _, _ => false
mutual
theorem plain_lay : ∀ (d : PyData) (n : Nat), plain n d = true → d.canLay0 = true ∧ d.depth ≤ n
  | .int _, n, _ => ⟨by simp [PyData.canLay0], by simp [PyData.depth]⟩
  | .bool _, n, _ => ⟨by simp [PyData.canLay0], by simp [PyData.depth]⟩
  | .none, 0, h => by simp [plain] at h
  | .none, n + 1, h => by simp [plain] at h
  | .str _, 0, h => by simp [plain] at h
  | .str _, n + 1, h => by simp [plain] at h
  | .dict _, 0, h => by simp [plain] at h
  | .dict _, n + 1, h => by simp [plain] at h
  | .list xs, 0, h => by simp [plain] at h
  | .tuple xs, 0, h => by simp [plain] at h
  | .list xs, n + 1, h => by
    have q := plain_layAll xs n (by simpa [plain] using h)
    exact ⟨by simp only [PyData.canLay0]; exact q.1, by simp only [PyData.depth]; omega⟩
  | .tuple xs, n + 1, h => by
    have q := plain_layAll xs n (by simpa [plain] using h)
    exact ⟨by simp only [PyData.canLay0]; exact q.1, by simp only [PyData.depth]; omega⟩
theorem plain_layAll : ∀ (ds : List PyData) (n : Nat), (∀ d ∈ ds, plain n d = true) → PyData.canLayAll0 ds = true ∧ PyData.depthAll ds ≤ n
  | [], n, _ => ⟨by simp [PyData.canLayAll0], by simp [PyData.depthAll]⟩
  | d :: ds, n, h => by
    have q1 := plain_lay d n (h d List.mem_cons_self)
    have q2 := plain_layAll ds n fun x hx => h x (List.mem_cons_of_mem _ hx)
    exact ⟨by simp only [PyData.canLayAll0, q1.1, q2.1]; rfl, by simp only [PyData.depthAll]; omega⟩
end
theorem shaped_of {d : PyData} (n : Nat) (h : plain n d = true) (hn : n ≤ 64 := by decide) : SeqAt.shaped d = true := by
  obtain ⟨h1, h2⟩ := plain_lay d n h
  unfold SeqAt.shaped
  rw [h1, decide_eq_true (Nat.le_trans h2 hn)]
  rfl
theorem eqv_self {d : PyData} (n : Nat) (h : plain n d = true) : PyData.eqv d d = true := SeqAt.eqv_refl d (plain_lay d n h).1
theorem plain_ints (ns : List Int) : plain 1 (.list (ns.map PyData.int)) = true := by
  simp [plain]
theorem plain_day (d : Day) : plain 1 (dayD d) = true := rfl
theorem plain_deed (d : Deed) : plain 1 (deedD d) = true := rfl
theorem plain_days (l : List Day) : plain 2 (daysD l) = true := by
  show ((l.map dayD).all (plain 1)) = true
  rw [List.all_map]
  exact List.all_eq_true.mpr fun x _ => plain_day x
theorem plain_deeds (l : List Deed) : plain 2 (deedsD l) = true := by
  show ((l.map deedD).all (plain 1)) = true
  rw [List.all_map]
  exact List.all_eq_true.mpr fun x _ => plain_deed x
/-! ### the script (a list of the caller's, read) -/
section
variable {K : PySem.W.Frag} {σ : St} {G G' H : Hp} {l : Addr} {ns : List Int} {j : Nat}
/-- the script stands in slot j -/
def Scr (K : PySem.W.Frag) (G : Hp) (l : Addr) (ns : List Int) : Prop := SqL K G l (ns.map V.int)
theorem Scr.mono (h : Scr K G l ns) (e : Ex G G') : Scr K G' l ns := ex_l e h
theorem evd_sumS (h : Scr K G l ns) (e : σ[j]? = some (some (.ref l))) : EvD (tCB (rSum K) (tCons (tVar j) tNil)) σ G (.int ns.sum) := fun H1 a Q q => ⟨_, e, l, ns, rfl, h.mono a, q _ H1 (Ex.refl _) (.int _)⟩
theorem evd_lenS (h : Scr K G l ns) (e : σ[j]? = some (some (.ref l))) : EvD (tCB (rLenS K) (tCons (tVar j) tNil)) σ G (.int (ns.length : Int)) := fun H1 a Q q => by
  refine ⟨_, e, l, ns.map V.int, rfl, .inl (h.mono a), ?_⟩
  rw [List.length_map]
  exact q _ H1 (Ex.refl _) (.int _)
theorem evd_ixS {tb : TE} {i n : Int} (h : Scr K G l ns) (e : σ[j]? = some (some (.ref l))) (hb : EvD tb σ G (.int i)) (hi : atI ns i = some n) : EvD (tOp (rIxL K) (tVar j) tb) σ G (.int n) := fun H1 a Q q =>
  ⟨_, e, hb H1 a _ fun v H2 e2 z => ⟨l, ns.map V.int, i, .int n, rfl, z.ofInt, (h.mono a).mono e2, by
    unfold atI at hi ⊢
    rw [List.length_map]
    cases r : ixN ns.length i with
    | none => rw [r] at hi; cases hi
    | some k =>
      rw [r] at hi
      show (ns.map V.int)[k]? = _
      rw [List.getElem?_map]
      have hi : ns[k]? = some n := hi
      rw [hi]
      rfl, q _ H2 e2 (.int _)⟩⟩
theorem dpAll_ints {H : Hp} : ∀ ns : List Int, DpAll K H (ns.map V.int) (ns.map PyData.int)
  | [] => .nil
  | n :: ns => .cons (.int n) (dpAll_ints ns)
theorem Scr.dp (h : Scr K G l ns) : Dp K G (.ref l) (.list (ns.map PyData.int)) := .lst h (dpAll_ints ns)
/-- script != [] -/
theorem evd_neS (h : Scr K G l ns) (e : σ[j]? = some (some (.ref l))) : EvD (tOp (rNeD K) (tVar j) (tLst tNil)) σ G (.bool (!ns.isEmpty)) := fun H1 a Q q =>
  ⟨_, e, Nat.zero_le _, fun p hp => ⟨_, .list [], ((h.mono a).mono (Ex.new hp)).dp, .lst (SqL.of upd_same) .nil, shaped_of 1 (plain_ints ns), shaped_of 1 rfl, by
    have : PyData.eqv (.list (ns.map PyData.int)) (.list []) = ns.isEmpty := by cases ns <;> simp [PyData.eqv, PyData.eqvAll]
    rw [this]
    exact q _ _ (Ex.new hp) (.bl _)⟩⟩
end
end Gs

/-! What the laws build from a script, in plain Lean. -/
namespace Gs
open PySem L2 Evl
def pick (l : List Int) (i : Int) : Int := l.getD i.toNat 0
theorem pick_at {l : List Int} {i : Int} (h0 : 0 ≤ i) (h : i < l.length) : atI (l.map PyData.int) i = some (.int (pick l i)) := by
  obtain ⟨n, rfl⟩ := Int.eq_ofNat_of_zero_le h0
  have hn : n < l.length := by omega
  refine atI_nat ?_
  rw [List.getElem?_map, List.getElem?_eq_getElem hn]
  unfold pick
  rw [Int.toNat_natCast, List.getD_eq_getElem?_getD, List.getElem?_eq_getElem hn]
  rfl
theorem pick_mem {l : List Int} {i : Int} (h0 : 0 ≤ i) (h : i < l.length) : pick l i ∈ l := by
  obtain ⟨n, rfl⟩ := Int.eq_ofNat_of_zero_le h0
  have hn : n < l.length := by omega
  unfold pick
  rw [Int.toNat_natCast, List.getD_eq_getElem?_getD, List.getElem?_eq_getElem hn]
  exact List.getElem_mem hn
def highs : List Int := [6, 40, 10 ^ (20 : Int).toNat, 3]
def mosts : List Int := [3, 30, 10 ^ (25 : Int).toNat, 2]
def highOf (m : Int) : Int := pick highs (m % 4)
def mostOf (m : Int) : Int := pick mosts (m / 4 % 4)
def otherOf (m c : Int) : Int := if m / 16 % 3 > 0 then c / 7 % highOf m else c % highOf m + c / 7 % 3 - 1
def dayOf (m : Int) (i : Nat) (c : Int) : Day := (c % highOf m, c / 11 % mostOf m, max 0 (otherOf m c), (c + (i : Int)) / 13 % mostOf m)
def daysFrom (m : Int) : Nat → List Int → List Day
  | _, [] => []
  | i, c :: cs => dayOf m i c :: daysFrom m (i + 1) cs
def moreDays (m : Int) (l : List Day) : List Day := (List.range (70 + m % 20).toNat).map fun (i : Nat) => l.getD (((i : Int) * (i : Int) + (i : Int) / 7) % (l.length : Int)).toNat (0, 0, 0, 0)
def lawDays (s : List Int) : List Day := if s.sum / 48 % 9 = 2 ∧ s ≠ [] then moreDays s.sum (daysFrom s.sum 0 s) else daysFrom s.sum 0 s
def rooms (m : Int) : List Int := [0, 1 + m / 5 % 4, 7 + m / 5 % 40, 10 ^ (24 : Int).toNat + m % 1000, 10 ^ (60 : Int).toNat]
def lawRoom (s : List Int) : Int := pick (rooms s.sum) (s.sum / 3 % 5)
theorem daysFrom_append (m : Int) : ∀ (i : Nat) (a b : List Int), daysFrom m i (a ++ b) = daysFrom m i a ++ daysFrom m (i + a.length) b
  | i, [], b => by simp [daysFrom]
  | i, c :: a, b => by
    show dayOf m i c :: daysFrom m (i + 1) (a ++ b) = dayOf m i c :: daysFrom m (i + 1) a ++ daysFrom m (i + (a.length + 1)) b
    rw [daysFrom_append m (i + 1) a b, show i + 1 + a.length = i + (a.length + 1) by omega]
    rfl
theorem daysFrom_length (m : Int) : ∀ (i : Nat) (a : List Int), (daysFrom m i a).length = a.length
  | _, [] => rfl
  | i, c :: a => by
    show (daysFrom m (i + 1) a).length + 1 = a.length + 1
    rw [daysFrom_length]
theorem high_pos (m : Int) : 0 < highOf m ∧ highOf m ≤ 10 ^ 20 := by
  have h := pick_mem (l := highs) (i := m % 4) (by omega) (by show m % 4 < 4; omega)
  have : ∀ x ∈ highs, 0 < x ∧ x ≤ 10 ^ 20 := by decide +kernel
  exact this _ h
theorem most_pos (m : Int) : 0 < mostOf m ∧ mostOf m ≤ 10 ^ 25 := by
  have h := pick_mem (l := mosts) (i := m / 4 % 4) (by omega) (by show m / 4 % 4 < 4; omega)
  have : ∀ x ∈ mosts, 0 < x ∧ x ≤ 10 ^ 25 := by decide +kernel
  exact this _ h
/-- what the laws' days are -/
def lawDay (d : Day) : Prop := (0 ≤ d.1 ∧ d.1 ≤ 10 ^ 20) ∧ (0 ≤ d.2.1 ∧ d.2.1 ≤ 10 ^ 25) ∧ (0 ≤ d.2.2.1 ∧ d.2.2.1 ≤ 10 ^ 20 + 2) ∧ (0 ≤ d.2.2.2 ∧ d.2.2.2 ≤ 10 ^ 25)
theorem big_law : (10 ^ 62 : Int) < big := by
  show ((10 ^ 62 : Int)) < ((2 ^ 1000 : Nat) : Int)
  decide +kernel
theorem lawDay.good {d : Day} (h : lawDay d) : goodDay d := ⟨h.1.1, h.2.1.1, h.2.2.1.1, h.2.2.2.1⟩
theorem lawDay.small {d : Day} (h : lawDay d) : smallDay d := by
  have := big_law
  obtain ⟨⟨h1, h2⟩, ⟨h3, h4⟩, ⟨h5, h6⟩, h7, h8⟩ := h
  exact ⟨by omega, by omega, by omega, by omega⟩
theorem dayOf_law (m : Int) (i : Nat) (c : Int) : lawDay (dayOf m i c) := by
  obtain ⟨h1, h2⟩ := high_pos m
  obtain ⟨h3, h4⟩ := most_pos m
  have a1 := Int.emod_nonneg c (show highOf m ≠ 0 by omega)
  have a2 := Int.emod_lt_of_pos c h1
  have a3 := Int.emod_nonneg (c / 11) (show mostOf m ≠ 0 by omega)
  have a4 := Int.emod_lt_of_pos (c / 11) h3
  have a5 := Int.emod_nonneg ((c + (i : Int)) / 13) (show mostOf m ≠ 0 by omega)
  have a6 := Int.emod_lt_of_pos ((c + (i : Int)) / 13) h3
  have a7 := Int.emod_nonneg (c / 7) (show highOf m ≠ 0 by omega)
  have a8 := Int.emod_lt_of_pos (c / 7) h1
  refine ⟨⟨a1, ?_⟩, ⟨a3, ?_⟩, ⟨?_, ?_⟩, ⟨a5, ?_⟩⟩
  · show c % highOf m ≤ _; omega
  · show c / 11 % mostOf m ≤ _; omega
  · show 0 ≤ max 0 (otherOf m c); omega
  · show max 0 (otherOf m c) ≤ _
    unfold otherOf
    split <;> omega
  · show (c + (i : Int)) / 13 % mostOf m ≤ _; omega
theorem daysFrom_law (m : Int) : ∀ (i : Nat) (s : List Int), ∀ d ∈ daysFrom m i s, lawDay d
  | _, [], d, h => by simp [daysFrom] at h
  | i, c :: s, d, h => by
    rcases List.mem_cons.mp (show d ∈ dayOf m i c :: daysFrom m (i + 1) s from h) with rfl | h
    · exact dayOf_law m i c
    · exact daysFrom_law m (i + 1) s d h
theorem zero_law : lawDay (0, 0, 0, 0) := by refine ⟨⟨by decide, ?_⟩, ⟨by decide, ?_⟩, ⟨by decide, ?_⟩, ⟨by decide, ?_⟩⟩ <;> decide +kernel
theorem lawDays_law (s : List Int) : ∀ d ∈ lawDays s, lawDay d := by
  intro d h
  unfold lawDays at h
  split at h
  · obtain ⟨i, _, rfl⟩ := List.mem_map.mp h
    rw [List.getD_eq_getElem?_getD]
    cases q : (daysFrom s.sum 0 s)[(((i : Int) * (i : Int) + (i : Int) / 7) % ((daysFrom s.sum 0 s).length : Int)).toNat]? with
    | none => exact zero_law
    | some x => exact daysFrom_law _ _ _ _ (List.mem_of_getElem? q)
  · exact daysFrom_law _ _ _ d h
theorem lawDays_length (s : List Int) (h : s.length ≤ 63) : (lawDays s).length ≤ 100 := by
  unfold lawDays
  split
  · unfold moreDays
    rw [List.length_map, List.length_range]
    omega
  · rw [daysFrom_length]; omega
theorem lawDays_nil : lawDays [] = [] := rfl
theorem room_law (s : List Int) : 0 ≤ lawRoom s ∧ lawRoom s ≤ 10 ^ 60 := by
  have h := pick_mem (l := rooms s.sum) (i := s.sum / 3 % 5) (by omega) (by show s.sum / 3 % 5 < 5; omega)
  unfold rooms at h
  show 0 ≤ pick _ _ ∧ pick _ _ ≤ _
  simp only [List.mem_cons, List.not_mem_nil, or_false] at h
  have e24 : (10 : Int) ^ (24 : Int).toNat = 10 ^ 24 := rfl
  have e60 : (10 : Int) ^ (60 : Int).toNat = 10 ^ 60 := rfl
  rw [e24, e60] at h
  show 0 ≤ pick (rooms s.sum) (s.sum / 3 % 5) ∧ pick (rooms s.sum) (s.sum / 3 % 5) ≤ 10 ^ 60
  unfold rooms
  rw [e24, e60]
  rcases h with h | h | h | h | h <;> rw [h] <;> omega
/-- a list of ours that is changed no more -/
theorem Up.adopt {G0 H0 G H : Hp} {p : Addr} {o : HO} (u : Up G0 H0 G H) (gp : G p = none) (h0 : H0 p = none) (hp : H p = some o) : Up G0 H0 (upd G p o) H :=
  ⟨u.g.trans (Ex.new gp), fun a x e => by
    by_cases q : a = p
    · subst q; rw [upd_same] at e; cases e; exact hp
    · rw [upd_ne q] at e; exact u.s a x e, u.h, fun a x h q => by
    have ne : a ≠ p := fun z => by rw [z, h0] at h; cases h
    rw [upd_ne ne] at q
    exact u.n a x h q⟩
theorem adopt_ds {G : Hp} {p : Addr} {xs : List V} {ds : List PyData} (gp : G p = none) (z : DsA G xs ds) : Ds (upd G p (.lst xs)) (.ref p) (.list ds) := .list upd_same (z.mono (Ex.new gp))
theorem moreDays_map (m : Int) (l : List Day) : (moreDays m l).map dayD = (List.range (70 + m % 20).toNat).map fun (i : Nat) => dayD (l.getD (((i : Int) * (i : Int) + (i : Int) / 7) % (l.length : Int)).toNat (0, 0, 0, 0)) := by
  unfold moreDays
  rw [List.map_map]
  rfl
theorem atI_getD {α : Type} {f : α → PyData} {l : List α} {i : Int} {x : α} (h0 : 0 ≤ i) (h : i < l.length) : atI (l.map f) i = some (f (l.getD i.toNat x)) := by
  obtain ⟨n, rfl⟩ := Int.eq_ofNat_of_zero_le h0
  have hn : n < l.length := by omega
  rw [Int.toNat_natCast, List.getD_eq_getElem?_getD, List.getElem?_eq_getElem hn]
  exact atI_map (List.getElem?_eq_getElem hn)
theorem div_lit {i j : Int} (h : (0 < j) ∧ j.natAbs.log2 < 9000) : CDivW i j := h
end Gs

/-! Defs that may raise. -/
namespace Gs
open PySem PySem.Spec PyProof.Rows L2 Evl
section
variable {P : Program} {w : World} {K : PySem.W.Frag} {mg : Str → Option Value} {base : Heap} {N ps : List Str} {k : Nat} {sp : Sp} {x qual m : Str} {st : Stmt}
theorem FunH.hasX (F : FunH K mg x qual st ps) (S : FnScope N ps (defScope st)) (len : ∀ vs H Q E, sp vs H Q E → vs.length = ps.length)
    (hbody : ∀ (f : Addr) (cdv : Value) (A : Around) (outer : List Env) (s : Shared) (H : Hp) (vs : List V) (Q : VK) (E : XK), Room k (A.deeper (envOfC qual (defScope st) s.heap.objs.size f cdv)) → sp vs H Q E →
      ∃ t, PSs (cxOf (L2.CX P w) P w K mg base N qual (defScope st) f cdv A outer s H E) (defBody st) t ∧ t { nx := fun _ H' => Q .non H', rt := Q } (start N vs) H) : Has P w K mg base (L2.CX P w) (k + 1) x ps sp := by
  obtain ⟨f, fd, F, hm, hb⟩ := F.ex
  exact ⟨f, fd, F.okX S len (fun cdv A outer s H vs Q E hr h => hbody f cdv A outer s H vs Q E hr h), hm, F.kp, hb⟩
/-- an error's class -/
structure ExT (K : PySem.W.Frag) (mg : Str → Option Value) (n : Str) (C : Addr) : Prop where
  g : mg n = some (.ref C)
  x : PySem.W.excIn K C [.type "ValueError", .type "Exception", .type "BaseException", .type "object"] "ValueError.__new__" = true
  k : PySem.W.keepIn K (.ref C) = true
  b : PySem.W.subIn K (.ref C) (.type "BaseException") = some true
  t : PySem.W.typeIn K (.ref C) = some (.type "type")
end
structure Er where
  days : Addr
  room : Addr
  deal : Addr
  day : Addr
  grain : Addr
structure ErT (K : PySem.W.Frag) (mg : Str → Option Value) (e : Er) : Prop where
  bd : ExT K mg "BadDays" e.days
  br : ExT K mg "BadRoom" e.room
  bl : ExT K mg "BadDealing" e.deal
  by_ : ExT K mg "BadDay" e.day
  bg : mg "GrainError" = some (.ref e.grain)
  ve : mg "ValueError" = none
section
variable {X : Cx} {stmts : List Stmt}
/-- what is never reached -/
def tNone : TS := fun _ _ _ => False
theorem pss_any : PSs X stmts tNone := ⟨fun _ _ _ _ _ _ h => h.elim⟩
theorem ps_any {s : Stmt} : PS X s tNone := ⟨fun _ _ _ _ _ _ h => h.elim⟩
end
section
variable {X : Cx} {E : XK} {k : Nat} {ps : List Str} {sp : Sp} {x : Str} {p pos : Pos} {e : Expr} {es : List Expr} {t : TA}
/-- f(e, ..) that may raise, in a def that may raise -/
theorem pe_fX (h : Has X.prog X.w X.K X.mg X.base (L2.CX X.prog X.w) k x ps sp) (hr : Room k X.A) (ha : PA X (e :: es) t) (tk : Takes X (fun cls d _ H => E cls d H)) (hg : Gl X x := by rfl) (hdb : (x == ("__debug__" : Str)) = false := by decide)
    (he : starEach (e :: es) X.env = (false, eval e X.env) :: starEach es X.env := by rfl) (hpl : (backTo pos (starEach es X.env)).any (·.1) = false := by rfl) : PE X (.Call (.Name x p) (e :: es) [] pos) (tCall sp [] E t) :=
  pe_f h hr ha (passes_call tk (fun _ _ _ _ h => h)) hg hdb he hpl
end
section
variable {X : Cx} {W : WX} {k : Nat} {ps : List Str} {sp : Sp} {x : Str} {p pos : Pos} {e : Expr} {es : List Expr} {t : TA}
/-- f(e, ..) that may raise, in the body of a try -/
theorem pe_fS (h : Has X.prog X.w X.K X.mg X.base (L2.CX X.prog X.w) k x ps sp) (hr : Room k X.A) (ha : PA X (e :: es) t) (tk : Takes X W) (hg : Gl X x := by rfl) (hdb : (x == ("__debug__" : Str)) = false := by decide)
    (he : starEach (e :: es) X.env = (false, eval e X.env) :: starEach es X.env := by rfl) (hpl : (backTo pos (starEach es X.env)).any (·.1) = false := by rfl) : PE X (.Call (.Name x p) (e :: es) [] pos) (tCallS sp (WE W) t) := by
  refine ⟨fun pins s σ H Q I hw => ?_⟩
  obtain ⟨f, fd, F, hm, hk, hb⟩ := h.ex
  exact (pe_callS F hr hg hm hk hb (fun σ => passAt tk σ) ha hdb he hpl).run pins s σ H Q I hw
/-- f(e, ..) that might raise, but does not here -/
theorem pe_fN (h : Has X.prog X.w X.K X.mg X.base (L2.CX X.prog X.w) k x ps sp) (hr : Room k X.A) (ha : PA X (e :: es) t) (hg : Gl X x := by rfl) (hdb : (x == ("__debug__" : Str)) = false := by decide)
    (he : starEach (e :: es) X.env = (false, eval e X.env) :: starEach es X.env := by rfl) (hpl : (backTo pos (starEach es X.env)).any (·.1) = false := by rfl) : PE X (.Call (.Name x p) (e :: es) [] pos) (tCall sp [] E0 t) :=
  pe_f h hr ha (passes_call (W := fun _ _ _ _ => False) takes0 (fun _ _ _ _ h => h)) hg hdb he hpl
end
section
variable {K : PySem.W.Frag} {σ : L2.St} {G : Hp} {i : Nat} {a D : Addr}
theorem evd_isE {c : V} {cv : Value} {b : Bool} (hs : σ[i]? = some (some (.ref a))) (hc : ClsV c cv) (hk : PySem.W.kitOne K (.ref D) cv = some b) : EvD (tCB (rIsE K D a) (tCons (tVar i) (tCons (tC c) tNil))) σ G (.bool b) := fun H1 _ Q k =>
  ⟨_, hs, c, cv, b, rfl, fun u r => hc.eq r, hk, k _ H1 (Ex.refl _) (.bl b)⟩
end
/-- a handled error of a known class -/
theorem call_isEK {X : Cx} {K : PySem.W.Frag} {a D : Addr} {oe : Obj} {pn : List (Addr × Obj)} (C : ExcC K D) (hz : Zc (.ref D) none oe) (hf : ∃ vs, oe.data = .fields vs) (h : X.K = K := by rfl) : CallR (X.suite a ((a, oe) :: pn)) (.builtin "isinstance") (rIsE K D a) := by
  subst h
  exact call_isE C hz hf
theorem exm_to {K : PySem.W.Frag} {D S : Addr} (_ : PySem.W.subIn K (.ref D) (.type "BaseException") = some true) (h1 : PySem.W.subIn K (.ref S) (.type "BaseException") = some true) (h2 : PySem.W.isClsIn K S = true) (h3 : PySem.W.typeIn K (.ref S) = some (.type "type")) (h4 : PySem.W.subIn K (.ref D) (.ref S) = some true) :
    PySem.W.exmOne K (.ref D) (.ref S) = some true := by
  have e1 : (PySem.W.subIn K (.ref S) (.type "BaseException") == some true) = true := by rw [h1] <;> rfl
  have e2 : ((PySem.W.clsIn K S).isSome && PySem.W.typeIn K (.ref S) == some (.type "type")) = true := by
    have h2' : (PySem.W.clsIn K S).isSome = true := h2
    rw [h2', h3] <;> rfl
  show (if (PySem.W.subIn K (.ref S) (.type "BaseException") == some true) = true then (if ((PySem.W.clsIn K S).isSome && PySem.W.typeIn K (.ref S) == some (.type "type")) = true then PySem.W.subIn K (.ref D) (.ref S) else none) else none) = some true
  rw [if_pos e1, if_pos e2]
  exact h4
end Gs

/-! The steps of falling worths, and why the dealing that is told gains most. Plain Lean. -/
namespace Gs
abbrev Stp := Int × Int
def putIn : List Stp → Int → Int → List Stp
  | [], w, n => [(w, n)]
  | s :: r, w, n => if s.1 > w then s :: putIn r w n else if s.1 = w then (w, s.2 + n) :: r else (w, n) :: s :: r
def cutF : Int → List Stp → Int → Int × List Stp
  | acc, [], _ => (acc, [])
  | acc, s :: r, z => if s.2 ≤ z then cutF (acc + s.1 * s.2) r (z - s.2) else if z = 0 then (acc, s :: r) else (acc + s.1 * z, (s.1, s.2 - z) :: r)
def keptF : List Stp → Int → List Stp
  | [], _ => []
  | s :: r, z => if z > 0 then (s.1, min s.2 z) :: keptF r (z - min s.2 z) else keptF r z
/-- how many bushels are worth more than w; w or more; how much more than w they are worth together; how many there are -/
def gtS (w : Int) : List Stp → Int
  | [] => 0
  | s :: r => (if s.1 > w then s.2 else 0) + gtS w r
def geS (w : Int) : List Stp → Int
  | [] => 0
  | s :: r => (if s.1 ≥ w then s.2 else 0) + geS w r
def potS (w : Int) : List Stp → Int
  | [] => 0
  | s :: r => s.2 * max 0 (s.1 - w) + potS w r
def allS : List Stp → Int
  | [] => 0
  | s :: r => s.2 + allS r
/-- falling worths, no length below 0 -/
def Good : List Stp → Prop
  | [] => True
  | s :: r => 0 ≤ s.2 ∧ (∀ t ∈ r, t.1 < s.1) ∧ Good r
theorem gt_put (w : Int) : ∀ (st : List Stp) (v n : Int), gtS w (putIn st v n) = gtS w st + if v > w then n else 0
  | [], v, n => by simp only [putIn, gtS]; omega
  | s :: r, v, n => by
    have ih := gt_put w r v n
    simp only [putIn]
    split
    · simp only [gtS, ih]; omega
    · split
      · rename_i h1 h2
        subst h2
        simp only [gtS]
        split <;> omega
      · simp only [gtS]; omega
theorem ge_put (w : Int) : ∀ (st : List Stp) (v n : Int), geS w (putIn st v n) = geS w st + if v ≥ w then n else 0
  | [], v, n => by simp only [putIn, geS]; omega
  | s :: r, v, n => by
    have ih := ge_put w r v n
    simp only [putIn]
    split
    · simp only [geS, ih]; omega
    · split
      · rename_i h1 h2
        subst h2
        simp only [geS]
        split <;> omega
      · simp only [geS]; omega
theorem all_put : ∀ (st : List Stp) (v n : Int), allS (putIn st v n) = allS st + n
  | [], v, n => by simp only [putIn, allS]; omega
  | s :: r, v, n => by
    have ih := all_put r v n
    simp only [putIn]
    split
    · simp only [allS, ih]; omega
    · split
      · simp only [allS]; omega
      · simp only [allS]; omega
theorem pot_put (w : Int) : ∀ (st : List Stp) (v n : Int), potS w (putIn st v n) = potS w st + n * max 0 (v - w)
  | [], v, n => by simp only [putIn, potS]; omega
  | s :: r, v, n => by
    have ih := pot_put w r v n
    simp only [putIn]
    split
    · simp only [potS, ih]; omega
    · split
      · rename_i h1 h2
        subst h2
        simp only [potS, Int.add_mul]; omega
      · simp only [potS]; omega
theorem put_mem : ∀ (st : List Stp) (v n : Int), ∀ t ∈ putIn st v n, t.1 = v ∨ ∃ s ∈ st, s.1 = t.1
  | [], v, n, t, h => by
    simp only [putIn, List.mem_singleton] at h
    subst h
    exact .inl rfl
  | s :: r, v, n, t, h => by
    simp only [putIn] at h
    split at h
    · rcases List.mem_cons.mp h with rfl | h
      · exact .inr ⟨t, List.mem_cons_self, rfl⟩
      · rcases put_mem r v n t h with q | ⟨s', h1, h2⟩
        · exact .inl q
        · exact .inr ⟨s', List.mem_cons_of_mem _ h1, h2⟩
    · split at h
      · rcases List.mem_cons.mp h with rfl | h
        · exact .inl rfl
        · exact .inr ⟨t, List.mem_cons_of_mem _ h, rfl⟩
      · rcases List.mem_cons.mp h with rfl | h
        · exact .inl rfl
        · exact .inr ⟨t, h, rfl⟩
theorem good_put : ∀ (st : List Stp) (v n : Int), Good st → 0 ≤ n → Good (putIn st v n)
  | [], v, n, _, h => ⟨h, by simp, trivial⟩
  | s :: r, v, n, ⟨g1, g2, g3⟩, h => by
    simp only [putIn]
    split
    · rename_i h1
      refine ⟨g1, fun t ht => ?_, good_put r v n g3 h⟩
      rcases put_mem r v n t ht with q | ⟨s', q1, q2⟩
      · omega
      · have := g2 s' q1; omega
    · split
      · rename_i h1 h2
        exact ⟨by show 0 ≤ s.2 + n; omega, fun t ht => by have := g2 t ht; show t.1 < v; omega, g3⟩
      · rename_i h1 h2
        refine ⟨h, fun t ht => ?_, g1, g2, g3⟩
        show t.1 < v
        rcases List.mem_cons.mp ht with rfl | ht
        · omega
        · have := g2 t ht; omega
theorem gt_zero (w : Int) : ∀ (st : List Stp), (∀ t ∈ st, t.1 ≤ w) → gtS w st = 0
  | [], _ => rfl
  | s :: r, h => by
    have ih := gt_zero w r fun t ht => h t (List.mem_cons_of_mem _ ht)
    have := h s List.mem_cons_self
    simp only [gtS, ih]
    rw [if_neg (by omega)]; rfl
theorem ge_zero (w : Int) : ∀ (st : List Stp), (∀ t ∈ st, t.1 < w) → geS w st = 0
  | [], _ => rfl
  | s :: r, h => by
    have ih := ge_zero w r fun t ht => h t (List.mem_cons_of_mem _ ht)
    have := h s List.mem_cons_self
    simp only [geS, ih]
    rw [if_neg (by omega)]; rfl
theorem pot_zero (w : Int) : ∀ (st : List Stp), (∀ t ∈ st, t.1 ≤ w) → potS w st = 0
  | [], _ => rfl
  | s :: r, h => by
    have ih := pot_zero w r fun t ht => h t (List.mem_cons_of_mem _ ht)
    have := h s List.mem_cons_self
    simp only [potS, ih]
    rw [show max 0 (s.1 - w) = 0 by omega, Int.mul_zero]; rfl
theorem gt_nonneg (w : Int) : ∀ (st : List Stp), Good st → 0 ≤ gtS w st
  | [], _ => Int.le_refl _
  | s :: r, ⟨g1, g2, g3⟩ => by
    have ih := gt_nonneg w r g3
    simp only [gtS]
    split <;> omega
theorem gt_le_ge (w : Int) : ∀ (st : List Stp), Good st → gtS w st ≤ geS w st
  | [], _ => Int.le_refl _
  | s :: r, ⟨g1, g2, g3⟩ => by
    have ih := gt_le_ge w r g3
    simp only [gtS, geS]
    split <;> split <;> omega
theorem ge_le_all (w : Int) : ∀ (st : List Stp), Good st → geS w st ≤ allS st
  | [], _ => Int.le_refl _
  | s :: r, ⟨g1, g2, g3⟩ => by
    have ih := ge_le_all w r g3
    simp only [allS, geS]
    split <;> omega
/-- a greater worth is had by fewer -/
theorem ge_le_gt {v w : Int} (h : w < v) : ∀ (st : List Stp), Good st → geS v st ≤ gtS w st
  | [], _ => Int.le_refl _
  | s :: r, ⟨g1, g2, g3⟩ => by
    have ih := ge_le_gt h r g3
    simp only [gtS, geS]
    split <;> split <;> omega
theorem all_nonneg : ∀ (st : List Stp), Good st → 0 ≤ allS st
  | [], _ => Int.le_refl _
  | s :: r, ⟨g1, g2, g3⟩ => by
    have ih := all_nonneg r g3
    simp only [allS]; omega
/-! kept -/
theorem kept_mem : ∀ (st : List Stp) (z : Int), ∀ t ∈ keptF st z, ∃ s ∈ st, s.1 = t.1
  | [], z, t, h => by simp [keptF] at h
  | s :: r, z, t, h => by
    simp only [keptF] at h
    split at h
    · rcases List.mem_cons.mp h with rfl | h
      · exact ⟨s, List.mem_cons_self, rfl⟩
      · obtain ⟨s', h1, h2⟩ := kept_mem r _ t h
        exact ⟨s', List.mem_cons_of_mem _ h1, h2⟩
    · obtain ⟨s', h1, h2⟩ := kept_mem r _ t h
      exact ⟨s', List.mem_cons_of_mem _ h1, h2⟩
theorem kept_good : ∀ (st : List Stp) (z : Int), Good st → 0 ≤ z → Good (keptF st z)
  | [], z, _, _ => trivial
  | s :: r, z, ⟨g1, g2, g3⟩, hz => by
    simp only [keptF]
    split
    · refine ⟨by show 0 ≤ min s.2 z; omega, fun t ht => ?_, kept_good r _ g3 (by omega)⟩
      obtain ⟨s', h1, h2⟩ := kept_mem r _ t ht
      have := g2 s' h1
      show t.1 < s.1
      omega
    · exact kept_good r z g3 hz
theorem gt_kept (w : Int) : ∀ (st : List Stp) (z : Int), Good st → 0 ≤ z → gtS w (keptF st z) = min (gtS w st) z
  | [], z, _, h => by simp only [keptF, gtS]; omega
  | s :: r, z, ⟨g1, g2, g3⟩, hz => by
    have n0 := gt_nonneg w r g3
    simp only [keptF]
    split
    · have ih := gt_kept w r (z - min s.2 z) g3 (by omega)
      simp only [gtS, ih]
      by_cases h : s.1 > w
      · rw [if_pos h, if_pos h]; omega
      · rw [if_neg h, if_neg h, gt_zero w r (fun t ht => by have := g2 t ht; omega)]; omega
    · have ih := gt_kept w r z g3 hz
      simp only [gtS, ih]
      split <;> omega
theorem ge_nonneg (w : Int) (st : List Stp) (h : Good st) : 0 ≤ geS w st := Int.le_trans (gt_nonneg w st h) (gt_le_ge w st h)
theorem ge_kept (w : Int) : ∀ (st : List Stp) (z : Int), Good st → 0 ≤ z → geS w (keptF st z) = min (geS w st) z
  | [], z, _, h => by simp only [keptF, geS]; omega
  | s :: r, z, ⟨g1, g2, g3⟩, hz => by
    have n0 := ge_nonneg w r g3
    simp only [keptF]
    split
    · have ih := ge_kept w r (z - min s.2 z) g3 (by omega)
      simp only [geS, ih]
      by_cases h : s.1 ≥ w
      · rw [if_pos h, if_pos h]; omega
      · rw [if_neg h, if_neg h, ge_zero w r (fun t ht => by have := g2 t ht; omega)]; omega
    · have ih := ge_kept w r z g3 hz
      simp only [geS, ih]
      split <;> omega
theorem all_kept : ∀ (st : List Stp) (z : Int), Good st → 0 ≤ z → allS (keptF st z) = min (allS st) z
  | [], z, _, h => by simp only [keptF, allS]; omega
  | s :: r, z, ⟨g1, g2, g3⟩, hz => by
    have n0 := all_nonneg r g3
    simp only [keptF]
    split
    · have ih := all_kept r (z - min s.2 z) g3 (by omega)
      simp only [allS, ih]; omega
    · have ih := all_kept r z g3 hz
      simp only [allS, ih]; omega
/-! cut -/
theorem cut_mem : ∀ (acc : Int) (st : List Stp) (z : Int), ∀ t ∈ (cutF acc st z).2, ∃ s ∈ st, s.1 = t.1
  | acc, [], z, t, h => by simp [cutF] at h
  | acc, s :: r, z, t, h => by
    simp only [cutF] at h
    split at h
    · obtain ⟨s', h1, h2⟩ := cut_mem _ r _ t h
      exact ⟨s', List.mem_cons_of_mem _ h1, h2⟩
    · split at h
      · exact ⟨t, h, rfl⟩
      · rcases List.mem_cons.mp h with rfl | h
        · exact ⟨s, List.mem_cons_self, rfl⟩
        · exact ⟨t, List.mem_cons_of_mem _ h, rfl⟩
theorem cut_good : ∀ (acc : Int) (st : List Stp) (z : Int), Good st → 0 ≤ z → Good (cutF acc st z).2
  | acc, [], z, _, _ => trivial
  | acc, s :: r, z, ⟨g1, g2, g3⟩, hz => by
    simp only [cutF]
    split
    · exact cut_good _ r _ g3 (by omega)
    · split
      · exact ⟨g1, g2, g3⟩
      · exact ⟨by show 0 ≤ s.2 - z; omega, g2, g3⟩
theorem gt_cut (w : Int) : ∀ (acc : Int) (st : List Stp) (z : Int), Good st → 0 ≤ z → gtS w (cutF acc st z).2 = max 0 (gtS w st - z)
  | acc, [], z, _, h => by simp only [cutF, gtS]; omega
  | acc, s :: r, z, ⟨g1, g2, g3⟩, hz => by
    have n0 := gt_nonneg w r g3
    simp only [cutF]
    split
    · have ih := gt_cut w (acc + s.1 * s.2) r (z - s.2) g3 (by omega)
      rw [ih]
      simp only [gtS]
      by_cases h : s.1 > w
      · rw [if_pos h]; omega
      · rw [if_neg h, gt_zero w r (fun t ht => by have := g2 t ht; omega)]; omega
    · split
      · rename_i h; subst h
        simp only [gtS]
        split <;> omega
      · simp only [gtS]
        by_cases h : s.1 > w
        · rw [if_pos h, if_pos h]; omega
        · rw [if_neg h, if_neg h, gt_zero w r (fun t ht => by have := g2 t ht; omega)]; omega
theorem ge_cut (w : Int) : ∀ (acc : Int) (st : List Stp) (z : Int), Good st → 0 ≤ z → geS w (cutF acc st z).2 = max 0 (geS w st - z)
  | acc, [], z, _, h => by simp only [cutF, geS]; omega
  | acc, s :: r, z, ⟨g1, g2, g3⟩, hz => by
    have n0 := ge_nonneg w r g3
    simp only [cutF]
    split
    · have ih := ge_cut w (acc + s.1 * s.2) r (z - s.2) g3 (by omega)
      rw [ih]
      simp only [geS]
      by_cases h : s.1 ≥ w
      · rw [if_pos h]; omega
      · rw [if_neg h, ge_zero w r (fun t ht => by have := g2 t ht; omega)]; omega
    · split
      · rename_i h; subst h
        simp only [geS]
        split <;> omega
      · simp only [geS]
        by_cases h : s.1 ≥ w
        · rw [if_pos h, if_pos h]; omega
        · rw [if_neg h, if_neg h, ge_zero w r (fun t ht => by have := g2 t ht; omega)]; omega
theorem all_cut : ∀ (acc : Int) (st : List Stp) (z : Int), Good st → 0 ≤ z → allS (cutF acc st z).2 = max 0 (allS st - z)
  | acc, [], z, _, h => by simp only [cutF, allS]; omega
  | acc, s :: r, z, ⟨g1, g2, g3⟩, hz => by
    have n0 := all_nonneg r g3
    simp only [cutF]
    split
    · have ih := all_cut (acc + s.1 * s.2) r (z - s.2) g3 (by omega)
      rw [ih]
      simp only [allS]; omega
    · split
      · rename_i h; subst h
        simp only [allS]; omega
      · simp only [allS]; omega
theorem cut_acc : ∀ (acc : Int) (st : List Stp) (z : Int), (cutF acc st z).1 = acc + (cutF 0 st z).1 ∧ (cutF acc st z).2 = (cutF 0 st z).2
  | acc, [], z => ⟨by simp only [cutF]; omega, rfl⟩
  | acc, s :: r, z => by
    simp only [cutF]
    split
    · have h1 := cut_acc (acc + s.1 * s.2) r (z - s.2)
      have h2 := cut_acc (0 + s.1 * s.2) r (z - s.2)
      exact ⟨by rw [h1.1, h2.1]; omega, by rw [h1.2, h2.2]⟩
    · split
      · exact ⟨by show acc = acc + 0; omega, rfl⟩
      · exact ⟨by show acc + s.1 * z = acc + (0 + s.1 * z); omega, rfl⟩
/-- what the first z are worth together -/
def topS (st : List Stp) (z : Int) : Int := (cutF 0 st z).1
theorem top_nil (z : Int) : topS [] z = 0 := rfl
theorem top_take {s : Stp} {r : List Stp} {z : Int} (h : s.2 ≤ z) : topS (s :: r) z = s.1 * s.2 + topS r (z - s.2) := by
  unfold topS
  simp only [cutF]
  rw [if_pos h, (cut_acc _ _ _).1]; omega
theorem top_part {s : Stp} {r : List Stp} {z : Int} (h : ¬ s.2 ≤ z) : topS (s :: r) z = s.1 * z := by
  unfold topS
  simp only [cutF]
  rw [if_neg h]
  split
  · rename_i h; rw [h, Int.mul_zero]
  · show 0 + s.1 * z = _; omega
theorem top_zero : ∀ (st : List Stp), Good st → topS st 0 = 0
  | [], _ => rfl
  | s :: r, ⟨g1, g2, g3⟩ => by
    by_cases h : s.2 ≤ 0
    · have e : s.2 = 0 := by omega
      rw [top_take h, e, Int.mul_zero]
      show 0 + topS r (0 - 0) = 0
      rw [show (0 : Int) - 0 = 0 by omega, top_zero r g3]; rfl
    · rw [top_part h, Int.mul_zero]
/-- where w supports at z -/
theorem top_sup (w : Int) : ∀ (st : List Stp) (z : Int), Good st → 0 ≤ z → gtS w st ≤ z → z ≤ geS w st → topS st z = w * z + potS w st
  | [], z, _, h0, h1, h2 => by
    simp only [gtS, geS] at h1 h2
    have e : z = 0 := by omega
    subst e
    rw [top_nil, Int.mul_zero]; rfl
  | s :: r, z, ⟨g1, g2, g3⟩, h0, h1, h2 => by
    have n0 := gt_nonneg w r g3
    simp only [gtS, geS] at h1 h2
    simp only [potS]
    by_cases hl : s.2 ≤ z
    · rw [top_take hl]
      rcases Int.lt_trichotomy s.1 w with q | q | q
      · rw [if_neg (by omega), gt_zero w r (fun t ht => by have := g2 t ht; omega)] at h1
        rw [if_neg (by omega), ge_zero w r (fun t ht => by have := g2 t ht; omega)] at h2
        have e : z = 0 := by omega
        have e2 : s.2 = 0 := by omega
        subst e
        rw [e2, pot_zero w r (fun t ht => by have := g2 t ht; omega), Int.mul_zero, Int.mul_zero, Int.zero_mul, show (0 : Int) - 0 = 0 by omega, top_zero r g3]; rfl
      · rw [if_neg (by omega), gt_zero w r (fun t ht => by have := g2 t ht; omega)] at h1
        rw [if_pos (by omega)] at h2
        have ih := top_sup w r (z - s.2) g3 (by omega) (by rw [gt_zero w r (fun t ht => by have := g2 t ht; omega)]; omega) (by omega)
        rw [ih, q, show max 0 (w - w) = 0 by omega, Int.mul_zero, Int.mul_sub]; omega
      · rw [if_pos (by omega)] at h1 h2
        have ih := top_sup w r (z - s.2) g3 (by omega) (by omega) (by omega)
        rw [ih, show max 0 (s.1 - w) = s.1 - w by omega, Int.mul_sub, Int.mul_sub, Int.mul_comm s.1 s.2, Int.mul_comm w s.2]; omega
    · rw [top_part hl]
      have q1 : s.1 ≤ w := by
        by_cases q : s.1 ≤ w
        · exact q
        · rw [if_pos (by omega)] at h1; omega
      by_cases hz : z = 0
      · subst hz
        rw [show max 0 (s.1 - w) = 0 by omega, pot_zero w r (fun t ht => by have := g2 t ht; omega), Int.mul_zero, Int.mul_zero, Int.mul_zero]; rfl
      · have q2 : s.1 = w := by
          by_cases q : w ≤ s.1
          · omega
          · rw [if_neg (by omega), ge_zero w r (fun t ht => by have := g2 t ht; omega)] at h2; omega
        rw [show max 0 (s.1 - w) = 0 by omega, pot_zero w r (fun t ht => by have := g2 t ht; omega), Int.mul_zero, q2]; omega
theorem top_add : ∀ (st : List Stp) (m y : Int), Good st → 0 ≤ m → 0 ≤ y → topS st (m + y) = topS st m + topS (cutF 0 st m).2 y
  | [], m, y, _, _, _ => rfl
  | s :: r, m, y, ⟨g1, g2, g3⟩, hm, hy => by
    by_cases h : s.2 ≤ m
    · have e : (cutF 0 (s :: r) m).2 = (cutF 0 r (m - s.2)).2 := by
        simp only [cutF]
        rw [if_pos h]
        exact (cut_acc _ _ _).2
      rw [top_take h, top_take (by omega), e, show m + y - s.2 = (m - s.2) + y by omega, top_add r (m - s.2) y g3 (by omega) hy]; omega
    · by_cases h0 : m = 0
      · subst h0
        have e : (cutF 0 (s :: r) 0).2 = s :: r := by
          simp only [cutF]
          rw [if_neg h, if_pos trivial]
        rw [e, top_zero (s :: r) ⟨g1, g2, g3⟩, show (0 : Int) + y = y by omega]; omega
      · have e : (cutF 0 (s :: r) m).2 = (s.1, s.2 - m) :: r := by
          simp only [cutF]
          rw [if_neg h, if_neg h0]
        rw [e, top_part h]
        by_cases h2 : s.2 ≤ m + y
        · rw [top_take h2, top_take (s := (s.1, s.2 - m)) (by show s.2 - m ≤ y; omega)]
          show s.1 * s.2 + topS r (m + y - s.2) = s.1 * m + (s.1 * (s.2 - m) + topS r (y - (s.2 - m)))
          rw [show m + y - s.2 = y - (s.2 - m) by omega, Int.mul_sub]; omega
        · rw [top_part h2, top_part (s := (s.1, s.2 - m)) (by show ¬ s.2 - m ≤ y; omega)]
          show s.1 * (m + y) = s.1 * m + s.1 * y
          rw [Int.mul_add]
theorem top_kept : ∀ (st : List Stp) (R y : Int), Good st → 0 ≤ y → y ≤ R → topS (keptF st R) y = topS st y
  | [], R, y, _, _, _ => rfl
  | s :: r, R, y, ⟨g1, g2, g3⟩, h0, hy => by
    simp only [keptF]
    split
    · by_cases h : s.2 ≤ y
      · have e : min s.2 R = s.2 := by omega
        rw [e, top_take (s := (s.1, s.2)) h, top_take h]
        show s.1 * s.2 + topS (keptF r (R - s.2)) (y - s.2) = _
        rw [top_kept r (R - s.2) (y - s.2) g3 (by omega) (by omega)]
      · rw [top_part h]
        by_cases h2 : min s.2 R ≤ y
        · rw [top_take (s := (s.1, min s.2 R)) h2]
          have e : R = y := by omega
          have e2 : min s.2 R = y := by omega
          show s.1 * min s.2 R + topS (keptF r (R - min s.2 R)) (y - min s.2 R) = _
          rw [e2, e, show y - y = 0 by omega, top_zero _ (kept_good r 0 g3 (Int.le_refl _))]; omega
        · rw [top_part (s := (s.1, min s.2 R)) h2]
    · have e : y = 0 := by omega
      subst e
      rw [top_zero _ (kept_good r R g3 (by omega)), top_zero (s :: r) ⟨g1, g2, g3⟩]
end Gs

/-! Dealings, worths, and the best of them. Plain Lean. -/
namespace Gs
/-! ### bounds -/
def dayBound (d : Day) (w : Int) : Int := d.2.1 * max 0 (w - d.1) + d.2.2.2 * max 0 (d.2.2.1 - w)
def boundFrom (R : Int) : Option Int → List Day → List Int → Int
  | prev, d :: ds, w :: ws => dayBound d w + (match prev with
      | none => 0
      | some p => R * max 0 (w - p)) + boundFrom R (some w) ds ws
  | _, _, _ => 0
def boundOf (days : List Day) (R : Int) (worths : List Int) : Int := boundFrom R none days worths
/-- a dealing that can be, from a store of x on -/
def Feas (R : Int) : List Day → Int → List Deed → Prop
  | [], _, [] => True
  | d :: ds, x, b :: bs => okDeed d R (x + b.1 - b.2) b = true ∧ Feas R ds (x + b.1 - b.2) bs
  | _, _, _ => False
theorem okDeed_iff {d : Day} {R y : Int} {b : Deed} : okDeed d R y b = true ↔ (0 ≤ b.1 ∧ b.1 ≤ d.2.1) ∧ (0 ≤ b.2 ∧ b.2 ≤ d.2.2.2) ∧ 0 ≤ y ∧ y ≤ R := by
  unfold okDeed
  simp only [Bool.and_eq_true, decide_eq_true_eq]
  constructor
  · rintro ⟨⟨⟨a, b⟩, c, d⟩, e, f⟩; exact ⟨⟨a, b⟩, ⟨c, d⟩, e, f⟩
  · rintro ⟨⟨a, b⟩, ⟨c, d⟩, e, f⟩; exact ⟨⟨⟨a, b⟩, c, d⟩, e, f⟩
theorem fault_feas (R : Int) : ∀ (ds : List Day) (x i : Int) (bs : List Deed), 0 ≤ i → ds.length = bs.length → (faultFrom ds R x i bs = -1 ↔ Feas R ds x bs)
  | [], x, i, [], _, _ => by simp [faultFrom, Feas]
  | [], _, _, _ :: _, _, h => by simp at h
  | _ :: _, _, _, [], _, h => by simp at h
  | d :: ds, x, i, b :: bs, hi, h => by
    have ih := fault_feas R ds (x + b.1 - b.2) (i + 1) bs (by omega) (by simpa using h)
    simp only [faultFrom, Feas]
    split
    · rename_i q
      rw [ih]
      exact ⟨fun z => ⟨q, z⟩, fun z => z.2⟩
    · rename_i q
      exact ⟨fun z => by omega, fun z => absurd z.1 q⟩
theorem fault_nonneg (R : Int) : ∀ (ds : List Day) (x i : Int) (bs : List Deed), 0 ≤ i → faultFrom ds R x i bs = -1 ∨ i ≤ faultFrom ds R x i bs
  | [], x, i, _, _ => .inl (by simp [faultFrom])
  | _ :: _, _, _, [], _ => .inl (by simp [faultFrom])
  | d :: ds, x, i, b :: bs, hi => by
    simp only [faultFrom]
    split
    · rcases fault_nonneg R ds (x + b.1 - b.2) (i + 1) bs (by omega) with h | h
      · exact .inl h
      · exact .inr (by omega)
    · exact .inr (Int.le_refl _)
def gainFrom : List Day → List Deed → Int
  | d :: ds, b :: bs => gainD d b + gainFrom ds bs
  | _, _ => 0
theorem gainOf_eq : ∀ (ds : List Day) (bs : List Deed), gainOf ds bs = gainFrom ds bs
  | [], _ => by simp [gainOf, gainFrom]
  | _ :: _, [] => by simp [gainOf, gainFrom]
  | d :: ds, b :: bs => by
    have ih := gainOf_eq ds bs
    unfold gainOf at ih ⊢
    simp only [List.zipWith_cons_cons, List.sum_cons, gainFrom, ih]
theorem mul_max {a b m : Int} (h0 : 0 ≤ b) (h1 : b ≤ m) : a * b ≤ m * max 0 a := by
  by_cases h : 0 ≤ a
  · rw [show max 0 a = a by omega, Int.mul_comm m a]
    exact Int.mul_le_mul_of_nonneg_left h1 h
  · rw [show max 0 a = 0 by omega, Int.mul_zero]
    exact Int.mul_nonpos_of_nonpos_of_nonneg (by omega) h0
theorem mul_max_eq {a b m : Int} (h0 : 0 < a → b = m) (h1 : a < 0 → b = 0) : a * b = m * max 0 a := by
  rcases Int.lt_trichotomy a 0 with h | h | h
  · rw [show max 0 a = 0 by omega, h1 h, Int.mul_zero, Int.mul_zero]
  · rw [h]; simp
  · rw [show max 0 a = a by omega, h0 h, Int.mul_comm]
theorem gain_split (d : Day) (b : Deed) (w : Int) : gainD d b = (w - d.1) * b.1 + (d.2.2.1 - w) * b.2 + w * (b.2 - b.1) := by
  unfold gainD
  rw [Int.sub_mul, Int.sub_mul, Int.mul_sub, Int.mul_comm b.2, Int.mul_comm b.1]; omega
/-- what a worth ahead asks of the first day's worth -/
def linkGain (prev : Option Int) (x : Int) : Int := match prev with
  | none => 0
  | some p => p * x
/-- no dealing that can be gains more than what the worths tell -/
theorem weak (R : Int) (hR : 0 ≤ R) : ∀ (ds : List Day) (x : Int) (bs : List Deed) (ws : List Int) (prev : Option Int), 0 ≤ x → x ≤ R → (prev = none → x = 0) → (∀ p, prev = some p → 0 ≤ p) → (∀ w ∈ ws, 0 ≤ w) → ws.length = ds.length → Feas R ds x bs →
    gainFrom ds bs ≤ boundFrom R prev ds ws + linkGain prev x
  | [], x, [], ws, prev, h0, _, hn, hp, _, _, _ => by
    simp only [gainFrom, boundFrom]
    cases prev with
    | none => exact Int.le_refl _
    | some p => show 0 ≤ 0 + p * x; have := Int.mul_nonneg (hp p rfl) h0; omega
  | [], _, _ :: _, _, _, _, _, _, _, _, _, h => by simp [Feas] at h
  | _ :: _, _, [], _, _, _, _, _, _, _, _, h => by simp [Feas] at h
  | d :: ds, x, b :: bs, [], prev, _, _, _, _, _, hl, _ => by simp at hl
  | d :: ds, x, b :: bs, w :: ws, prev, h0, hx, hn, hp, hw, hl, ⟨h1, h2⟩ => by
    obtain ⟨⟨a1, a2⟩, ⟨a3, a4⟩, a5, a6⟩ := okDeed_iff.mp h1
    have ih := weak R hR ds (x + b.1 - b.2) bs ws (some w) a5 a6 (fun h => nomatch h) (fun p h => by cases h; exact hw w List.mem_cons_self) (fun v hv => hw v (List.mem_cons_of_mem _ hv)) (by simpa using hl) h2
    have m1 := mul_max (a := w - d.1) a1 a2
    have m2 := mul_max (a := d.2.2.1 - w) a3 a4
    have gs := gain_split d b w
    simp only [gainFrom, boundFrom, dayBound]
    have ih : gainFrom ds bs ≤ boundFrom R (some w) ds ws + w * (x + b.1 - b.2) := ih
    have e : w * (b.2 - b.1) + w * (x + b.1 - b.2) = w * x := by rw [← Int.mul_add]; congr 1; omega
    cases prev with
    | none =>
      have := hn rfl
      subst this
      rw [Int.mul_zero] at e
      show gainD d b + gainFrom ds bs ≤ d.2.1 * max 0 (w - d.1) + d.2.2.2 * max 0 (d.2.2.1 - w) + 0 + boundFrom R (some w) ds ws + 0
      omega
    | some p =>
      have m3 := mul_max (a := w - p) h0 hx
      rw [Int.sub_mul] at m3
      show gainD d b + gainFrom ds bs ≤ d.2.1 * max 0 (w - d.1) + d.2.2.2 * max 0 (d.2.2.1 - w) + R * max 0 (w - p) + boundFrom R (some w) ds ws + p * x
      omega
/-! ### the best -/
def putDay (st : List Stp) (d : Day) : List Stp := putIn (putIn st d.1 d.2.1) d.2.2.1 d.2.2.2
def tab (R : Int) : List Day → Int × List Stp
  | [] => (0, [(0, R)])
  | d :: ds => ((tab R ds).1 - d.1 * d.2.1 + topS (putDay (tab R ds).2 d) d.2.1, keptF (cutF 0 (putDay (tab R ds).2 d) d.2.1).2 R)
def lastPos (st : List Stp) : Option Stp := (st.filter fun s => decide (s.2 > 0)).getLast?
def firstPos (st : List Stp) : Option Stp := (st.filter fun s => decide (s.2 > 0)).head?
def worthBelow (W : List Stp) (z : Int) : Int := match lastPos (keptF W z) with
  | some s => s.1
  | none => 0
def worthAbove (W : List Stp) (z : Int) : Int := match firstPos (cutF 0 W z).2 with
  | some s => s.1
  | none => worthBelow W z
def deedF (d : Day) (st : List Stp) (x w : Int) : Deed :=
  let low := if w > d.1 then d.2.1 else 0
  let high := if w ≥ d.1 then d.2.1 else 0
  let least := if w < d.2.2.1 then d.2.2.2 else 0
  let greatest := if w ≤ d.2.2.1 then d.2.2.2 else 0
  let floor := gtS w st
  let bought := max low (floor - x + least)
  (min bought high, min greatest (bought + x - floor))
def worthF (R : Int) (d : Day) (ds : List Day) (x : Int) (prev : Int) : Int :=
  if x = 0 then worthAbove (putDay (tab R ds).2 d) (d.2.1 + 0) else if x = R then worthBelow (putDay (tab R ds).2 d) (d.2.1 + x) else prev
def bestF (R : Int) : List Day → Int → Int → List Deed × List Int
  | [], _, _ => ([], [])
  | d :: ds, x, prev =>
    let w := worthF R d ds x prev
    let b := deedF d (tab R ds).2 x w
    let r := bestF R ds (x + b.1 - b.2) w
    (b :: r.1, w :: r.2)
/-- w supports at z -/
def Sup (w : Int) (st : List Stp) (z : Int) : Prop := gtS w st ≤ z ∧ z ≤ geS w st
theorem gt_day (w : Int) (st : List Stp) (d : Day) : gtS w (putDay st d) = gtS w st + (if d.1 > w then d.2.1 else 0) + (if d.2.2.1 > w then d.2.2.2 else 0) := by
  unfold putDay; rw [gt_put, gt_put]
theorem ge_day (w : Int) (st : List Stp) (d : Day) : geS w (putDay st d) = geS w st + (if d.1 ≥ w then d.2.1 else 0) + (if d.2.2.1 ≥ w then d.2.2.2 else 0) := by
  unfold putDay; rw [ge_put, ge_put]
theorem all_day (st : List Stp) (d : Day) : allS (putDay st d) = allS st + d.2.1 + d.2.2.2 := by
  unfold putDay; rw [all_put, all_put]
theorem pot_day (w : Int) (st : List Stp) (d : Day) : potS w (putDay st d) = potS w st + d.2.1 * max 0 (d.1 - w) + d.2.2.2 * max 0 (d.2.2.1 - w) := by
  unfold putDay; rw [pot_put, pot_put]
theorem good_day {st : List Stp} {d : Day} (h : Good st) (g : goodDay d) : Good (putDay st d) := good_put _ _ _ (good_put _ _ _ h g.2.1) g.2.2.2
theorem tab_good (R : Int) (hR : 0 ≤ R) : ∀ ds : List Day, (∀ d ∈ ds, goodDay d) → Good (tab R ds).2 ∧ allS (tab R ds).2 = R
  | [], _ => ⟨⟨hR, by simp, trivial⟩, by show R + 0 = R; omega⟩
  | d :: ds, h => by
    obtain ⟨g, a⟩ := tab_good R hR ds fun x hx => h x (List.mem_cons_of_mem _ hx)
    have gd := h d List.mem_cons_self
    have gw := good_day g gd
    have gc := cut_good 0 _ d.2.1 gw gd.2.1
    refine ⟨kept_good _ R gc hR, ?_⟩
    show allS (keptF _ R) = R
    rw [all_kept _ R gc hR, all_cut 0 _ _ gw gd.2.1, all_day, a]
    have := gd.2.1
    have := gd.2.2.2
    omega
theorem all_zero_of : ∀ st : List Stp, Good st → lastPos st = none → allS st = 0
  | [], _, _ => rfl
  | s :: r, ⟨g1, g2, g3⟩, h => by
    unfold lastPos at h
    rw [List.getLast?_eq_none_iff, List.filter_eq_nil_iff] at h
    have h1 := h s List.mem_cons_self
    have h2 : lastPos r = none := by
      unfold lastPos
      rw [List.getLast?_eq_none_iff, List.filter_eq_nil_iff]
      exact fun x hx => h x (List.mem_cons_of_mem _ hx)
    have ih := all_zero_of r g3 h2
    simp only [decide_eq_true_eq] at h1
    simp only [allS, ih]; omega
theorem first_none {st : List Stp} (g : Good st) (h : firstPos st = none) : allS st = 0 := by
  refine all_zero_of st g ?_
  unfold firstPos at h
  unfold lastPos
  rw [List.head?_eq_none_iff] at h
  rw [h]; rfl
theorem last_some : ∀ (st : List Stp) (s : Stp), Good st → lastPos st = some s → s ∈ st ∧ geS s.1 st = allS st ∧ gtS s.1 st < allS st
  | [], _, _, h => by simp [lastPos] at h
  | t :: r, s, ⟨g1, g2, g3⟩, h => by
    cases q : lastPos r with
    | none =>
      have z := all_zero_of r g3 q
      have e : s = t ∧ t.2 > 0 := by
        unfold lastPos at h q
        rw [List.getLast?_eq_none_iff] at q
        rw [List.filter_cons, q] at h
        split at h
        · rename_i hp
          simp at h
          exact ⟨h.symm, of_decide_eq_true hp⟩
        · simp at h
      obtain ⟨rfl, hp⟩ := e
      have a1 := ge_le_all s.1 r g3
      have a2 := ge_nonneg s.1 r g3
      have a3 := gt_nonneg s.1 r g3
      have a4 := gt_le_ge s.1 r g3
      refine ⟨List.mem_cons_self, ?_, ?_⟩
      · simp only [geS, allS]; rw [if_pos (by omega)]; omega
      · simp only [gtS, allS]; rw [if_neg (by omega)]; omega
    | some v =>
      have e : s = v := by
        unfold lastPos at h q
        rw [List.filter_cons] at h
        split at h
        · rw [List.getLast?_cons, q] at h
          simpa using h.symm
        · rw [q] at h
          exact (Option.some.inj h).symm
      subst e
      obtain ⟨h1, h2, h3⟩ := last_some r s g3 q
      have := g2 s h1
      refine ⟨List.mem_cons_of_mem _ h1, ?_, ?_⟩
      · simp only [geS, allS]; rw [if_pos (by omega)]; omega
      · simp only [gtS, allS]; rw [if_pos (by omega)]; omega
theorem first_some : ∀ (st : List Stp) (s : Stp), Good st → firstPos st = some s → s ∈ st ∧ gtS s.1 st = 0 ∧ 0 < geS s.1 st
  | [], _, _, h => by simp [firstPos] at h
  | t :: r, s, ⟨g1, g2, g3⟩, h => by
    by_cases hp : t.2 > 0
    · have e : t = s := by
        unfold firstPos at h
        rw [List.filter_cons, if_pos (decide_eq_true hp)] at h
        exact Option.some.inj h
      subst e
      have a2 := ge_nonneg t.1 r g3
      refine ⟨List.mem_cons_self, ?_, ?_⟩
      · simp only [gtS]; rw [if_neg (by omega), gt_zero t.1 r fun x hx => by have := g2 x hx; omega]; rfl
      · simp only [geS]; rw [if_pos (by omega)]; omega
    · have h' : firstPos r = some s := by
        unfold firstPos at h ⊢
        rw [List.filter_cons, if_neg (by simpa using hp)] at h
        exact h
      obtain ⟨h1, h2, h3⟩ := first_some r s g3 h'
      have := g2 s h1
      refine ⟨List.mem_cons_of_mem _ h1, ?_, ?_⟩
      · simp only [gtS]; rw [if_pos (by omega)]; omega
      · simp only [geS]; rw [if_pos (by omega)]; omega
/-- the worth below supports -/
theorem below_sup {W : List Stp} {z : Int} (g : Good W) (h0 : 0 ≤ z) (h1 : z ≤ allS W) (hz : 0 < z ∨ allS W = 0) : Sup (worthBelow W z) W z ∧ (0 < z → gtS (worthBelow W z) W < z) := by
  unfold worthBelow
  have gk := kept_good W z g h0
  have ak := all_kept W z g h0
  cases q : lastPos (keptF W z) with
  | none =>
    have a0 := all_zero_of _ gk q
    have e : z = 0 := by omega
    subst e
    have a1 := gt_le_ge 0 W g
    have a2 := ge_le_all 0 W g
    show Sup 0 W 0 ∧ ((0 : Int) < 0 → gtS 0 W < 0)
    refine ⟨⟨?_, ge_nonneg _ W g⟩, fun h => absurd h (by omega)⟩
    omega
  | some s =>
    obtain ⟨_, h2, h3⟩ := last_some _ s gk q
    rw [ge_kept s.1 W z g h0, ak] at h2
    rw [gt_kept s.1 W z g h0, ak] at h3
    show Sup s.1 W z ∧ (0 < z → gtS s.1 W < z)
    exact ⟨⟨by omega, by omega⟩, fun _ => by omega⟩
theorem above_sup {W : List Stp} {z : Int} (g : Good W) (h0 : 0 ≤ z) (h1 : z ≤ allS W) : Sup (worthAbove W z) W z ∧ (z < allS W → z < geS (worthAbove W z) W) := by
  unfold worthAbove
  have gc := cut_good 0 W z g h0
  have ac := all_cut 0 W z g h0
  cases q : firstPos (cutF 0 W z).2 with
  | none =>
    have a0 := first_none gc q
    have e : allS W = z := by omega
    have b := below_sup g h0 h1 (by omega)
    exact ⟨b.1, fun h => absurd h (by omega)⟩
  | some s =>
    obtain ⟨_, h2, h3⟩ := first_some _ s gc q
    rw [gt_cut s.1 0 W z g h0] at h2
    rw [ge_cut s.1 0 W z g h0] at h3
    show Sup s.1 W z ∧ (z < allS W → z < geS s.1 W)
    exact ⟨⟨by omega, by omega⟩, fun _ => by omega⟩
theorem worth_mem_below {W : List Stp} {z : Int} : worthBelow W z = 0 ∨ ∃ s ∈ W, s.1 = worthBelow W z := by
  unfold worthBelow
  cases q : lastPos (keptF W z) with
  | none => exact .inl rfl
  | some s =>
    right
    have h : s ∈ keptF W z := by
      unfold lastPos at q
      exact (List.mem_filter.mp (List.mem_of_getLast? q)).1
    exact kept_mem W z s h
theorem worth_mem_above {W : List Stp} {z : Int} : worthAbove W z = 0 ∨ ∃ s ∈ W, s.1 = worthAbove W z := by
  unfold worthAbove
  cases q : firstPos (cutF 0 W z).2 with
  | none => exact worth_mem_below
  | some s =>
    right
    have h : s ∈ (cutF 0 W z).2 := by
      unfold firstPos at q
      exact (List.mem_filter.mp (List.mem_of_mem_head? (by rw [q]; rfl))).1
    exact cut_mem 0 W z s h
/-- every worth in the tables is 0 or a day's price -/
theorem tab_worths (R : Int) (Pr : Int → Prop) (h0 : Pr 0) : ∀ ds : List Day, (∀ d ∈ ds, Pr d.1 ∧ Pr d.2.2.1) → ∀ s ∈ (tab R ds).2, Pr s.1
  | [], _, s, h => by
    simp only [tab, List.mem_singleton] at h
    subst h; exact h0
  | d :: ds, hp, s, h => by
    have ih := tab_worths R Pr h0 ds fun x hx => hp x (List.mem_cons_of_mem _ hx)
    have hd := hp d List.mem_cons_self
    obtain ⟨s1, m1, e1⟩ := kept_mem _ _ s h
    obtain ⟨s2, m2, e2⟩ := cut_mem _ _ _ s1 m1
    rw [← e1, ← e2]
    rcases put_mem _ _ _ s2 m2 with q | ⟨s3, m3, e3⟩
    · rw [q]; exact hd.2
    · rw [← e3]
      rcases put_mem _ _ _ s3 m3 with q | ⟨s4, m4, e4⟩
      · rw [q]; exact hd.1
      · rw [← e4]; exact ih s4 m4
theorem wide_worths (R : Int) (Pr : Int → Prop) (h0 : Pr 0) (d : Day) (ds : List Day) (hp : ∀ x ∈ d :: ds, Pr x.1 ∧ Pr x.2.2.1) : ∀ s ∈ putDay (tab R ds).2 d, Pr s.1 := fun s m2 => by
  have ih := tab_worths R Pr h0 ds fun x hx => hp x (List.mem_cons_of_mem _ hx)
  have hd := hp d List.mem_cons_self
  rcases put_mem _ _ _ s m2 with q | ⟨s3, m3, e3⟩
  · rw [q]; exact hd.2
  · rw [← e3]
    rcases put_mem _ _ _ s3 m3 with q | ⟨s4, m4, e4⟩
    · rw [q]; exact hd.1
    · rw [← e4]; exact ih s4 m4
theorem worthF_pr (R : Int) (Pr : Int → Prop) (h0 : Pr 0) (d : Day) (ds : List Day) (x prev : Int) (hp : ∀ x ∈ d :: ds, Pr x.1 ∧ Pr x.2.2.1) (hv : Pr prev) : Pr (worthF R d ds x prev) := by
  have hw := wide_worths R Pr h0 d ds hp
  unfold worthF
  split
  · rcases worth_mem_above (W := putDay (tab R ds).2 d) (z := d.2.1 + 0) with q | ⟨s, m, e⟩
    · rw [q]; exact h0
    · rw [← e]; exact hw s m
  · split
    · rcases worth_mem_below (W := putDay (tab R ds).2 d) (z := d.2.1 + x) with q | ⟨s, m, e⟩
      · rw [q]; exact h0
      · rw [← e]; exact hw s m
    · exact hv
theorem gt_tab (R w : Int) (d : Day) (ds : List Day) (hR : 0 ≤ R) (h : ∀ x ∈ d :: ds, goodDay x) : gtS w (tab R (d :: ds)).2 = min (max 0 (gtS w (putDay (tab R ds).2 d) - d.2.1)) R := by
  obtain ⟨g, a⟩ := tab_good R hR ds fun x hx => h x (List.mem_cons_of_mem _ hx)
  have gd := h d List.mem_cons_self
  have gw := good_day g gd
  show gtS w (keptF _ R) = _
  rw [gt_kept w _ R (cut_good 0 _ _ gw gd.2.1) hR, gt_cut w 0 _ _ gw gd.2.1]
theorem ge_tab (R w : Int) (d : Day) (ds : List Day) (hR : 0 ≤ R) (h : ∀ x ∈ d :: ds, goodDay x) : geS w (tab R (d :: ds)).2 = min (max 0 (geS w (putDay (tab R ds).2 d) - d.2.1)) R := by
  obtain ⟨g, a⟩ := tab_good R hR ds fun x hx => h x (List.mem_cons_of_mem _ hx)
  have gd := h d List.mem_cons_self
  have gw := good_day g gd
  show geS w (keptF _ R) = _
  rw [ge_kept w _ R (cut_good 0 _ _ gw gd.2.1) hR, ge_cut w 0 _ _ gw gd.2.1]
/-- the worth that is taken supports, and moves only as it may -/
theorem worth_ok (R x p : Int) (d : Day) (ds : List Day) (hR : 0 ≤ R) (hx0 : 0 ≤ x) (hx1 : x ≤ R) (h : ∀ x ∈ d :: ds, goodDay x) (hp : x = 0 ∨ Sup p (tab R (d :: ds)).2 x) :
    Sup (worthF R d ds x p) (putDay (tab R ds).2 d) (d.2.1 + x) ∧ (Sup p (tab R (d :: ds)).2 x → (p < worthF R d ds x p → x = R) ∧ (worthF R d ds x p < p → x = 0)) := by
  obtain ⟨g, a⟩ := tab_good R hR ds fun x hx => h x (List.mem_cons_of_mem _ hx)
  have gd := h d List.mem_cons_self
  have gw := good_day g gd
  have aw := all_day (tab R ds).2 d
  have d1 := gd.2.1
  have d2 := gd.2.2.2
  unfold worthF
  split
  · rename_i hx
    subst hx
    obtain ⟨s1, s2⟩ := above_sup (z := d.2.1 + 0) gw (by omega) (by omega)
    refine ⟨s1, fun ⟨q1, q2⟩ => ⟨fun hlt => ?_, fun _ => rfl⟩⟩
    rw [gt_tab R p d ds hR h] at q1
    have q := ge_le_gt hlt _ gw
    by_cases hr : R = 0
    · exact hr.symm
    · have := s2 (by omega)
      omega
  · rename_i hx
    split
    · rename_i hxR
      subst hxR
      obtain ⟨s1, s2⟩ := below_sup (z := d.2.1 + x) gw (by omega) (by omega) (by omega)
      refine ⟨s1, fun ⟨q1, q2⟩ => ⟨fun _ => rfl, fun hlt => ?_⟩⟩
      rw [ge_tab x p d ds hR h] at q2
      have q := ge_le_gt hlt _ gw
      have := s2 (by omega)
      omega
    · rename_i hxR
      refine ⟨?_, fun _ => ⟨fun h => absurd h (Int.lt_irrefl _), fun h => absurd h (Int.lt_irrefl _)⟩⟩
      rcases hp with hp | ⟨q1, q2⟩
      · exact absurd hp hx
      · rw [gt_tab R p d ds hR h] at q1
        rw [ge_tab R p d ds hR h] at q2
        exact ⟨by omega, by omega⟩
theorem ifs (w p m : Int) : (w < p ∧ (if w > p then m else 0) = 0 ∧ (if w ≥ p then m else 0) = 0 ∧ (if p > w then m else 0) = m ∧ (if p ≥ w then m else 0) = m ∧ (if w < p then m else 0) = m ∧ (if w ≤ p then m else 0) = m) ∨
    (w = p ∧ (if w > p then m else 0) = 0 ∧ (if w ≥ p then m else 0) = m ∧ (if p > w then m else 0) = 0 ∧ (if p ≥ w then m else 0) = m ∧ (if w < p then m else 0) = 0 ∧ (if w ≤ p then m else 0) = m) ∨
    (p < w ∧ (if w > p then m else 0) = m ∧ (if w ≥ p then m else 0) = m ∧ (if p > w then m else 0) = 0 ∧ (if p ≥ w then m else 0) = 0 ∧ (if w < p then m else 0) = 0 ∧ (if w ≤ p then m else 0) = 0) := by
  rcases Int.lt_trichotomy w p with q | q | q
  · exact .inl ⟨q, if_neg (by omega), if_neg (by omega), if_pos q, if_pos (by omega), if_pos q, if_pos (by omega)⟩
  · exact .inr (.inl ⟨q, if_neg (by omega), if_pos (by omega), if_neg (by omega), if_pos (by omega), if_neg (by omega), if_pos (by omega)⟩)
  · exact .inr (.inr ⟨q, if_pos (by omega), if_pos (by omega), if_neg (by omega), if_neg (by omega), if_neg (by omega), if_neg (by omega)⟩)
theorem deed_ok {R x w : Int} {d : Day} {st : List Stp} (g : Good st) (ha : allS st = R) (gd : goodDay d) (hs : Sup w (putDay st d) (d.2.1 + x)) :
    okDeed d R (x + (deedF d st x w).1 - (deedF d st x w).2) (deedF d st x w) = true ∧ Sup w st (x + (deedF d st x w).1 - (deedF d st x w).2) ∧ (0 < w - d.1 → (deedF d st x w).1 = d.2.1) ∧ (w - d.1 < 0 → (deedF d st x w).1 = 0) ∧ (0 < d.2.2.1 - w → (deedF d st x w).2 = d.2.2.2) ∧ (d.2.2.1 - w < 0 → (deedF d st x w).2 = 0) := by
  obtain ⟨h1, h2⟩ := hs
  rw [gt_day] at h1
  rw [ge_day] at h2
  have d1 := gd.2.1
  have d2 := gd.2.2.2
  have n0 := gt_nonneg w st g
  have n1 := gt_le_ge w st g
  have n2 := ge_le_all w st g
  rw [okDeed_iff]
  unfold Sup deedF
  dsimp only
  rcases ifs w d.1 d.2.1 with ⟨q, e1, e2, e3, e4, e5, e6⟩ | ⟨q, e1, e2, e3, e4, e5, e6⟩ | ⟨q, e1, e2, e3, e4, e5, e6⟩ <;>
    rcases ifs w d.2.2.1 d.2.2.2 with ⟨q', f1, f2, f3, f4, f5, f6⟩ | ⟨q', f1, f2, f3, f4, f5, f6⟩ | ⟨q', f1, f2, f3, f4, f5, f6⟩ <;>
    (rw [e3, f3] at h1; rw [e4, f4] at h2; rw [e1, e2, f5, f6]; clear e1 e2 e3 e4 e5 e6 f1 f2 f3 f4 f5 f6; omega)
/-- what there is to gain with a store of x -/
def valF (R : Int) (ds : List Day) (x : Int) : Int := (tab R ds).1 + topS (tab R ds).2 x
theorem val_step {R x w : Int} {d : Day} {ds : List Day} (hR : 0 ≤ R) (hx0 : 0 ≤ x) (hx1 : x ≤ R) (h : ∀ x ∈ d :: ds, goodDay x) (b : Deed) (hs : Sup w (putDay (tab R ds).2 d) (d.2.1 + x)) (hy : Sup w (tab R ds).2 (x + b.1 - b.2)) (hy0 : 0 ≤ x + b.1 - b.2)
    (c1 : 0 < w - d.1 → b.1 = d.2.1) (c2 : w - d.1 < 0 → b.1 = 0) (c3 : 0 < d.2.2.1 - w → b.2 = d.2.2.2) (c4 : d.2.2.1 - w < 0 → b.2 = 0) : valF R (d :: ds) x = gainD d b + valF R ds (x + b.1 - b.2) := by
  obtain ⟨g, a⟩ := tab_good R hR ds fun x hx => h x (List.mem_cons_of_mem _ hx)
  have gd := h d List.mem_cons_self
  have gw := good_day g gd
  have e1 : topS (tab R (d :: ds)).2 x = topS (putDay (tab R ds).2 d) (d.2.1 + x) - topS (putDay (tab R ds).2 d) d.2.1 := by
    show topS (keptF _ R) x = _
    rw [top_kept _ R x (cut_good 0 _ _ gw gd.2.1) hx0 hx1, top_add _ _ _ gw gd.2.1 hx0]; omega
  have e2 := top_sup w _ (d.2.1 + x) gw (by have := gd.2.1; omega) hs.1 hs.2
  have e3 := top_sup w _ (x + b.1 - b.2) g hy0 hy.1 hy.2
  have m1 := mul_max_eq (a := w - d.1) (b := b.1) (m := d.2.1) c1 c2
  have m2 := mul_max_eq (a := d.2.2.1 - w) (b := b.2) (m := d.2.2.2) c3 c4
  have gs := gain_split d b w
  have pw := pot_day w (tab R ds).2 d
  unfold valF
  rw [e1, e2, e3, pw, gs, m1, m2]
  show (tab R ds).1 - d.1 * d.2.1 + topS (putDay (tab R ds).2 d) d.2.1 + _ = _
  have k1 : w * (d.2.1 + x) = w * d.2.1 + w * x := Int.mul_add _ _ _
  have k2 : w * (b.2 - b.1) + w * (x + b.1 - b.2) = w * x := by rw [← Int.mul_add]; congr 1; omega
  have k3 : d.2.1 * max 0 (w - d.1) - d.2.1 * max 0 (d.1 - w) = w * d.2.1 - d.1 * d.2.1 := by
    rw [← Int.mul_sub, ← Int.sub_mul, Int.mul_comm]
    congr 1
    omega
  omega
/-- the best: a dealing that can be, worths that show it, its gain what there is to gain -/
theorem best_ok (R : Int) (hR : 0 ≤ R) : ∀ (ds : List Day) (x p : Int) (prev : Option Int), (∀ d ∈ ds, goodDay d) → 0 ≤ x → x ≤ R → (prev = none → x = 0) → (∀ q, prev = some q → q = p) → 0 ≤ p → (x = 0 ∨ Sup p (tab R ds).2 x) → (prev ≠ none → Sup p (tab R ds).2 x) →
    Feas R ds x (bestF R ds x p).1 ∧ (bestF R ds x p).1.length = ds.length ∧ (bestF R ds x p).2.length = ds.length ∧ (∀ w ∈ (bestF R ds x p).2, 0 ≤ w) ∧
    gainFrom ds (bestF R ds x p).1 = boundFrom R prev ds (bestF R ds x p).2 + linkGain prev x ∧ gainFrom ds (bestF R ds x p).1 = valF R ds x
  | [], x, p, prev, _, h0, h1, hn, hq, hp, hs, hs2 => by
    have ex : ∀ q, prev = some q → q * x = 0 := fun q e => by
      have e2 := hq q e
      obtain ⟨_, s2⟩ := hs2 (by rw [e]; intro z; cases z)
      have s2 : x ≤ (if (0 : Int) ≥ p then R else 0) + 0 := s2
      rw [e2]
      by_cases hp0 : p = 0
      · rw [hp0, Int.zero_mul]
      · rw [if_neg (by omega)] at s2
        rw [show x = 0 by omega, Int.mul_zero]
    refine ⟨trivial, rfl, rfl, by simp [bestF], ?_, ?_⟩
    · cases prev with
      | none => rfl
      | some q => show 0 = 0 + q * x; rw [ex q rfl]; rfl
    · show 0 = 0 + topS [(0, R)] x
      by_cases q : R ≤ x
      · rw [top_take (s := (0, R)) q]; simp [top_nil]
      · rw [top_part (s := (0, R)) q]; simp
  | d :: ds, x, p, prev, h, h0, h1, hn, hq, hp, hs, hs2 => by
    obtain ⟨g, a⟩ := tab_good R hR ds fun x hx => h x (List.mem_cons_of_mem _ hx)
    have gd := h d List.mem_cons_self
    obtain ⟨w1, w2⟩ := worth_ok R x p d ds hR h0 h1 h hs
    obtain ⟨d1, d2, d3, d4, d5, d6⟩ := deed_ok g a gd w1
    have wn : 0 ≤ worthF R d ds x p := worthF_pr R (fun v => 0 ≤ v) (Int.le_refl _) d ds x p (fun y hy => ⟨(h y hy).1, (h y hy).2.2.1⟩) hp
    generalize hw : worthF R d ds x p = w at w1 w2 d1 d2 d3 d4 d5 d6 wn
    generalize hb : deedF d (tab R ds).2 x w = b at d1 d2 d3 d4 d5 d6
    obtain ⟨⟨a1, a2⟩, ⟨a3, a4⟩, a5, a6⟩ := okDeed_iff.mp d1
    obtain ⟨i1, i2, i3, i4, i5, i6⟩ := best_ok R hR ds (x + b.1 - b.2) w (some w) (fun y hy => h y (List.mem_cons_of_mem _ hy)) a5 a6 (fun z => nomatch z) (fun q e => (Option.some.inj e).symm) wn (.inr d2) (fun _ => d2)
    have e : bestF R (d :: ds) x p = (b :: (bestF R ds (x + b.1 - b.2) w).1, w :: (bestF R ds (x + b.1 - b.2) w).2) := by
      show (_, _) = _
      rw [hw, hb]
    rw [e]
    have gs := gain_split d b w
    have m1 := mul_max_eq (a := w - d.1) (b := b.1) (m := d.2.1) d3 d4
    have m2 := mul_max_eq (a := d.2.2.1 - w) (b := b.2) (m := d.2.2.2) d5 d6
    have k2 : w * (b.2 - b.1) + w * (x + b.1 - b.2) = w * x := by rw [← Int.mul_add]; congr 1; omega
    refine ⟨⟨d1, i1⟩, by simp [i2], by simp [i3], ?_, ?_, ?_⟩
    · intro v hv
      rcases List.mem_cons.mp hv with rfl | hv
      · exact wn
      · exact i4 v hv
    · have i5 : gainFrom ds (bestF R ds (x + b.1 - b.2) w).1 = boundFrom R (some w) ds (bestF R ds (x + b.1 - b.2) w).2 + w * (x + b.1 - b.2) := i5
      simp only [gainFrom, boundFrom, dayBound]
      cases prev with
      | none =>
        have := hn rfl
        subst this
        rw [Int.mul_zero] at k2
        show _ = _ + 0 + _ + 0
        omega
      | some q =>
        have e2 := hq q rfl
        subst e2
        obtain ⟨u1, u2⟩ := w2 (hs2 (fun z => nomatch z))
        have m3 := mul_max_eq (a := w - q) (b := x) (m := R) (fun z => u1 (by omega)) (fun z => u2 (by omega))
        rw [Int.sub_mul] at m3
        show _ = _ + R * max 0 (w - q) + _ + q * x
        omega
    · simp only [gainFrom]
      rw [i6]
      exact (val_step hR h0 h1 h b w1 d2 a5 d3 d4 d5 d6).symm
end Gs

/-! while; instances and their fields. -/
namespace Gs
open PySem L2 Evl
structure NaBest (K : PySem.W.Frag) (C : Addr) : Prop where
  dealing : NoAttr K C "dealing"
  worths : NoAttr K C "worths"
structure NaWorths (K : PySem.W.Frag) (C : Addr) : Prop where
  days : NoAttr K C "days"
  room : NoAttr K C "room"
  gains : NoAttr K C "gains"
  behind : NoAttr K C "behind"
  wide : NoAttr K C "wide"
section
variable {K : PySem.W.Frag} {σ : St} {G G' H : Hp} {ta tb tc te tl tx : TE} {t tt : TT} {d e : PyData} {ds es : List PyData} {D : Ends} {tu tw u : TS} {g : TG}
abbrev Pw (W : Nat → St → Hp → Hp → Prop) (m : Nat) : St → Hp → Prop := fun σ H => ∃ G m', m' < m ∧ W m' σ G H
theorem q_while (W : Nat → St → Hp → Hp → Prop) (m0 : Nat) (h0 : W m0 σ G H)
    (hs : ∀ m σ' G' H', W m σ' G' H' → Ex G' H' ∧ ∃ b, EvT t σ' G' b ∧ (b = true → ∀ H2, Ex H' H2 → tu { D with nx := Pw W m, ct := Pw W m, bk := u D } σ' H2) ∧ (b = false → ∀ H2, Ex H' H2 → u D σ' H2)) : tSeq (tWhile t tu) u D σ H :=
  ⟨fun m σ' H' => ∃ G', W m σ' G' H', ⟨m0, G, h0⟩, fun m σ' H' ⟨G', hw⟩ => by
    obtain ⟨a, b, hb, h1, h2⟩ := hs m σ' G' H' hw
    refine hb H' a _ fun H2 e => ?_
    cases b with
    | true => exact ⟨Pw W m, fun σ3 H3 ⟨G3, m', l, w⟩ => ⟨m', l, G3, w⟩, h1 rfl H2 e⟩
    | false => exact h2 rfl H2 e⟩
/-- o.f, o in slot i -/
theorem evd_fld {i : Nat} {x C dx : Addr} {fs : List (Str × V)} {f : Str} {v : V} (c : Cls K C) (n : NoAttr K C f) (hs : σ[i]? = some (some (.ref x))) (hx : G x = some (.ins C dx fs)) (l : fs.lookup f = some v) (z : Ds G v d) : EvD (tFld K (tVar i) f) σ G d := fun H1 a Q q =>
  ⟨_, hs, x, C, dx, fs, v, rfl, a _ _ hx, c, n, l, q v H1 (Ex.refl _) (z.mono (ex_gr a))⟩
/-- o.f = e -/
theorem q_fld {i : Nat} {x C dx : Addr} {fs : List (Str × V)} {f : Str} (c : Cls K C) (n : NoAttr K C f) (a : Ex G H) (hs : σ[i]? = some (some (.ref x))) (hx : H x = some (.ins C dx fs)) (hz : fs.length < 1000) (h : EvD te σ G d)
    (k : ∀ v H2, Ex H H2 → Ds (gr G H H2) v d → u D σ (upd H2 x (.ins C dx (putF f v fs)))) : tSeq (sFld K (tVar i) te f) u D σ H :=
  h H a _ fun v H2 e z => ⟨_, hs, x, C, dx, fs, rfl, e _ _ hx, c, n, hz, k v H2 e z⟩
theorem z_fld {i : Nat} {x C dx : Addr} {fs : List (Str × V)} {f : Str} (c : Cls K C) (n : NoAttr K C f) (a : Ex G H) (hs : σ[i]? = some (some (.ref x))) (hx : H x = some (.ins C dx fs)) (hz : fs.length < 1000) (h : EvD te σ G d)
    (k : ∀ v H2, Ex H H2 → Ds (gr G H H2) v d → D.nx σ (upd H2 x (.ins C dx (putF f v fs)))) : sFld K (tVar i) te f D σ H :=
  h H a _ fun v H2 e z => ⟨_, hs, x, C, dx, fs, rfl, e _ _ hx, c, n, hz, k v H2 e z⟩
theorem q_fldN {i : Nat} {x C dx : Addr} {fs : List (Str × V)} {f : Str} (c : Cls K C) (n : NoAttr K C f) (a : Ex G H) (hs : σ[i]? = some (some (.ref x))) (hx : H x = some (.ins C dx fs)) (hz : fs.length < 1000) (h : EvN te σ G ds)
    (k : ∀ p vs H2, Ex H H2 → H p = none → H2 p = some (.lst vs) → DsA (but (gr G H H2) p) vs ds → u D σ (upd H2 x (.ins C dx (putF f (.ref p) fs)))) : tSeq (sFld K (tVar i) te f) u D σ H :=
  h H a _ fun p vs H2 e hp h2 z => ⟨_, hs, x, C, dx, fs, rfl, e _ _ hx, c, n, hz, k p vs H2 e hp h2 z⟩
theorem z_fldN {i : Nat} {x C dx : Addr} {fs : List (Str × V)} {f : Str} (c : Cls K C) (n : NoAttr K C f) (a : Ex G H) (hs : σ[i]? = some (some (.ref x))) (hx : H x = some (.ins C dx fs)) (hz : fs.length < 1000) (h : EvN te σ G ds)
    (k : ∀ p vs H2, Ex H H2 → H p = none → H2 p = some (.lst vs) → DsA (but (gr G H H2) p) vs ds → D.nx σ (upd H2 x (.ins C dx (putF f (.ref p) fs)))) : sFld K (tVar i) te f D σ H :=
  h H a _ fun p vs H2 e hp h2 z => ⟨_, hs, x, C, dx, fs, rfl, e _ _ hx, c, n, hz, k p vs H2 e hp h2 z⟩
/-- o.f.append(e) -/
theorem q_appF {i : Nat} {x C dx l : Addr} {fs : List (Str × V)} {f : Str} {xs : List V} (c : Cls K C) (n : NoAttr K C f) (a : Ex G H) (hs : σ[i]? = some (some (.ref x))) (hx : H x = some (.ins C dx fs)) (hf : fs.lookup f = some (.ref l)) (hl : H l = some (.lst xs)) (h : EvD te σ G d) (hz : xs.length < 100000)
    (k : ∀ v H2, Ex H H2 → Ds (gr G H H2) v d → u D σ (upd H2 l (.lst (xs ++ [v])))) : tSeq (tDrop (tBM K "list" rAppend (tFld K (tVar i) f) (tCons te tNil))) u D σ H :=
  ⟨_, hs, x, C, dx, fs, _, rfl, hx, c, n, hf, .inl ⟨rfl, xs, SqL.of hl⟩, h H a _ fun v H2 e z => ⟨l, xs, v, rfl, rfl, e _ _ hl, Nat.lt_of_lt_of_le hz (line_of (Nat.le_refl _)), k v H2 e z⟩⟩
theorem z_appF {i : Nat} {x C dx l : Addr} {fs : List (Str × V)} {f : Str} {xs : List V} (c : Cls K C) (n : NoAttr K C f) (a : Ex G H) (hs : σ[i]? = some (some (.ref x))) (hx : H x = some (.ins C dx fs)) (hf : fs.lookup f = some (.ref l)) (hl : H l = some (.lst xs)) (h : EvD te σ G d) (hz : xs.length < 100000)
    (k : ∀ v H2, Ex H H2 → Ds (gr G H H2) v d → D.nx σ (upd H2 l (.lst (xs ++ [v])))) : tDrop (tBM K "list" rAppend (tFld K (tVar i) f) (tCons te tNil)) D σ H :=
  ⟨_, hs, x, C, dx, fs, _, rfl, hx, c, n, hf, .inl ⟨rfl, xs, SqL.of hl⟩, h H a _ fun v H2 e z => ⟨l, xs, v, rfl, rfl, e _ _ hl, Nat.lt_of_lt_of_le hz (line_of (Nat.le_refl _)), k v H2 e z⟩⟩
/-- o.f.reverse() -/
theorem q_revF {i : Nat} {x C dx l : Addr} {fs : List (Str × V)} {f : Str} {xs : List V} (c : Cls K C) (n : NoAttr K C f) (hs : σ[i]? = some (some (.ref x))) (hx : H x = some (.ins C dx fs)) (hf : fs.lookup f = some (.ref l)) (hl : H l = some (.lst xs))
    (k : u D σ (upd H l (.lst xs.reverse))) : tSeq (tDrop (tBM0 K "list" rReverse (tFld K (tVar i) f))) u D σ H :=
  ⟨_, hs, x, C, dx, fs, _, rfl, hx, c, n, hf, .inl ⟨rfl, xs, SqL.of hl⟩, l, xs, rfl, rfl, hl, k⟩
theorem z_revF {i : Nat} {x C dx l : Addr} {fs : List (Str × V)} {f : Str} {xs : List V} (c : Cls K C) (n : NoAttr K C f) (hs : σ[i]? = some (some (.ref x))) (hx : H x = some (.ins C dx fs)) (hf : fs.lookup f = some (.ref l)) (hl : H l = some (.lst xs))
    (k : D.nx σ (upd H l (.lst xs.reverse))) : tDrop (tBM0 K "list" rReverse (tFld K (tVar i) f)) D σ H :=
  ⟨_, hs, x, C, dx, fs, _, rfl, hx, c, n, hf, .inl ⟨rfl, xs, SqL.of hl⟩, l, xs, rfl, rfl, hl, k⟩
/-- what is flat leans on the tuples alone -/
theorem Ds.flat {H H' : Hp} {v : V} {d : PyData} (h : Ds H v d) (f : flatD d = true) (ht : ∀ a xs, H a = some (.tup xs) → H' a = some (.tup xs)) : Ds H' v d := by
  cases h with
  | non => exact .non
  | bl b => exact .bl b
  | int i => exact .int i
  | str x => exact .str x
  | lst h1 h2 h3 => cases f
  | dct h => cases f
  | @tup a xs ds h1 h2 h3 =>
    refine .tup (ht _ _ h1) h2 fun i x d e1 e2 => ?_
    have q := h3 i x d e1 e2
    have f' := List.all_eq_true.mp f d (List.mem_of_getElem? e2)
    cases q with
    | non => exact .non
    | bl b => exact .bl b
    | int i => exact .int i
    | str x => exact .str x
    | lst _ _ _ => cases f'
    | tup _ _ _ => cases f'
    | dct _ => cases f'
theorem DsA.flat {H H' : Hp} {vs : List V} {ds : List PyData} (h : DsA H vs ds) (f : ∀ d ∈ ds, flatD d = true) (ht : ∀ a xs, H a = some (.tup xs) → H' a = some (.tup xs)) : DsA H' vs ds :=
  ⟨h.1, fun i x d e1 e2 => (h.2 i x d e1 e2).flat (f d (List.mem_of_getElem? e2)) ht⟩
theorem flat_deeds (l : List Deed) : ∀ d ∈ l.map deedD, flatD d = true := fun d hd => by
  obtain ⟨x, _, rfl⟩ := List.mem_map.mp hd
  rfl
end
/-! ### slices -/
theorem cutD_take {l : List PyData} {i : Nat} : cutD l none (some (i : Int)) = l.take i := by
  unfold cutD
  rw [HT.sIx_none, show HT.sIx l.length l.length (some (i : Int)) = min i l.length from HT.sIx_nat _ _ i, List.drop_zero, Nat.sub_zero]
  by_cases h : i ≤ l.length
  · rw [Nat.min_eq_left h]
  · rw [Nat.min_eq_right (by omega), List.take_of_length_le (Nat.le_refl _), List.take_of_length_le (by omega)]
theorem cutD_drop {l : List PyData} {i : Nat} : cutD l (some (i : Int)) none = l.drop i := by
  unfold cutD
  rw [HT.sIx_none, show HT.sIx l.length 0 (some (i : Int)) = min i l.length from HT.sIx_nat _ _ i]
  by_cases h : i ≤ l.length
  · rw [Nat.min_eq_left h, List.take_of_length_le (by rw [List.length_drop]; exact Nat.le_refl _)]
  · rw [Nat.min_eq_right (by omega), List.drop_of_length_le (Nat.le_refl _), List.drop_of_length_le (by omega)]
    simp
/-! ### the steps by places -/
theorem put_at : ∀ (st : List Stp) (v n : Int) (i : Nat), (∀ j s, j < i → st[j]? = some s → s.1 > v) → i ≤ st.length → (∀ s, st[i]? = some s → ¬ s.1 > v) →
    putIn st v n = match st[i]? with
      | some s => if s.1 = v then st.take i ++ [(v, s.2 + n)] ++ st.drop (i + 1) else st.take i ++ [(v, n)] ++ st.drop i
      | none => st.take i ++ [(v, n)] ++ st.drop i
  | [], v, n, i, _, h, _ => by
    have : i = 0 := by simpa using h
    subst this
    rfl
  | s :: r, v, n, 0, _, _, h => by
    have h := h s rfl
    show putIn (s :: r) v n = if s.1 = v then _ else _
    simp only [putIn]
    rw [if_neg h]
    rfl
  | s :: r, v, n, i + 1, hb, hl, hn => by
    have h := hb 0 s (Nat.succ_pos _) rfl
    have ih := put_at r v n i (fun j t hj e => hb (j + 1) t (by omega) (by simpa using e)) (by simpa using hl) (fun t e => hn t (by simpa using e))
    simp only [putIn]
    rw [if_pos h, ih]
    show s :: _ = match r[i]? with
      | some s_1 => _
      | none => _
    cases r[i]? with
    | none => rfl
    | some t =>
      show s :: (if t.1 = v then _ else _) = if t.1 = v then _ else _
      split <;> rfl
theorem put_length : ∀ (st : List Stp) (v n : Int), (putIn st v n).length ≤ st.length + 1
  | [], v, n => by simp [putIn]
  | s :: r, v, n => by
    have ih := put_length r v n
    simp only [putIn]
    split
    · simp only [List.length_cons]; omega
    · split <;> simp only [List.length_cons] <;> omega
theorem cut_length : ∀ (acc : Int) (st : List Stp) (z : Int), (cutF acc st z).2.length ≤ st.length
  | acc, [], z => by simp [cutF]
  | acc, s :: r, z => by
    have ih := cut_length (acc + s.1 * s.2) r (z - s.2)
    simp only [cutF]
    split
    · simp only [List.length_cons]; omega
    · split <;> simp only [List.length_cons] <;> omega
theorem kept_length : ∀ (st : List Stp) (z : Int), (keptF st z).length ≤ st.length
  | [], z => by simp [keptF]
  | s :: r, z => by
    simp only [keptF]
    split
    · have ih := kept_length r (z - min s.2 z)
      simp only [List.length_cons]; omega
    · have ih := kept_length r z
      simp only [List.length_cons]; omega
theorem drop_cons_of {α : Type} {l : List α} {i : Nat} {x : α} (h : l[i]? = some x) : l.drop i = x :: l.drop (i + 1) := by
  rw [List.drop_eq_getElem_cons (lt_of_get h)]
  congr 1
  rw [List.getElem?_eq_getElem (lt_of_get h)] at h
  exact Option.some.inj h
end Gs
namespace Gs
open PySem L2 Evl
/-! ### a Best -/
def prevAt (ws : List Int) (i : Nat) : Option Int := if i = 0 then none else ws[i - 1]?
theorem boundFrom_drop {R : Int} {l : List Day} {ws : List Int} {i : Nat} {d : Day} {w : Int} {prev : Option Int} (hd : l[i]? = some d) (hw : ws[i]? = some w) :
    boundFrom R prev (l.drop i) (ws.drop i) = dayBound d w + (match prev with
      | none => 0
      | some p => R * max 0 (w - p)) + boundFrom R (some w) (l.drop (i + 1)) (ws.drop (i + 1)) := by
  rw [drop_cons_of hd, drop_cons_of hw]; rfl
def showsF (l : List Day) (R : Int) (m : List Deed) (ws : List Int) : Bool :=
  if m.length ≠ l.length ∨ ws.length ≠ l.length then false
  else if (ws.map fun w => decide (0 ≤ w)).all id = false ∨ 0 ≤ faultOf l R m then false
  else decide (gainOf l m = boundOf l R ws)
def bestFs (p q : Addr) : List (Str × V) := [("dealing", .ref p), ("worths", .ref q)]
theorem bestFs_mk (p q : Addr) : putF "worths" (.ref q) (putF "dealing" (.ref p) []) = bestFs p q := by
  show (if ("dealing" : Str) = "worths" then _ else (("dealing" : Str), V.ref p) :: putF "worths" (V.ref q) []) = _
  rw [if_neg (by decide +kernel)]
  rfl
theorem lk_here {k : Str} {v : V} {r : List (Str × V)} : List.lookup k ((k, v) :: r) = some v := by
  have e : (k == k) = true := beq_self_eq_true k
  simp only [List.lookup, e]
theorem lk_past {k g : Str} {v : V} {r : List (Str × V)} (h : (k == g) = false) : List.lookup k ((g, v) :: r) = List.lookup k r := by
  simp only [List.lookup, h]
theorem bestFs_d (p q : Addr) : (bestFs p q).lookup ("dealing" : Str) = some (.ref p) := lk_here
theorem bestFs_w (p q : Addr) : (bestFs p q).lookup ("worths" : Str) = some (.ref q) := (lk_past (by decide +kernel)).trans lk_here
theorem bestFs_no (p q : Addr) {m : Str} (h1 : (m == ("dealing" : Str)) = false) (h2 : (m == ("worths" : Str)) = false) : (bestFs p q).lookup m = none := (lk_past h1).trans ((lk_past h2).trans rfl)
/-- a Best at x that may yet change: its object and its two lists stand in H, not in G -/
structure BestAt (C : Addr) (G H : Hp) (x dx p q : Addr) (xs : List V) (m : List Deed) (ws : List Int) : Prop where
  obj : H x = some (.ins C dx (bestFs p q))
  dl : H p = some (.lst xs)
  wl : H q = some (.lst (ws.map V.int))
  items : DsA G xs (m.map deedD)
  gx : G x = none
  gp : G p = none
  gq : G q = none
  ne : p ≠ q
/-- the changes of a method at its own objects ms -/
structure Upm (G H G2 H2 : Hp) (ms : List Addr) : Prop where
  g : Ex G G2
  s : Ex G2 H2
  h : ∀ a o, H a = some o → a ∉ ms → H2 a = some o
  n : ∀ a o, H a = some o → G2 a ≠ none → G a ≠ none
theorem Up.method {G0 H0 G H G2 H2 : Hp} {ms : List Addr} (u : Up G0 H0 G H) (m : Upm G H G2 H2 ms) (hm : ∀ a ∈ ms, H0 a = none) : Up G0 H0 G2 H2 :=
  ⟨u.g.trans m.g, m.s, fun a o h => m.h a o (u.h a o h) (fun z => by rw [hm a z] at h; cases h), fun a o h q => u.n a o h (m.n a o (u.h a o h) q)⟩
theorem Up.upm {G0 H0 G H : Hp} {ms : List Addr} (u : Up G0 H0 G H) : Upm G0 H0 G H ms := ⟨u.g, u.s, fun a o h _ => u.h a o h, u.n⟩
end Gs

namespace Gt
open PySem PySem.Spec PyProof.Rows L2 Evl Gs
local macro_rules | `(tactic| walk_at "ev1") => `(tactic| first
  | exact evd_ci | exact evd_cb | exact evd_cn | exact evd_cs
  | exact evd_vi rfl | exact evd_vb rfl | exact evd_vn rfl
  | exact evd_var rfl (by assumption)
  | exact evd_sumS (by assumption) rfl | exact evd_lenS (by assumption) rfl
  | apply evd_I0 | apply evd_B0 | apply evd_U
  | apply evd_ixT | apply evd_ixL
  | apply evd_chain
  | apply evd_max2 | apply evd_min2 | apply evd_min3
  | exact evd_len (evd_var rfl (by assumption)) | exact evd_lenT (evd_var rfl (by assumption)) | apply evd_len
  | refine evd_tup ?_
  | apply evd_eq | apply evd_ne | apply evd_eqB | apply evd_neB
  | apply evd_isi | refine evd_not ?_
  | apply evd_I
  | exact eva_nil | refine eva_cons ?_ ?_
  | refine evn_lst ?_ | refine evn_sl ?_ ?_ ?_ | refine evn_cat ?_ ?_ ?_ | refine evn_listOf ?_ | refine evn_revL ?_
  | exact evo_none | refine evo_some ?_
  | refine EvN.asD (evn_lst ?_) | refine EvN.asD (evn_sl ?_ ?_ ?_) | refine EvN.asD (evn_cat ?_ ?_ ?_) | refine EvN.asD (evn_listOf ?_) | refine EvN.asD (evn_revL ?_)
  | refine evt_test ?_ | refine evt_B ?_
  | exact kit_int_int | exact kit_int_bool | exact kit_list_list | exact kit_tuple_tuple | exact kit_bool_int | exact kit_bool_bool | exact kit_none_int | exact kit_str_int | exact kit_list_int | exact kit_tuple_int | exact kit_int_tuple | exact kit_none_tuple | exact kit_list_tuple | exact kit_str_tuple | exact kit_bool_tuple | exact kit_tuple_list | exact kit_none_list | exact kit_str_list | exact kit_int_list
  | (show EvD _ _ _ _; assumption) | (show atI _ _ = _; first | assumption | rfl) | (show SeqAt.shaped _ = true; first | assumption | rfl)
  | (show CMulW _ _; first | assumption | exact mul_ok (by omega) (by omega)) | (show CDivW _ _; first | assumption | exact div_lit (by decide +kernel) | exact div_ok (by omega) (by omega)) | (show (0 : Int) < _; omega) | (show CPow _ _; exact ⟨by decide, by decide, by decide⟩))
local macro_rules | `(tactic| walk_at "ev") => `(tactic| repeat' (walk_at "ev1"))

def top (i : Nat) : Stmt := PySem.Challenge.pw_grainstore_k06_refused.main.body.getD i (.Pass ⟨0, 0, 0, 0⟩)
abbrev st_is_number : Stmt := top 8
abbrev N_is_number : List Str := ["thing"]
abbrev ps_is_number : List Str := ["thing"]
theorem sc_is_number : FnScope N_is_number ps_is_number (defScope st_is_number) := ⟨rfl, rfl, rfl, by decide +kernel, rfl, by decide +kernel, by decide +kernel⟩
abbrev st_are_numbers : Stmt := top 9
abbrev N_are_numbers : List Str := ["thing", "many", "one"]
abbrev ps_are_numbers : List Str := ["thing", "many"]
theorem sc_are_numbers : FnScope N_are_numbers ps_are_numbers (defScope st_are_numbers) := ⟨rfl, rfl, rfl, by decide +kernel, rfl, by decide +kernel, by decide +kernel⟩
abbrev st_asked_days : Stmt := top 10
abbrev N_asked_days : List Str := ["days", "day"]
abbrev ps_asked_days : List Str := ["days"]
theorem sc_asked_days : FnScope N_asked_days ps_asked_days (defScope st_asked_days) := ⟨rfl, rfl, rfl, by decide +kernel, rfl, by decide +kernel, by decide +kernel⟩
abbrev st_asked_room : Stmt := top 11
abbrev N_asked_room : List Str := ["room"]
abbrev ps_asked_room : List Str := ["room"]
theorem sc_asked_room : FnScope N_asked_room ps_asked_room (defScope st_asked_room) := ⟨rfl, rfl, rfl, by decide +kernel, rfl, by decide +kernel, by decide +kernel⟩
abbrev st_asked_dealing : Stmt := top 12
abbrev N_asked_dealing : List Str := ["days", "dealing", "deed"]
abbrev ps_asked_dealing : List Str := ["days", "dealing"]
theorem sc_asked_dealing : FnScope N_asked_dealing ps_asked_dealing (defScope st_asked_dealing) := ⟨rfl, rfl, rfl, by decide +kernel, rfl, by decide +kernel, by decide +kernel⟩
abbrev st_asked_day : Stmt := top 13
abbrev N_asked_day : List Str := ["days", "at"]
abbrev ps_asked_day : List Str := ["days", "at"]
theorem sc_asked_day : FnScope N_asked_day ps_asked_day (defScope st_asked_day) := ⟨rfl, rfl, rfl, by decide +kernel, rfl, by decide +kernel, by decide +kernel⟩
abbrev st_nights : Stmt := top 14
abbrev N_nights : List Str := ["dealing", "found", "left", "bought", "sold"]
abbrev ps_nights : List Str := ["dealing"]
theorem sc_nights : FnScope N_nights ps_nights (defScope st_nights) := ⟨rfl, rfl, rfl, by decide +kernel, rfl, by decide +kernel, by decide +kernel⟩
abbrev st_gain_of : Stmt := top 15
abbrev N_gain_of : List Str := ["days", "dealing", "day", "deed"]
abbrev ps_gain_of : List Str := ["days", "dealing"]
theorem sc_gain_of : FnScope N_gain_of ps_gain_of (defScope st_gain_of) := ⟨rfl, rfl, rfl, by decide +kernel, rfl, by decide +kernel, by decide +kernel⟩
abbrev st_first_fault : Stmt := top 16
abbrev N_first_fault : List Str := ["days", "room", "dealing", "at", "left", "bought", "sold"]
abbrev ps_first_fault : List Str := ["days", "room", "dealing"]
theorem sc_first_fault : FnScope N_first_fault ps_first_fault (defScope st_first_fault) := ⟨rfl, rfl, rfl, by decide +kernel, rfl, by decide +kernel, by decide +kernel⟩
abbrev st_stored : Stmt := top 17
abbrev N_stored : List Str := ["days", "dealing"]
abbrev ps_stored : List Str := ["days", "dealing"]
theorem sc_stored : FnScope N_stored ps_stored (defScope st_stored) := ⟨rfl, rfl, rfl, by decide +kernel, rfl, by decide +kernel, by decide +kernel⟩
abbrev st_gained : Stmt := top 18
abbrev N_gained : List Str := ["days", "dealing"]
abbrev ps_gained : List Str := ["days", "dealing"]
theorem sc_gained : FnScope N_gained ps_gained (defScope st_gained) := ⟨rfl, rfl, rfl, by decide +kernel, rfl, by decide +kernel, by decide +kernel⟩
abbrev st_barred : Stmt := top 19
abbrev N_barred : List Str := ["days", "room", "dealing"]
abbrev ps_barred : List Str := ["days", "room", "dealing"]
theorem sc_barred : FnScope N_barred ps_barred (defScope st_barred) := ⟨rfl, rfl, rfl, by decide +kernel, rfl, by decide +kernel, by decide +kernel⟩
abbrev st_Best___init__ : Stmt := inClass (top 21) 0
abbrev N_Best___init__ : List Str := ["self", "dealing", "worths"]
abbrev ps_Best___init__ : List Str := ["self", "dealing", "worths"]
theorem sc_Best___init__ : FnScope N_Best___init__ ps_Best___init__ (defScope st_Best___init__) := ⟨rfl, rfl, rfl, by decide +kernel, rfl, by decide +kernel, by decide +kernel⟩
abbrev st_Best_shows : Stmt := inClass (top 21) 1
abbrev N_Best_shows : List Str := ["self", "days", "room"]
abbrev ps_Best_shows : List Str := ["self", "days", "room"]
theorem sc_Best_shows : FnScope N_Best_shows ps_Best_shows (defScope st_Best_shows) := ⟨rfl, rfl, rfl, by decide +kernel, rfl, by decide +kernel, by decide +kernel⟩
abbrev st_put_in : Stmt := top 23
abbrev N_put_in : List Str := ["steps", "worth", "many", "at"]
abbrev ps_put_in : List Str := ["steps", "worth", "many"]
theorem sc_put_in : FnScope N_put_in ps_put_in (defScope st_put_in) := ⟨rfl, rfl, rfl, by decide +kernel, rfl, by decide +kernel, by decide +kernel⟩
abbrev st_cut_front : Stmt := top 24
abbrev N_cut_front : List Str := ["steps", "many", "total", "left", "at", "worth", "length"]
abbrev ps_cut_front : List Str := ["steps", "many"]
theorem sc_cut_front : FnScope N_cut_front ps_cut_front (defScope st_cut_front) := ⟨rfl, rfl, rfl, by decide +kernel, rfl, by decide +kernel, by decide +kernel⟩
abbrev st_kept : Stmt := top 25
abbrev N_kept : List Str := ["steps", "many", "found", "left", "worth", "length"]
abbrev ps_kept : List Str := ["steps", "many"]
theorem sc_kept : FnScope N_kept ps_kept (defScope st_kept) := ⟨rfl, rfl, rfl, by decide +kernel, rfl, by decide +kernel, by decide +kernel⟩
abbrev st_Worths___init__ : Stmt := inClass (top 26) 0
abbrev N_Worths___init__ : List Str := ["self", "days", "room", "day"]
abbrev ps_Worths___init__ : List Str := ["self", "days", "room"]
theorem sc_Worths___init__ : FnScope N_Worths___init__ ps_Worths___init__ (defScope st_Worths___init__) := ⟨rfl, rfl, rfl, by decide +kernel, rfl, by decide +kernel, by decide +kernel⟩
abbrev st_Worths_add : Stmt := inClass (top 26) 1
abbrev N_Worths_add : List Str := ["self", "day", "price", "most", "other_price", "other_most", "steps", "total", "later"]
abbrev ps_Worths_add : List Str := ["self", "day"]
theorem sc_Worths_add : FnScope N_Worths_add ps_Worths_add (defScope st_Worths_add) := ⟨rfl, rfl, rfl, by decide +kernel, rfl, by decide +kernel, by decide +kernel⟩
abbrev st_Worths_worth_above : Stmt := inClass (top 26) 2
abbrev N_Worths_worth_above : List Str := ["self", "at", "left", "total", "later", "step"]
abbrev ps_Worths_worth_above : List Str := ["self", "at", "left"]
theorem sc_Worths_worth_above : FnScope N_Worths_worth_above ps_Worths_worth_above (defScope st_Worths_worth_above) := ⟨rfl, rfl, rfl, by decide +kernel, rfl, by decide +kernel, by decide +kernel⟩
abbrev st_Worths_worth_below : Stmt := inClass (top 26) 3
abbrev N_Worths_worth_below : List Str := ["self", "at", "left", "steps", "step"]
abbrev ps_Worths_worth_below : List Str := ["self", "at", "left"]
theorem sc_Worths_worth_below : FnScope N_Worths_worth_below ps_Worths_worth_below (defScope st_Worths_worth_below) := ⟨rfl, rfl, rfl, by decide +kernel, rfl, by decide +kernel, by decide +kernel⟩
abbrev st_Worths_deed : Stmt := inClass (top 26) 4
abbrev N_Worths_deed : List Str := ["self", "at", "left", "worth", "price", "most", "other_price", "other_most", "low", "high", "least", "greatest", "steps", "floor", "bought", "sold", "value", "length"]
abbrev ps_Worths_deed : List Str := ["self", "at", "left", "worth"]
theorem sc_Worths_deed : FnScope N_Worths_deed ps_Worths_deed (defScope st_Worths_deed) := ⟨rfl, rfl, rfl, by decide +kernel, rfl, by decide +kernel, by decide +kernel⟩
abbrev st_best : Stmt := top 27
abbrev N_best : List Str := ["days", "room", "told", "dealing", "worths", "left", "at", "worth", "deed"]
abbrev ps_best : List Str := ["days", "room"]
theorem sc_best : FnScope N_best ps_best (defScope st_best) := ⟨rfl, rfl, rfl, by decide +kernel, rfl, by decide +kernel, by decide +kernel⟩
abbrev st_most_gain : Stmt := top 28
abbrev N_most_gain : List Str := ["days", "room"]
abbrev ps_most_gain : List Str := ["days", "room"]
theorem sc_most_gain : FnScope N_most_gain ps_most_gain (defScope st_most_gain) := ⟨rfl, rfl, rfl, by decide +kernel, rfl, by decide +kernel, by decide +kernel⟩
abbrev st_changed : Stmt := top 29
abbrev N_changed : List Str := ["days", "room", "at", "day"]
abbrev ps_changed : List Str := ["days", "room", "at", "day"]
theorem sc_changed : FnScope N_changed ps_changed (defScope st_changed) := ⟨rfl, rfl, rfl, by decide +kernel, rfl, by decide +kernel, by decide +kernel⟩
abbrev st__law_day : Stmt := top 31
abbrev N__law_day : List Str := ["_law_which", "_law_more", "_law_bad"]
abbrev ps__law_day : List Str := ["_law_which", "_law_more"]
theorem sc__law_day : FnScope N__law_day ps__law_day (defScope st__law_day) := ⟨rfl, rfl, rfl, by decide +kernel, rfl, by decide +kernel, by decide +kernel⟩
abbrev st__law_days_asked : Stmt := top 32
abbrev N__law_days_asked : List Str := ["_law_which", "_law_more", "_law_good", "_law_bad", "_law_door", "_law_day_here"]
abbrev ps__law_days_asked : List Str := ["_law_which", "_law_more"]
theorem sc__law_days_asked : FnScope N__law_days_asked ps__law_days_asked (defScope st__law_days_asked) := ⟨rfl, rfl, rfl, by decide +kernel, rfl, by decide +kernel, by decide +kernel⟩
abbrev st__law_others_asked : Stmt := top 33
abbrev N__law_others_asked : List Str := ["_law_kind", "_law_which", "_law_more", "_law_days", "_law_bad", "_law_door"]
abbrev ps__law_others_asked : List Str := ["_law_kind", "_law_which", "_law_more"]
theorem sc__law_others_asked : FnScope N__law_others_asked ps__law_others_asked (defScope st__law_others_asked) := ⟨rfl, rfl, rfl, by decide +kernel, rfl, by decide +kernel, by decide +kernel⟩
abbrev st__law_told : Stmt := top 34
abbrev N__law_told : List Str := ["_law_kind", "_law_which", "_law_more", "error", "_law_found"]
abbrev ps__law_told : List Str := ["_law_kind", "_law_which", "_law_more"]
theorem sc__law_told : FnScope N__law_told ps__law_told (defScope st__law_told) := ⟨rfl, rfl, rfl, by decide +kernel, rfl, by decide +kernel, by decide +kernel⟩
abbrev st_law : Stmt := top 35
abbrev N_law : List Str := ["_law_script", "_law_cell", "_law_kind", "_law_due"]
abbrev ps_law : List Str := ["_law_script"]
theorem sc_law : FnScope N_law ps_law (defScope st_law) := ⟨rfl, rfl, rfl, by decide +kernel, rfl, by decide +kernel, by decide +kernel⟩
section
variable {P : Program} {w : World} {K : PySem.W.Frag} {mg : Str → Option Value} {base : Heap}
def sp_is_number : Sp := spD fun ds d => ∃ x, ds = [x] ∧ d = .bool (isNum x)
theorem ok_is_number (F : FunH K mg "is_number" "is_number" st_is_number ps_is_number) (B : Blt mg)  : Has P w K mg base CX0 1 "is_number" ps_is_number sp_is_number := by
  refine F.has (N := N_is_number) sc_is_number (fun vs H Q E h => ?_) (fun f cdv A outer s H vs Q E hr h => ?_)
  · obtain ⟨G, ds, d, _, hz, ⟨x, rfl, _⟩, _⟩ := h
    exact hz.1
  · obtain ⟨G, ds, d, a, hz, ⟨x, rfl, rfl⟩, k⟩ := h
    obtain ⟨v, rfl, z⟩ := hz.one
    have u := Up.refl a
    have nd := sc_is_number.nd
    refine ⟨_, (pss_one (ps_ret (pe_and (pe_callB (call_isiKK K) (by rfl) B.isinstance (by decide +kernel) (pa_cons (pv 0) (pa_cons (pe_bltn (v := .ty "int") (by rfl) B.int (by decide +kernel) rfl) pa_nil))) (pe_and (pe_not (pe_callB (call_isiKK K) (by rfl) B.isinstance (by decide +kernel) (pa_cons (pv 0) (pa_cons (pe_bltn (v := .ty "bool") (by rfl) B.bool (by decide +kernel) rfl) pa_nil)))) (pe_one (pe_cmpR op_ge (pv 0) pe_int (nomark _))))))), ?_⟩
    refine z_ret u.s ?_ (u.retD k)
    cases x with
    | int n => exact (evd_and (a := true) (by walk_at "ev") fun _ => evd_and (a := true) (b := decide (0 ≤ n)) (evd_not (a := false) (by walk_at "ev")) fun _ => (by walk_at "ev")).to (by show PyData.bool (true && (true && decide (0 ≤ n))) = PyData.bool (decide (0 ≤ n)); rfl)
    | bool b => exact (evd_and (a := true) (b := false) (by walk_at "ev") fun _ => (evd_and (a := false) (b := false) (evd_not (a := true) (by walk_at "ev")) fun h => nomatch h)).to rfl
    | none => exact (evd_and (a := false) (b := false) (by walk_at "ev") fun h => nomatch h).to rfl
    | str b => exact (evd_and (a := false) (b := false) (by walk_at "ev") fun h => nomatch h).to rfl
    | list b => exact (evd_and (a := false) (b := false) (by walk_at "ev") fun h => nomatch h).to rfl
    | tuple b => exact (evd_and (a := false) (b := false) (by walk_at "ev") fun h => nomatch h).to rfl
    | dict b => cases z with | dct h => exact (evd_and (a := false) (b := false) (evd_isi (evd_var rfl (.dct h)) kit_dict_int) fun h => nomatch h).to rfl
def sp_are_numbers : Sp := spD fun ds d => ∃ x m, ds = [x, .int m] ∧ (∀ xs, x = .tuple xs → xs.length ≤ 40000) ∧ d = .bool (areNums x m)
theorem ok_are_numbers (F : FunH K mg "are_numbers" "are_numbers" st_are_numbers ps_are_numbers) (B : Blt mg) (h_is_number : Has P w K mg base CX0 1 "is_number" ps_is_number sp_is_number) : Has P w K mg base CX0 2 "are_numbers" ps_are_numbers sp_are_numbers := by
  refine F.has (N := N_are_numbers) sc_are_numbers (fun vs H Q E h => ?_) (fun f cdv A outer s H vs Q E hr h => ?_)
  · obtain ⟨G, ds, d, _, hz, ⟨x, m, rfl, _⟩, _⟩ := h
    exact hz.1
  · obtain ⟨G, ds, d, a, hz, ⟨x, m, rfl, hl, rfl⟩, k⟩ := h
    obtain ⟨v, v2, rfl, z, z2⟩ := hz.two
    cases z2
    have u := Up.refl a
    have nd := sc_are_numbers.nd
    refine ⟨_, (pss_one (ps_ret (pe_and (pe_callB (call_isiKK K) (by rfl) B.isinstance (by decide +kernel) (pa_cons (pv 0) (pa_cons (pe_bltn (v := .ty "tuple") (by rfl) B.tuple (by decide +kernel) rfl) pa_nil))) (pe_and (pe_cmpR op_eq (pe_callB (cb_lenK K) (by rfl) B.len (by decide +kernel) (pa_cons (pv 0) pa_nil)) (pv 1) (nomark _)) (pe_one (pe_callB (cr_allK K) (by rfl) B.all (by decide +kernel) (pa_cons (pe_lc (own := [("one", 2)]) (by rfl) nd (pi_tupK K (pv 0)) (blkOk_by (own := [("one", 2)]) (N := N_are_numbers) (sc := defScope st_are_numbers) (by decide +kernel)) (fun _ _ _ _ _ => (pg_name (i := 2) nd rfl (Or.inl rfl))) (fun _ _ _ _ _ => pts_nil) (fun _ _ _ _ _ => (pe_f h_is_number (hr.mono (by decide)) (pa_cons (pv 2) pa_nil)))) pa_nil))))))), ?_⟩
    refine z_ret u.s ?_ (u.retD k)
    cases x with
    | tuple xs =>
      refine (evd_and (a := true) (by walk_at "ev") fun _ => evd_and (a := decide ((xs.length : Int) = m)) (b := (xs.map isNum).all id) (by walk_at "ev") fun _ => evd_all ?_).to (by show PyData.bool (true && (_ && _)) = _; rfl)
      refine EvN.asD (EvN.to (evn_lcT (fun d => .bool (isNum d)) (by walk_at "ev") (hl xs rfl) (fun _ => rfl) fun Gx v d g hd zd => ?_) (by rw [List.map_map]; rfl))
      exact evd_call (by walk_at "ev") ⟨d, rfl, rfl⟩
    | int n => exact (evd_and (a := false) (b := false) (by walk_at "ev") fun h => nomatch h).to rfl
    | bool b => exact (evd_and (a := false) (b := false) (by walk_at "ev") fun h => nomatch h).to rfl
    | none => exact (evd_and (a := false) (b := false) (by walk_at "ev") fun h => nomatch h).to rfl
    | str b => exact (evd_and (a := false) (b := false) (by walk_at "ev") fun h => nomatch h).to rfl
    | list b => exact (evd_and (a := false) (b := false) (by walk_at "ev") fun h => nomatch h).to rfl
    | dict b => cases z with | dct h => exact (evd_and (a := false) (b := false) (evd_isi (evd_var rfl (.dct h)) kit_dict_tuple) fun h => nomatch h).to rfl
end
end Gt

namespace Gt
open PySem PySem.Spec PyProof.Rows L2 Evl Gs
local macro_rules | `(tactic| walk_at "ev1") => `(tactic| first
  | exact evd_ci | exact evd_cb | exact evd_cn | exact evd_cs
  | exact evd_vi rfl | exact evd_vb rfl | exact evd_vn rfl
  | exact evd_var rfl (by assumption)
  | exact evd_sumS (by assumption) rfl | exact evd_lenS (by assumption) rfl
  | apply evd_I0 | apply evd_B0 | apply evd_U
  | apply evd_ixT | apply evd_ixL
  | apply evd_chain
  | apply evd_max2 | apply evd_min2 | apply evd_min3
  | exact evd_len (evd_var rfl (by assumption)) | exact evd_lenT (evd_var rfl (by assumption)) | apply evd_len
  | refine evd_tup ?_
  | apply evd_eq | apply evd_ne | apply evd_eqB | apply evd_neB
  | apply evd_isi | refine evd_not ?_
  | apply evd_I
  | exact eva_nil | refine eva_cons ?_ ?_
  | refine evn_lst ?_ | refine evn_sl ?_ ?_ ?_ | refine evn_cat ?_ ?_ ?_ | refine evn_listOf ?_ | refine evn_revL ?_
  | exact evo_none | refine evo_some ?_
  | refine EvN.asD (evn_lst ?_) | refine EvN.asD (evn_sl ?_ ?_ ?_) | refine EvN.asD (evn_cat ?_ ?_ ?_) | refine EvN.asD (evn_listOf ?_) | refine EvN.asD (evn_revL ?_)
  | refine evt_test ?_ | refine evt_B ?_
  | exact kit_int_int | exact kit_int_bool | exact kit_list_list | exact kit_tuple_tuple | exact kit_bool_int | exact kit_bool_bool | exact kit_none_int | exact kit_str_int | exact kit_list_int | exact kit_tuple_int | exact kit_int_tuple | exact kit_none_tuple | exact kit_list_tuple | exact kit_str_tuple | exact kit_bool_tuple | exact kit_tuple_list | exact kit_none_list | exact kit_str_list | exact kit_int_list
  | (show EvD _ _ _ _; assumption) | (show atI _ _ = _; first | assumption | rfl) | (show SeqAt.shaped _ = true; first | assumption | rfl)
  | (show CMulW _ _; first | assumption | exact mul_ok (by omega) (by omega)) | (show CDivW _ _; first | assumption | exact div_lit (by decide +kernel) | exact div_ok (by omega) (by omega)) | (show (0 : Int) < _; omega) | (show CPow _ _; exact ⟨by decide, by decide, by decide⟩))
local macro_rules | `(tactic| walk_at "ev") => `(tactic| repeat' (walk_at "ev1"))

section
variable {P : Program} {w : World} {K : PySem.W.Frag} {mg : Str → Option Value} {base : Heap}
def listOk (n : Int) (x : PyData) : Bool := match x with
  | .list ds => ds.all fun d => areNums d n
  | _ => false
/-- sizes that the loops can take -/
def fits (x : PyData) : Prop := ∀ ds, x = .list ds → ds.length ≤ 40000 ∧ ∀ xs, .tuple xs ∈ ds → xs.length ≤ 40000
theorem all_id_map (ds : List PyData) (n : Int) : (ds.map fun d => areNums d n).all id = ds.all fun d => areNums d n := by rw [List.all_map]; rfl
/-- not a list of so many numbers each -/
theorem evt_bad {K : PySem.W.Frag} {σ : L2.St} {G : Hp} {i j : Nat} {v : V} {x : PyData} {n : Int} {vs : List Nat} (hs : σ[i]? = some (some v)) (z : Ds G v x) (f : fits x) (hw : ∀ y, wipe ((wipe σ vs).set j (some y)) vs = wipe σ vs) (hj : ∀ y, ((wipe σ vs).set j (some y))[j]? = some (some y)) :
    EvT (tOr (tNot (tB (tCB (rIsi K) (tCons (tVar i) (tCons (tC (.ty "list")) tNil))))) (tNot (tB (tCB (rAll K) (tCons (tLc (iList K (tVar i)) (gName j) tYes (tCall sp_are_numbers [] E0 (tCons (tVar j) (tCons (tC (.int n)) tNil))) vs) tNil))))) σ G (!listOk n x) := by
  cases x with
  | list ds =>
    obtain ⟨f1, f2⟩ := f ds rfl
    refine et_is (et_or (a := false) (b := !listOk n (.list ds)) (et_not (a := true) (evt_B (evd_isi (evd_var hs z) kit_list_list))) fun _ => et_not (evt_B (EvD.to (evd_all (ns := ds.map fun d => areNums d n) (EvN.asD (EvN.to (evn_lcL (fun d => .bool (areNums d n)) (evd_var hs z) f1 hw fun Gx v d g hd zd => ?_) (by rw [List.map_map]; rfl)))) (by rw [all_id_map]; rfl)))) rfl
    exact evd_call (eva_cons (evd_var (hj v) zd) (eva_cons evd_ci eva_nil)) ⟨d, n, rfl, fun xs e => f2 xs (e ▸ hd), rfl⟩
  | int _ => exact et_is (et_or (a := true) (b := true) (et_not (a := false) (evt_B (evd_isi (evd_var hs z) (by show kitB "int" "list" = some false; decide +kernel)))) fun h => nomatch h) rfl
  | bool _ => exact et_is (et_or (a := true) (b := true) (et_not (a := false) (evt_B (evd_isi (evd_var hs z) (by show kitB "bool" "list" = some false; decide +kernel)))) fun h => nomatch h) rfl
  | none => exact et_is (et_or (a := true) (b := true) (et_not (a := false) (evt_B (evd_isi (evd_var hs z) (by show kitB "NoneType" "list" = some false; decide +kernel)))) fun h => nomatch h) rfl
  | str _ => exact et_is (et_or (a := true) (b := true) (et_not (a := false) (evt_B (evd_isi (evd_var hs z) (by show kitB "str" "list" = some false; decide +kernel)))) fun h => nomatch h) rfl
  | tuple _ => exact et_is (et_or (a := true) (b := true) (et_not (a := false) (evt_B (evd_isi (evd_var hs z) (by show kitB "tuple" "list" = some false; decide +kernel)))) fun h => nomatch h) rfl
  | dict _ => exact et_is (et_or (a := true) (b := true) (et_not (a := false) (evt_B (evd_isi (evd_var hs z) (by show kitB "dict" "list" = some false; decide +kernel)))) fun h => nomatch h) rfl
def sp_asked_days (e : Er) : Sp := fun vs H Q E => ∃ (G : Hp) (v : V) (x : PyData), vs = [v] ∧ Ex G H ∧ Ds G v x ∧ fits x ∧ (listOk 4 x = true → ∀ H2, Ex H H2 → Q .non H2) ∧ (listOk 4 x = false → ∀ H2, Ex H H2 → E (.ref e.days) none H2)
theorem ok_asked_days {e : Er} (T : ErT K mg e) (F : FunH K mg "asked_days" "asked_days" st_asked_days ps_asked_days) (B : Blt mg) (h_are_numbers : Has P w K mg base CX0 2 "are_numbers" ps_are_numbers sp_are_numbers) : Has P w K mg base (L2.CX P w) 3 "asked_days" ps_asked_days (sp_asked_days e) := by
  refine F.hasX (N := N_asked_days) sc_asked_days (fun vs H Q E h => ?_) (fun f cdv A outer s H vs Q E hr h => ?_)
  · obtain ⟨G, v, x, rfl, _⟩ := h
    rfl
  · obtain ⟨G, v, x, rfl, a, z, f, k1, k2⟩ := h
    have u := Up.refl a
    have nd := sc_asked_days.nd
    refine ⟨_, (pss_one (ps_if (PW.pt (pw_or (pt_not (pt_val (pe_callB (call_isiKK K) (by rfl) B.isinstance (by decide +kernel) (pa_cons (pv 0) (pa_cons (pe_bltn (v := .ty "list") (by rfl) B.list (by decide +kernel) rfl) pa_nil))))) (pw_or1 (pt_not (pt_val (pe_callB (cr_allK K) (by rfl) B.all (by decide +kernel) (pa_cons (pe_lc (own := [("day", 1)]) (by rfl) nd (pi_listK K (pv 0)) (blkOk_by (own := [("day", 1)]) (N := N_asked_days) (sc := defScope st_asked_days) (by decide +kernel)) (fun _ _ _ _ _ => (pg_name (i := 1) nd rfl (Or.inl rfl))) (fun _ _ _ _ _ => pts_nil) (fun _ _ _ _ _ => (pe_f h_are_numbers (hr.mono (by decide)) (pa_cons (pv 1) (pa_cons pe_int pa_nil))))) pa_nil)))))))
  (pss_one (ps_raise rfl (takes_of rfl rfl rfl rfl) (pmk_own PySem.F.excBase_ValueError T.bd.x T.bd.g T.bd.k (raises_own T.bd.b T.bd.t) rfl)))
  pss_nil)), ?_⟩
    refine z_if1 (b := !listOk 4 x) u.s (evt_bad rfl z f (fun _ => rfl) (fun _ => rfl)) (fun hb H2 e2 => k2 (by simpa using hb) H2 e2) (fun hb H2 e2 => k1 (by simpa using hb) H2 e2)
def sp_asked_room (e : Er) : Sp := fun vs H Q E => ∃ (G : Hp) (v : V) (x : PyData), vs = [v] ∧ Ex G H ∧ Ds G v x ∧ (isNum x = true → ∀ H2, Ex H H2 → Q .non H2) ∧ (isNum x = false → ∀ H2, Ex H H2 → E (.ref e.room) none H2)
theorem ok_asked_room {e : Er} (T : ErT K mg e) (F : FunH K mg "asked_room" "asked_room" st_asked_room ps_asked_room) (B : Blt mg) (h_is_number : Has P w K mg base CX0 1 "is_number" ps_is_number sp_is_number) : Has P w K mg base (L2.CX P w) 2 "asked_room" ps_asked_room (sp_asked_room e) := by
  refine F.hasX (N := N_asked_room) sc_asked_room (fun vs H Q E h => ?_) (fun f cdv A outer s H vs Q E hr h => ?_)
  · obtain ⟨G, v, x, rfl, _⟩ := h
    rfl
  · obtain ⟨G, v, x, rfl, a, z, k1, k2⟩ := h
    have u := Up.refl a
    have nd := sc_asked_room.nd
    refine ⟨_, (pss_one (ps_if (pt_not (pt_val (pe_f h_is_number (hr.mono (by decide)) (pa_cons (pv 0) pa_nil))))
  (pss_one (ps_raise rfl (takes_of rfl rfl rfl rfl) (pmk_own PySem.F.excBase_ValueError T.br.x T.br.g T.br.k (raises_own T.br.b T.br.t) rfl)))
  pss_nil)), ?_⟩
    refine z_if1 (b := !isNum x) u.s (et_not (evt_B (evd_call (eva_cons (evd_var rfl z) eva_nil) ⟨x, rfl, rfl⟩))) (fun hb H2 e2 => k2 (by simpa using hb) H2 e2) (fun hb H2 e2 => k1 (by simpa using hb) H2 e2)
def lenD : PyData → Nat
  | .list ds => ds.length
  | _ => 0
def sp_asked_dealing (e : Er) : Sp := fun vs H Q E => ∃ (G : Hp) (v w : V) (l : List PyData) (x : PyData), vs = [v, w] ∧ Ex G H ∧ Ds G v (.list l) ∧ Ds G w x ∧ fits x ∧ (listOk 2 x = true ∧ lenD x = l.length → ∀ H2, Ex H H2 → Q .non H2) ∧ (¬ (listOk 2 x = true ∧ lenD x = l.length) → ∀ H2, Ex H H2 → E (.ref e.deal) none H2)
theorem ok_asked_dealing {e : Er} (T : ErT K mg e) (F : FunH K mg "asked_dealing" "asked_dealing" st_asked_dealing ps_asked_dealing) (B : Blt mg) (h_are_numbers : Has P w K mg base CX0 2 "are_numbers" ps_are_numbers sp_are_numbers) : Has P w K mg base (L2.CX P w) 3 "asked_dealing" ps_asked_dealing (sp_asked_dealing e) := by
  refine F.hasX (N := N_asked_dealing) sc_asked_dealing (fun vs H Q E h => ?_) (fun f cdv A outer s H vs Q E hr h => ?_)
  · obtain ⟨G, v, w, l, x, rfl, _⟩ := h
    rfl
  · obtain ⟨G, v, w, l, x, rfl, a, zl, z, f, k1, k2⟩ := h
    have u := Up.refl a
    have nd := sc_asked_dealing.nd
    refine ⟨_, (pss_cons (ps_if (PW.pt (pw_or (pt_not (pt_val (pe_callB (call_isiKK K) (by rfl) B.isinstance (by decide +kernel) (pa_cons (pv 1) (pa_cons (pe_bltn (v := .ty "list") (by rfl) B.list (by decide +kernel) rfl) pa_nil))))) (pw_or1 (pt_not (pt_val (pe_callB (cr_allK K) (by rfl) B.all (by decide +kernel) (pa_cons (pe_lc (own := [("deed", 2)]) (by rfl) nd (pi_listK K (pv 1)) (blkOk_by (own := [("deed", 2)]) (N := N_asked_dealing) (sc := defScope st_asked_dealing) (by decide +kernel)) (fun _ _ _ _ _ => (pg_name (i := 2) nd rfl (Or.inl rfl))) (fun _ _ _ _ _ => pts_nil) (fun _ _ _ _ _ => (pe_f h_are_numbers (hr.mono (by decide)) (pa_cons (pv 2) (pa_cons pe_int pa_nil))))) pa_nil)))))))
  (pss_one (ps_raise rfl (takes_of rfl rfl rfl rfl) (pmk_own PySem.F.excBase_ValueError T.bl.x T.bl.g T.bl.k (raises_own T.bl.b T.bl.t) rfl)))
  pss_nil)
  (pss_one (ps_if (pt_cmpR op_ne (pe_callB (cb_lenK K) (by rfl) B.len (by decide +kernel) (pa_cons (pv 1) pa_nil)) (pe_callB (cb_lenK K) (by rfl) B.len (by decide +kernel) (pa_cons (pv 0) pa_nil)) (nomark _))
  (pss_one (ps_raise rfl (takes_of rfl rfl rfl rfl) (pmk_own PySem.F.excBase_ValueError T.bl.x T.bl.g T.bl.k (raises_own T.bl.b T.bl.t) rfl)))
  pss_nil))), ?_⟩
    refine q_if1 (b := !listOk 2 x) u.s (evt_bad rfl z f (fun _ => rfl) (fun _ => rfl)) (fun hb H2 e2 => k2 (fun q => by rw [q.1] at hb; cases hb) H2 e2) (fun hb H2 e2 => ?_)
    have hb : listOk 2 x = true := by simpa using hb
    cases x with
    | list ds =>
      refine z_if1 (b := !decide ((ds.length : Int) = (l.length : Int))) (u.scal e2).s (evt_test (evd_ne (evd_len (evd_var rfl z)) (evd_len (evd_var rfl zl)))) (fun hc H3 e3 => k2 (fun q => ?_) H3 (e2.trans e3)) (fun hc H3 e3 => k1 ⟨hb, ?_⟩ H3 (e2.trans e3))
      · have q2 : ds.length = l.length := q.2
        rw [q2, decide_eq_true rfl] at hc
        cases hc
      · show ds.length = l.length
        simp at hc
        omega
    | _ => cases hb
def sp_asked_day (e : Er) : Sp := fun vs H Q E => ∃ (G : Hp) (v w : V) (l : List PyData) (x : PyData), vs = [v, w] ∧ Ex G H ∧ Ds G v (.list l) ∧ Ds G w x ∧ ((∃ n : Int, x = .int n ∧ 0 ≤ n ∧ n < l.length) → ∀ H2, Ex H H2 → Q .non H2) ∧ ((¬ ∃ n : Int, x = .int n ∧ 0 ≤ n ∧ n < l.length) → ∀ H2, Ex H H2 → E (.ref e.day) none H2)
theorem ok_asked_day {e : Er} (T : ErT K mg e) (F : FunH K mg "asked_day" "asked_day" st_asked_day ps_asked_day) (B : Blt mg) (h_is_number : Has P w K mg base CX0 1 "is_number" ps_is_number sp_is_number) : Has P w K mg base (L2.CX P w) 2 "asked_day" ps_asked_day (sp_asked_day e) := by
  refine F.hasX (N := N_asked_day) sc_asked_day (fun vs H Q E h => ?_) (fun f cdv A outer s H vs Q E hr h => ?_)
  · obtain ⟨G, v, w, l, x, rfl, _⟩ := h
    rfl
  · obtain ⟨G, v, w, l, x, rfl, a, zl, z, k1, k2⟩ := h
    have u := Up.refl a
    have nd := sc_asked_day.nd
    refine ⟨_, (pss_one (ps_if (PW.pt (pw_or (pt_not (pt_val (pe_f h_is_number (hr.mono (by decide)) (pa_cons (pv 1) pa_nil)))) (pw_or1 (pt_cmpR op_ge (pv 1) (pe_callB (cb_lenK K) (by rfl) B.len (by decide +kernel) (pa_cons (pv 0) pa_nil)) (nomark _)))))
  (pss_one (ps_raise rfl (takes_of rfl rfl rfl rfl) (pmk_own PySem.F.excBase_ValueError T.by_.x T.by_.g T.by_.k (raises_own T.by_.b T.by_.t) rfl)))
  pss_nil)), ?_⟩
    cases hx : isNum x with
    | false =>
      refine z_if1 (b := true) u.s (et_is (et_or (a := true) (b := true) (et_not (a := false) (evt_B (evd_call (eva_cons (evd_var rfl z) eva_nil) ⟨x, rfl, by rw [hx]⟩))) fun h => nomatch h) rfl) (fun _ H2 e2 => k2 (fun ⟨n, q1, q2, _⟩ => ?_) H2 e2) (fun h => nomatch h)
      rw [q1] at hx
      have : decide (0 ≤ n) = false := hx
      rw [decide_eq_true q2] at this
      cases this
    | true =>
      cases x with
      | int n =>
        have hn : 0 ≤ n := of_decide_eq_true hx
        refine z_if1 (b := decide (n ≥ (l.length : Int))) u.s (et_is (et_or (a := false) (b := decide (n ≥ (l.length : Int))) (et_not (a := true) (evt_B (evd_call (eva_cons (evd_var rfl z) eva_nil) ⟨.int n, rfl, by rw [hx]⟩))) fun _ => evt_test (evd_B0 (evd_var rfl z) (evd_len (evd_var rfl zl)))) rfl) (fun hb H2 e2 => k2 (fun ⟨m, q1, q2, q3⟩ => ?_) H2 e2) (fun hb H2 e2 => k1 ⟨n, rfl, hn, ?_⟩ H2 e2)
        · cases q1
          have := of_decide_eq_true hb
          omega
        · have := of_decide_eq_false hb
          omega
      | _ => cases hx
end
end Gt

namespace Gt
open PySem PySem.Spec PyProof.Rows L2 Evl Gs
local macro_rules | `(tactic| walk_at "ev1") => `(tactic| first
  | exact evd_ci | exact evd_cb | exact evd_cn | exact evd_cs
  | exact evd_vi rfl | exact evd_vb rfl | exact evd_vn rfl
  | exact evd_var rfl (by assumption)
  | exact evd_sumS (by assumption) rfl | exact evd_lenS (by assumption) rfl
  | apply evd_I0 | apply evd_B0 | apply evd_U
  | apply evd_ixT | apply evd_ixL
  | apply evd_chain
  | apply evd_max2 | apply evd_min2 | apply evd_min3
  | exact evd_len (evd_var rfl (by assumption)) | exact evd_lenT (evd_var rfl (by assumption)) | apply evd_len
  | refine evd_tup ?_
  | apply evd_eq | apply evd_ne | apply evd_eqB | apply evd_neB
  | apply evd_isi | refine evd_not ?_
  | apply evd_I
  | exact eva_nil | refine eva_cons ?_ ?_
  | refine evn_lst ?_ | refine evn_sl ?_ ?_ ?_ | refine evn_cat ?_ ?_ ?_ | refine evn_listOf ?_ | refine evn_revL ?_
  | exact evo_none | refine evo_some ?_
  | refine EvN.asD (evn_lst ?_) | refine EvN.asD (evn_sl ?_ ?_ ?_) | refine EvN.asD (evn_cat ?_ ?_ ?_) | refine EvN.asD (evn_listOf ?_) | refine EvN.asD (evn_revL ?_)
  | refine evt_test ?_ | refine evt_B ?_
  | exact kit_int_int | exact kit_int_bool | exact kit_list_list | exact kit_tuple_tuple | exact kit_bool_int | exact kit_bool_bool | exact kit_none_int | exact kit_str_int | exact kit_list_int | exact kit_tuple_int | exact kit_int_tuple | exact kit_none_tuple | exact kit_list_tuple | exact kit_str_tuple | exact kit_bool_tuple | exact kit_tuple_list | exact kit_none_list | exact kit_str_list | exact kit_int_list
  | (show EvD _ _ _ _; assumption) | (show atI _ _ = _; first | assumption | rfl) | (show SeqAt.shaped _ = true; first | assumption | rfl)
  | (show CMulW _ _; first | assumption | exact mul_ok (by omega) (by omega)) | (show CDivW _ _; first | assumption | exact div_lit (by decide +kernel) | exact div_ok (by omega) (by omega)) | (show (0 : Int) < _; omega) | (show CPow _ _; exact ⟨by decide, by decide, by decide⟩))
local macro_rules | `(tactic| walk_at "ev") => `(tactic| repeat' (walk_at "ev1"))

section
variable {P : Program} {w : World} {K : PySem.W.Frag} {mg : Str → Option Value} {base : Heap}
-- from DaysB.part and DaysC.part
def goodDeed (d : Deed) : Prop := 0 ≤ d.1 ∧ 0 ≤ d.2
theorem good_areNums2 {d : Deed} (h : goodDeed d) : areNums (deedD d) 2 = true := by
  obtain ⟨h1, h2⟩ := h
  show (decide ((2 : Int) = 2) && (decide (0 ≤ d.1) && (decide (0 ≤ d.2) && true))) = true
  simp [h1, h2]
def sp_nights : Sp := spN fun ds es => ∃ l : List Deed, ds = [deedsD l] ∧ l.length ≤ 40000 ∧ es = (nights 0 l).map .int
theorem ok_nights (F : FunH K mg "nights" "nights" st_nights ps_nights) (B : Blt mg)  : Has P w K mg base CX0 1 "nights" ps_nights sp_nights := by
  refine F.has (N := N_nights) sc_nights (fun vs H Q E h => ?_) (fun f cdv A outer s H vs Q E hr h => ?_)
  · obtain ⟨G, ds, d, _, hz, ⟨l, rfl, _⟩, _⟩ := h
    exact hz.1
  · obtain ⟨G, ds, d, a, hz, ⟨l, rfl, hl, rfl⟩, k⟩ := h
    obtain ⟨v, rfl, z⟩ := hz.one
    have z : Ds G v (.list (l.map deedD)) := z
    have u := Up.refl a
    have nd := sc_nights.nd
    refine ⟨_, (pss_cons (ps_set (i := 1) nd rfl (Or.inl rfl) (pe_lst pa_nil))
  (pss_cons (ps_set (i := 2) nd rfl (Or.inl rfl) pe_int)
  (pss_cons (ps_for PassesOwn.never rfl (pi_listK K (pv 0)) (pg_tupK K (n := 2) (pgs_names (pg_name (i := 3) nd rfl (Or.inl rfl)) (pgs_names (pg_name (i := 4) nd rfl (Or.inl rfl)) pgs_done)))
  (pss_cons (ps_set (i := 2) nd rfl (Or.inl rfl) (pe_op op_sub (pe_op op_add (pv 2) (pv 3)) (pv 4)))
  (pss_one (ps_expr (pe_bm PySem.F.plainAttrs_list PySem.F.slot_list_append PySem.F.type_list_append mt_append (pv 1) (pa_cons (pv 2) pa_nil))))))
  (pss_one (ps_ret (pv 1)))))), ?_⟩
    refine q_setN u.s (evn_lst eva_nil) fun p xs H1 e1 hp h1 z1 => ?_
    cases z1.unnil
    have gp : G p = none := none_of_ex u.s hp
    refine q_setI (n := 0) (u.scal e1).s (by walk_at "ev") fun H2 e2 => ?_
    have u2 := (u.scal e1).scal e2
    refine q_for u2.s (src_listT (js := [3, 4]) (m := 2) (ds := l.map deedD) (by walk_at "ev") rfl (deed_tuples l)) fun H3 e3 =>
      ⟨fun i σ' G' H' => ∃ v3 v4, σ' = [some v, some (.ref p), some (.int (leftOf 0 (l.take i))), v3, v4] ∧ Up G H G' H' ∧ Ex (gr G H2 H3) G' ∧ G' p = none ∧ H' p = some (.lst ((nights 0 (l.take i)).map V.int)), ?_, ?_, ?_, ?_⟩
    · have p2 : H2 p = some (.lst []) := e2 _ _ h1
      exact ⟨none, none, rfl, u2.data e3, Ex.refl _, by rw [gr_old p2]; exact gp, e3 _ _ p2⟩
    · rintro i σ' G' H' ⟨_, _, _, u', g', _⟩
      exact ⟨g', u'.s⟩
    · rintro i σ' G' H' H4 σ4 hi ⟨v3, v4, rfl, u', g', gp', hp'⟩ e4 hS
      obtain ⟨d, hd, rfl⟩ := stp_deed hS
      have u4 := u'.scal e4
      refine q_setI (n := leftOf 0 (l.take i) + d.1 - d.2) u4.s (by walk_at "ev") fun H5 e5 => ?_
      have u5 := u4.scal e5
      have ls : leftOf 0 (l.take (i + 1)) = leftOf 0 (l.take i) + d.1 - d.2 := by rw [take_succ_of hd, leftOf_append]; rfl
      refine z_app (xs := (nights 0 (l.take i)).map V.int) u5.s rfl (e5 _ _ (e4 _ _ hp')) (d := .int (leftOf 0 (l.take i) + d.1 - d.2)) (by walk_at "ev") (by rw [List.length_map, nights_length, List.length_take]; omega) fun v6 H6 e6 z6 => ?_
      cases z6
      refine ⟨G', some (.int d.1), some (.int d.2), ?_, (u5.scal e6).mut gp' hp, g', gp', ?_⟩
      · rw [ls]; rfl
      · rw [upd_same, take_succ_of hd, nights_append, List.map_append]
        rfl
    · rintro σ' G' H' ⟨v3, v4, rfl, u', g', gp', hp'⟩
      rw [List.length_map, List.take_length] at hp'
      exact ⟨_, rfl, u'.outN k hp gp' hp' (DsA.ints _)⟩
def sp_gain_of : Sp := spD fun ds d => ∃ (l : List Day) (m : List Deed), ds = [daysD l, deedsD m] ∧ l.length ≤ 40000 ∧ (∀ x ∈ l, smallDay x) ∧ (∀ x ∈ m, smallDeed x) ∧ d = .int (gainOf l m)
theorem ok_gain_of (F : FunH K mg "gain_of" "gain_of" st_gain_of ps_gain_of) (B : Blt mg)  : Has P w K mg base CX0 1 "gain_of" ps_gain_of sp_gain_of := by
  refine F.has (N := N_gain_of) sc_gain_of (fun vs H Q E h => ?_) (fun f cdv A outer s H vs Q E hr h => ?_)
  · obtain ⟨G, ds, d, _, hz, ⟨l, m, rfl, _⟩, _⟩ := h
    exact hz.1
  · obtain ⟨G, ds, d, a, hz, ⟨l, m, rfl, hl, hs, hs', rfl⟩, k⟩ := h
    obtain ⟨v, v', rfl, z, z'⟩ := hz.two
    have z : Ds G v (.list (l.map dayD)) := z
    have z' : Ds G v' (.list (m.map deedD)) := z'
    have u := Up.refl a
    have nd := sc_gain_of.nd
    refine ⟨_, (pss_one (ps_ret (pe_callB (cr_sumK K) (by rfl) B.sum (by decide +kernel) (pa_cons (pe_lc (own := [("day", 2), ("deed", 3)]) (by rfl) nd (pi_zipK K B.zip (pa_cons (pv 0) (pa_cons (pv 1) pa_nil))) (blkOk_by (own := [("day", 2), ("deed", 3)]) (N := N_gain_of) (sc := defScope st_gain_of) (by decide +kernel)) (fun _ _ _ _ _ => (pg_tupK K (n := 2) (pgs_names (pg_name (i := 2) nd rfl (Or.inl rfl)) (pgs_names (pg_name (i := 3) nd rfl (Or.inl rfl)) pgs_done)))) (fun _ _ _ _ _ => pts_nil) (fun _ _ _ _ _ => (pe_op op_sub (pe_op op_mulW (pe_ix (ix_tupK K) (pv 3) pe_int (fun _ _ => rfl)) (pe_ix (ix_tupK K) (pv 2) pe_int (fun _ _ => rfl))) (pe_op op_mulW (pe_ix (ix_tupK K) (pv 3) pe_int (fun _ _ => rfl)) (pe_ix (ix_tupK K) (pv 2) pe_int (fun _ _ => rfl)))))) pa_nil)))), ?_⟩
    refine z_ret u.s (evd_sum (map_int_of ?_ (evn_lcZ (l := l) (m := m) (fun x y => .int (gainD x y)) (by walk_at "ev") (by walk_at "ev") hl (fun _ _ => rfl) fun Gx v w x y g hx hy zx zy => ?_))) (u.retD k)
    · rw [List.map_zipWith]
    · obtain ⟨b1, b2, b3, b4⟩ := hs x hx
      obtain ⟨c1, c2⟩ := hs' y hy
      show EvD _ _ _ (.int (y.2 * x.2.2.1 - y.1 * x.1))
      walk_at "ev"
def sp_first_fault : Sp := spD fun ds d => ∃ (l : List Day) (room : Int) (m : List Deed), ds = [daysD l, .int room, deedsD m] ∧ m.length ≤ 40000 ∧ m.length ≤ l.length ∧ d = .int (faultOf l room m)
theorem ok_first_fault (F : FunH K mg "first_fault" "first_fault" st_first_fault ps_first_fault) (B : Blt mg) (h_nights : Has P w K mg base CX0 1 "nights" ps_nights sp_nights) : Has P w K mg base CX0 2 "first_fault" ps_first_fault sp_first_fault := by
  refine F.has (N := N_first_fault) sc_first_fault (fun vs H Q E h => ?_) (fun f cdv A outer s H vs Q E hr h => ?_)
  · obtain ⟨G, ds, d, _, hz, ⟨l, room, m, rfl, _⟩, _⟩ := h
    exact hz.1
  · obtain ⟨G, ds, d, a, hz, ⟨l, room, m, rfl, hm, hl, rfl⟩, k⟩ := h
    obtain ⟨v, vr, v', rfl, z, zr, z'⟩ := hz.three
    cases zr
    have z : Ds G v (.list (l.map dayD)) := z
    have z' : Ds G v' (.list (m.map deedD)) := z'
    have u := Up.refl a
    have nd := sc_first_fault.nd
    refine ⟨_, (pss_cons (ps_for PassesOwn.never rfl (pi_enumK K B.enumerate (pa_cons (pe_f h_nights (hr.mono (by decide)) (pa_cons (pv 2) pa_nil)) pa_nil)) (pg_tupK K (n := 2) (pgs_names (pg_name (i := 3) nd rfl (Or.inl rfl)) (pgs_names (pg_name (i := 4) nd rfl (Or.inl rfl)) pgs_done)))
  (pss_cons (ps_asg (pe_ix (ix_listK K) (pv 2) (pv 3) (fun _ _ => rfl)) (pg_tupK K (n := 2) (pgs_names (pg_name (i := 5) nd rfl (Or.inl rfl)) (pgs_names (pg_name (i := 6) nd rfl (Or.inl rfl)) pgs_done))))
  (pss_one (ps_if (PW.pt (pw_or (pt_not (pt_chain op_le op_le pe_int (pv 5) (pe_ix (ix_tupK K) (pe_ix (ix_listK K) (pv 0) (pv 3) (fun _ _ => rfl)) pe_int (fun _ _ => rfl)))) (pw_or (pt_not (pt_chain op_le op_le pe_int (pv 6) (pe_ix (ix_tupK K) (pe_ix (ix_listK K) (pv 0) (pv 3) (fun _ _ => rfl)) pe_int (fun _ _ => rfl)))) (pw_or1 (pt_not (pt_chain op_le op_le pe_int (pv 4) (pv 1)))))))
  (pss_one (ps_ret (pv 3)))
  pss_nil))))
  (pss_one (ps_ret (pe_un un_neg pe_int)))), ?_⟩
    refine q_for u.s (src_enum (ds := (nights 0 m).map .int) (j := 3) (k := 4) (evn_call (by walk_at "ev") ⟨m, rfl, hm, rfl⟩).asD) fun H1 e1 =>
      ⟨fun i σ' G' H' => ∃ v3 v4 v5 v6, σ' = [some v, some (.int room), some v', v3, v4, v5, v6] ∧ Up G H G' H' ∧ Ex (gr G H H1) G' ∧ faultOf l room m = faultFrom (l.drop i) room (leftOf 0 (m.take i)) i (m.drop i), ?_, ?_, ?_, ?_⟩
    · exact ⟨none, none, none, none, rfl, u.data e1, Ex.refl _, rfl⟩
    · rintro i σ' G' H' ⟨_, _, _, _, _, u', g', _⟩
      exact ⟨g', u'.s⟩
    · rintro i σ' G' H' H3 σ3 hi ⟨v3, v4, v5, v6, rfl, u', g', hf⟩ e3 ⟨a3, a4, d3, d4, h3, h4, z3, z4, rfl⟩
      rw [List.length_map, nights_length] at hi
      obtain ⟨d, hd⟩ := get_of_lt hi
      obtain ⟨x, hx⟩ := get_of_lt (Nat.lt_of_lt_of_le hi hl)
      cases h3
      have h4 : ((nights 0 m).map PyData.int)[i]? = some d4 := h4
      rw [List.getElem?_map, nights_get hd] at h4
      cases h4
      cases z3
      cases z4
      have u3 := u'.scal e3
      have zl := z.mono u3.g
      have zm := z'.mono u3.g
      have ia := atI_map (f := dayD) hx
      have ib := atI_map (f := deedD) hd
      refine q_deed (x := d) u3.s (by walk_at "ev") fun H4 e4 => ?_
      have u4 := u3.scal e4
      have ls : leftOf 0 (m.take (i + 1)) = leftOf 0 (m.take i) + d.1 - d.2 := by rw [take_succ_of hd, leftOf_append]; rfl
      refine z_if1 (b := !okDeed x room (leftOf 0 (m.take i) + d.1 - d.2) d) u4.s (et_is (et_or (et_not (evt_test (by walk_at "ev"))) fun _ => et_or (et_not (evt_test (by walk_at "ev"))) fun _ => et_not (evt_test (by walk_at "ev"))) ?_) (fun hb H5 e5 => ?_) (fun hb H5 e5 => ?_)
      · unfold okDeed
        cases (decide (0 ≤ d.1) && decide (d.1 ≤ x.2.1)) <;> cases (decide (0 ≤ d.2) && decide (d.2 ≤ x.2.2.2)) <;> rfl
      · rw [faultFrom_drop hx hd, if_neg (by intro q; rw [q] at hb; cases hb)] at hf
        refine ⟨_, rfl, (u4.scal e5).outD k ?_⟩
        rw [hf]
        exact .int _
      · rw [faultFrom_drop hx hd, if_pos (by simpa using hb)] at hf
        exact ⟨G', some (.int i), some (.int (leftOf 0 (m.take i) + d.1 - d.2)), some (.int d.1), some (.int d.2), rfl, u4.scal e5, g', by rw [hf, ls]; rfl⟩
    · rintro σ' G' H' ⟨v3, v4, v5, v6, rfl, u', g', hf⟩
      rw [List.length_map, nights_length, List.drop_length] at hf
      have e : faultOf l room m = -1 := by rw [hf]; cases l.drop m.length <;> rfl
      rw [e] at k
      exact z_ret u'.s (by walk_at "ev") (u'.retD k)
end
end Gt

namespace Gt
open PySem PySem.Spec PyProof.Rows L2 Evl Gs
local macro_rules | `(tactic| walk_at "ev1") => `(tactic| first
  | exact evd_ci | exact evd_cb | exact evd_cn | exact evd_cs
  | exact evd_vi rfl | exact evd_vb rfl | exact evd_vn rfl
  | exact evd_var rfl (by assumption)
  | exact evd_sumS (by assumption) rfl | exact evd_lenS (by assumption) rfl
  | apply evd_I0 | apply evd_B0 | apply evd_U
  | apply evd_ixT | apply evd_ixL
  | apply evd_chain
  | apply evd_max2 | apply evd_min2 | apply evd_min3
  | exact evd_len (evd_var rfl (by assumption)) | exact evd_lenT (evd_var rfl (by assumption)) | apply evd_len
  | refine evd_tup ?_
  | apply evd_eq | apply evd_ne | apply evd_eqB | apply evd_neB
  | apply evd_isi | refine evd_not ?_
  | apply evd_I
  | exact eva_nil | refine eva_cons ?_ ?_
  | refine evn_lst ?_ | refine evn_sl ?_ ?_ ?_ | refine evn_cat ?_ ?_ ?_ | refine evn_listOf ?_ | refine evn_revL ?_
  | exact evo_none | refine evo_some ?_
  | refine EvN.asD (evn_lst ?_) | refine EvN.asD (evn_sl ?_ ?_ ?_) | refine EvN.asD (evn_cat ?_ ?_ ?_) | refine EvN.asD (evn_listOf ?_) | refine EvN.asD (evn_revL ?_)
  | refine evt_test ?_ | refine evt_B ?_
  | exact kit_int_int | exact kit_int_bool | exact kit_list_list | exact kit_tuple_tuple | exact kit_bool_int | exact kit_bool_bool | exact kit_none_int | exact kit_str_int | exact kit_list_int | exact kit_tuple_int | exact kit_int_tuple | exact kit_none_tuple | exact kit_list_tuple | exact kit_str_tuple | exact kit_bool_tuple | exact kit_tuple_list | exact kit_none_list | exact kit_str_list | exact kit_int_list
  | (show EvD _ _ _ _; assumption) | (show atI _ _ = _; first | assumption | rfl) | (show SeqAt.shaped _ = true; first | assumption | rfl)
  | (show CMulW _ _; first | assumption | exact mul_ok (by omega) (by omega)) | (show CDivW _ _; first | assumption | exact div_lit (by decide +kernel) | exact div_ok (by omega) (by omega)) | (show (0 : Int) < _; omega) | (show CPow _ _; exact ⟨by decide, by decide, by decide⟩))
local macro_rules | `(tactic| walk_at "ev") => `(tactic| repeat' (walk_at "ev1"))

section
variable {P : Program} {w : World} {K : PySem.W.Frag} {mg : Str → Option Value} {base : Heap}
theorem are_tuple {d : PyData} {n : Int} (h : areNums d n = true) : ∃ xs, d = .tuple xs ∧ (xs.length : Int) = n ∧ ∀ x ∈ xs, isNum x = true := by
  cases d with
  | tuple xs =>
    have h : (decide ((xs.length : Int) = n) && (xs.map isNum).all id) = true := h
    rw [Bool.and_eq_true] at h
    refine ⟨xs, rfl, of_decide_eq_true h.1, fun x hx => ?_⟩
    have h2 := h.2
    rw [List.all_map] at h2
    exact List.all_eq_true.mp h2 x hx
  | _ => cases h
theorem is_num {d : PyData} (h : isNum d = true) : ∃ n : Int, d = .int n ∧ 0 ≤ n := by
  cases d with
  | int n => exact ⟨n, rfl, of_decide_eq_true h⟩
  | _ => cases h
theorem is_day {d : PyData} (h : areNums d 4 = true) : ∃ x : Day, d = dayD x ∧ goodDay x := by
  obtain ⟨xs, rfl, l, a⟩ := are_tuple h
  match xs, l with
  | [a1, a2, a3, a4], _ =>
    obtain ⟨n1, rfl, h1⟩ := is_num (a a1 (by simp))
    obtain ⟨n2, rfl, h2⟩ := is_num (a a2 (by simp))
    obtain ⟨n3, rfl, h3⟩ := is_num (a a3 (by simp))
    obtain ⟨n4, rfl, h4⟩ := is_num (a a4 (by simp))
    exact ⟨(n1, n2, n3, n4), rfl, h1, h2, h3, h4⟩
theorem is_deed {d : PyData} (h : areNums d 2 = true) : ∃ x : Deed, d = deedD x ∧ goodDeed x := by
  obtain ⟨xs, rfl, l, a⟩ := are_tuple h
  match xs, l with
  | [a1, a2], _ =>
    obtain ⟨n1, rfl, h1⟩ := is_num (a a1 (by simp))
    obtain ⟨n2, rfl, h2⟩ := is_num (a a2 (by simp))
    exact ⟨(n1, n2), rfl, h1, h2⟩
theorem map_of {α : Type} {f : α → PyData} {P : α → Prop} : ∀ {ds : List PyData}, (∀ d ∈ ds, ∃ x, d = f x ∧ P x) → ∃ l : List α, ds = l.map f ∧ ∀ x ∈ l, P x
  | [], _ => ⟨[], rfl, fun _ h => nomatch h⟩
  | d :: ds, h => by
    obtain ⟨x, rfl, hx⟩ := h d List.mem_cons_self
    obtain ⟨l, rfl, hl⟩ := map_of fun y hy => h y (List.mem_cons_of_mem _ hy)
    exact ⟨x :: l, rfl, fun y hy => by
      rcases List.mem_cons.mp hy with rfl | hy
      · exact hx
      · exact hl y hy⟩
theorem ok_list {n : Int} {x : PyData} (h : listOk n x = true) : ∃ ds, x = .list ds ∧ ∀ d ∈ ds, areNums d n = true := by
  cases x with
  | list ds => exact ⟨ds, rfl, fun d hd => List.all_eq_true.mp h d hd⟩
  | _ => cases h
theorem ok_days {x : PyData} (h : listOk 4 x = true) : ∃ l, x = daysD l ∧ ∀ d ∈ l, goodDay d := by
  obtain ⟨ds, rfl, a⟩ := ok_list h
  obtain ⟨l, rfl, hl⟩ := map_of fun d hd => is_day (a d hd)
  exact ⟨l, rfl, hl⟩
theorem ok_deeds {x : PyData} (h : listOk 2 x = true) : ∃ l, x = deedsD l ∧ ∀ d ∈ l, goodDeed d := by
  obtain ⟨ds, rfl, a⟩ := ok_list h
  obtain ⟨l, rfl, hl⟩ := map_of fun d hd => is_deed (a d hd)
  exact ⟨l, rfl, hl⟩
section
variable {σ : L2.St} {G H : Hp} {E : XK} {e : Er} {ta tb : TE} {x y : PyData} {l : List PyData} {D : Ends} {u : TS}
theorem q_days (a : Ex G H) (ha : EvD ta σ G x) (f : fits x) (k1 : listOk 4 x = true → ∀ H2, Ex H H2 → u D σ H2) (k2 : listOk 4 x = false → ∀ H2, Ex H H2 → E (.ref e.days) none H2) : tSeq (tDrop (tCall (sp_asked_days e) [] E (tCons ta tNil))) u D σ H :=
  z_seq (ha H a _ fun v H1 e1 z => ⟨gr G H H1, v, x, rfl, gr_ex a e1, z, f, fun h H2 e2 => k1 h H2 (e1.trans e2), fun h H2 e2 => k2 h H2 (e1.trans e2)⟩)
theorem q_room (a : Ex G H) (ha : EvD ta σ G x) (k1 : isNum x = true → ∀ H2, Ex H H2 → u D σ H2) (k2 : isNum x = false → ∀ H2, Ex H H2 → E (.ref e.room) none H2) : tSeq (tDrop (tCall (sp_asked_room e) [] E (tCons ta tNil))) u D σ H :=
  z_seq (ha H a _ fun v H1 e1 z => ⟨gr G H H1, v, x, rfl, gr_ex a e1, z, fun h H2 e2 => k1 h H2 (e1.trans e2), fun h H2 e2 => k2 h H2 (e1.trans e2)⟩)
theorem q_deal (a : Ex G H) (ha : EvD ta σ G (.list l)) (hb : EvD tb σ G x) (f : fits x) (k1 : listOk 2 x = true ∧ lenD x = l.length → ∀ H2, Ex H H2 → u D σ H2) (k2 : ¬ (listOk 2 x = true ∧ lenD x = l.length) → ∀ H2, Ex H H2 → E (.ref e.deal) none H2) : tSeq (tDrop (tCall (sp_asked_dealing e) [] E (tCons ta (tCons tb tNil)))) u D σ H :=
  z_seq (ha.seq hb a fun v w H1 e1 z1 z2 => ⟨gr G H H1, v, w, l, x, rfl, gr_ex a e1, z1, z2, f, fun h H2 e2 => k1 h H2 (e1.trans e2), fun h H2 e2 => k2 h H2 (e1.trans e2)⟩)
theorem q_at (a : Ex G H) (ha : EvD ta σ G (.list l)) (hb : EvD tb σ G x) (k1 : (∃ n : Int, x = .int n ∧ 0 ≤ n ∧ n < l.length) → ∀ H2, Ex H H2 → u D σ H2) (k2 : (¬ ∃ n : Int, x = .int n ∧ 0 ≤ n ∧ n < l.length) → ∀ H2, Ex H H2 → E (.ref e.day) none H2) : tSeq (tDrop (tCall (sp_asked_day e) [] E (tCons ta (tCons tb tNil)))) u D σ H :=
  z_seq (ha.seq hb a fun v w H1 e1 z1 z2 => ⟨gr G H H1, v, w, l, x, rfl, gr_ex a e1, z1, z2, fun h H2 e2 => k1 h H2 (e1.trans e2), fun h H2 e2 => k2 h H2 (e1.trans e2)⟩)
end
def sp_stored (e : Er) : Sp := fun vs H Q E => ∃ (G : Hp) (v w : V) (x y : PyData), vs = [v, w] ∧ Ex G H ∧ Ds G v x ∧ Ds G w y ∧ fits x ∧ fits y ∧ (listOk 4 x = false → ∀ H2, Ex H H2 → E (.ref e.days) none H2) ∧ (listOk 4 x = true → ¬ (listOk 2 y = true ∧ lenD y = lenD x) → ∀ H2, Ex H H2 → E (.ref e.deal) none H2) ∧
  (∀ m, listOk 4 x = true → listOk 2 y = true → lenD y = lenD x → y = deedsD m → ∀ p xs H2, Ex H H2 → H p = none → H2 p = some (.lst xs) → DsA (but (gr G H H2) p) xs ((nights 0 m).map PyData.int) → Q (.ref p) H2)
theorem ok_stored {e : Er} (T : ErT K mg e) (F : FunH K mg "stored" "stored" st_stored ps_stored) (B : Blt mg) (h_asked_days : Has P w K mg base (L2.CX P w) 3 "asked_days" ps_asked_days (sp_asked_days e)) (h_asked_dealing : Has P w K mg base (L2.CX P w) 3 "asked_dealing" ps_asked_dealing (sp_asked_dealing e)) (h_nights : Has P w K mg base CX0 1 "nights" ps_nights sp_nights) : Has P w K mg base (L2.CX P w) 4 "stored" ps_stored (sp_stored e) := by
  refine F.hasX (N := N_stored) sc_stored (fun vs H Q E h => ?_) (fun f cdv A outer s H vs Q E hr h => ?_)
  · obtain ⟨G, v, w, x, y, rfl, _⟩ := h
    rfl
  · obtain ⟨G, v, w, x, y, rfl, a, z, z2, f, f2, k1, k2, k3⟩ := h
    have u := Up.refl a
    have nd := sc_stored.nd
    refine ⟨_, (pss_cons (ps_expr (pe_fX h_asked_days (hr.mono (by decide)) (pa_cons (pv 0) pa_nil) (takes_of rfl rfl rfl rfl)))
  (pss_cons (ps_expr (pe_fX h_asked_dealing (hr.mono (by decide)) (pa_cons (pv 0) (pa_cons (pv 1) pa_nil)) (takes_of rfl rfl rfl rfl)))
  (pss_one (ps_ret (pe_f h_nights (hr.mono (by decide)) (pa_cons (pv 1) pa_nil)))))), ?_⟩
    refine q_days u.s (evd_var rfl z) f (fun hx H2 e2 => ?_) k1
    obtain ⟨l, rfl, _⟩ := ok_days hx
    have u2 := u.scal e2
    refine q_deal u2.s (evd_var rfl z) (evd_var rfl z2) f2 (fun hy H3 e3 => ?_) (fun hy H3 e3 => k2 hx hy H3 (e2.trans e3))
    obtain ⟨hy1, hy2⟩ := hy
    obtain ⟨m, rfl, _⟩ := ok_deeds hy1
    have hl : m.length ≤ 40000 := by have := (f2 _ rfl).1; rwa [List.length_map] at this
    have u3 := u2.scal e3
    exact z_retN u3.s (evn_call (eva_cons (evd_var rfl z2) eva_nil) ⟨m, rfl, hl, rfl⟩) (u3.retN (k3 m hx hy1 hy2 rfl))
def sp_gained (e : Er) : Sp := fun vs H Q E => ∃ (G : Hp) (v w : V) (x y : PyData), vs = [v, w] ∧ Ex G H ∧ Ds G v x ∧ Ds G w y ∧ fits x ∧ fits y ∧ (listOk 4 x = false → ∀ H2, Ex H H2 → E (.ref e.days) none H2) ∧ (listOk 4 x = true → ¬ (listOk 2 y = true ∧ lenD y = lenD x) → ∀ H2, Ex H H2 → E (.ref e.deal) none H2) ∧ ¬ (listOk 4 x = true ∧ listOk 2 y = true ∧ lenD y = lenD x)
theorem ok_gained {e : Er} (T : ErT K mg e) (F : FunH K mg "gained" "gained" st_gained ps_gained) (B : Blt mg) (h_asked_days : Has P w K mg base (L2.CX P w) 3 "asked_days" ps_asked_days (sp_asked_days e)) (h_asked_dealing : Has P w K mg base (L2.CX P w) 3 "asked_dealing" ps_asked_dealing (sp_asked_dealing e)) (h_gain_of : Has P w K mg base CX0 1 "gain_of" ps_gain_of sp_gain_of) : Has P w K mg base (L2.CX P w) 4 "gained" ps_gained (sp_gained e) := by
  refine F.hasX (N := N_gained) sc_gained (fun vs H Q E h => ?_) (fun f cdv A outer s H vs Q E hr h => ?_)
  · obtain ⟨G, v, w, x, y, rfl, _⟩ := h
    rfl
  · obtain ⟨G, v, w, x, y, rfl, a, z, z2, f, f2, k1, k2, k3⟩ := h
    have u := Up.refl a
    have nd := sc_gained.nd
    refine ⟨_, (pss_cons (ps_expr (pe_fX h_asked_days (hr.mono (by decide)) (pa_cons (pv 0) pa_nil) (takes_of rfl rfl rfl rfl)))
  (pss_cons (ps_expr (pe_fX h_asked_dealing (hr.mono (by decide)) (pa_cons (pv 0) (pa_cons (pv 1) pa_nil)) (takes_of rfl rfl rfl rfl)))
  (pss_one (ps_ret (pe_f h_gain_of (hr.mono (by decide)) (pa_cons (pv 0) (pa_cons (pv 1) pa_nil))))))), ?_⟩
    refine q_days u.s (evd_var rfl z) f (fun hx H2 e2 => ?_) k1
    obtain ⟨l, rfl, _⟩ := ok_days hx
    exact q_deal (u.scal e2).s (evd_var rfl z) (evd_var rfl z2) f2 (fun hy H3 e3 => absurd ⟨hx, hy⟩ k3) (fun hy H3 e3 => k2 hx hy H3 (e2.trans e3))
def sp_barred (e : Er) : Sp := fun vs H Q E => ∃ (G : Hp) (v r w : V) (x n y : PyData), vs = [v, r, w] ∧ Ex G H ∧ Ds G v x ∧ Ds G r n ∧ Ds G w y ∧ fits x ∧ fits y ∧ (listOk 4 x = false → ∀ H2, Ex H H2 → E (.ref e.days) none H2) ∧ (listOk 4 x = true → isNum n = false → ∀ H2, Ex H H2 → E (.ref e.room) none H2) ∧
  (listOk 4 x = true → isNum n = true → ¬ (listOk 2 y = true ∧ lenD y = lenD x) → ∀ H2, Ex H H2 → E (.ref e.deal) none H2) ∧ (∀ l R m, listOk 4 x = true → isNum n = true → listOk 2 y = true → lenD y = lenD x → x = daysD l → n = .int R → y = deedsD m → ∀ H2, Ex H H2 → Q (.int (faultOf l R m)) H2)
theorem ok_barred {e : Er} (T : ErT K mg e) (F : FunH K mg "barred" "barred" st_barred ps_barred) (B : Blt mg) (h_asked_days : Has P w K mg base (L2.CX P w) 3 "asked_days" ps_asked_days (sp_asked_days e)) (h_asked_dealing : Has P w K mg base (L2.CX P w) 3 "asked_dealing" ps_asked_dealing (sp_asked_dealing e)) (h_asked_room : Has P w K mg base (L2.CX P w) 2 "asked_room" ps_asked_room (sp_asked_room e)) (h_first_fault : Has P w K mg base CX0 2 "first_fault" ps_first_fault sp_first_fault) : Has P w K mg base (L2.CX P w) 4 "barred" ps_barred (sp_barred e) := by
  refine F.hasX (N := N_barred) sc_barred (fun vs H Q E h => ?_) (fun f cdv A outer s H vs Q E hr h => ?_)
  · obtain ⟨G, v, r, w, x, n, y, rfl, _⟩ := h
    rfl
  · obtain ⟨G, v, r, w, x, n, y, rfl, a, z, zr, z2, f, f2, k1, k2, k3, k4⟩ := h
    have u := Up.refl a
    have nd := sc_barred.nd
    refine ⟨_, (pss_cons (ps_expr (pe_fX h_asked_days (hr.mono (by decide)) (pa_cons (pv 0) pa_nil) (takes_of rfl rfl rfl rfl)))
  (pss_cons (ps_expr (pe_fX h_asked_room (hr.mono (by decide)) (pa_cons (pv 1) pa_nil) (takes_of rfl rfl rfl rfl)))
  (pss_cons (ps_expr (pe_fX h_asked_dealing (hr.mono (by decide)) (pa_cons (pv 0) (pa_cons (pv 2) pa_nil)) (takes_of rfl rfl rfl rfl)))
  (pss_one (ps_ret (pe_f h_first_fault (hr.mono (by decide)) (pa_cons (pv 0) (pa_cons (pv 1) (pa_cons (pv 2) pa_nil))))))))), ?_⟩
    refine q_days u.s (evd_var rfl z) f (fun hx H2 e2 => ?_) k1
    obtain ⟨l, rfl, _⟩ := ok_days hx
    have u2 := u.scal e2
    refine q_room u2.s (evd_var rfl zr) (fun hn H3 e3 => ?_) (fun hn H3 e3 => k2 hx hn H3 (e2.trans e3))
    have u3 := u2.scal e3
    refine q_deal u3.s (evd_var rfl z) (evd_var rfl z2) f2 (fun hy H4 e4 => ?_) (fun hy H4 e4 => k3 hx hn hy H4 ((e2.trans e3).trans e4))
    obtain ⟨hy1, hy2⟩ := hy
    obtain ⟨m, rfl, _⟩ := ok_deeds hy1
    obtain ⟨R, rfl, r0⟩ := is_num hn
    have hl : m.length ≤ 40000 := by have := (f2 _ rfl).1; rwa [List.length_map] at this
    have hm : m.length = l.length := by have : (m.map deedD).length = (l.map dayD).length := hy2; rwa [List.length_map, List.length_map] at this
    have u4 := u3.scal e4
    refine z_ret u4.s (evd_call (eva_cons (evd_var rfl z) (eva_cons (evd_var rfl zr) (eva_cons (evd_var rfl z2) eva_nil))) ⟨l, R, m, rfl, hl, by omega, rfl⟩) fun v5 H5 e5 z5 => ?_
    cases z5
    exact k4 l R m hx hn hy1 hy2 rfl rfl rfl H5 (((e2.trans e3).trans e4).trans e5)
def sp_best (e : Er) : Sp := fun vs H Q E => ∃ (G : Hp) (v r : V) (x n : PyData), vs = [v, r] ∧ Ex G H ∧ Ds G v x ∧ Ds G r n ∧ fits x ∧ (listOk 4 x = false → ∀ H2, Ex H H2 → E (.ref e.days) none H2) ∧ (listOk 4 x = true → isNum n = false → ∀ H2, Ex H H2 → E (.ref e.room) none H2) ∧ ¬ (listOk 4 x = true ∧ isNum n = true)
theorem ok_best {e : Er} (T : ErT K mg e) (F : FunH K mg "best" "best" st_best ps_best) (B : Blt mg) (h_asked_days : Has P w K mg base (L2.CX P w) 3 "asked_days" ps_asked_days (sp_asked_days e)) (h_asked_room : Has P w K mg base (L2.CX P w) 2 "asked_room" ps_asked_room (sp_asked_room e)) : Has P w K mg base (L2.CX P w) 4 "best" ps_best (sp_best e) := by
  refine F.hasX (N := N_best) sc_best (fun vs H Q E h => ?_) (fun f cdv A outer s H vs Q E hr h => ?_)
  · obtain ⟨G, v, r, x, n, rfl, _⟩ := h
    rfl
  · obtain ⟨G, v, r, x, n, rfl, a, z, zr, f, k1, k2, k3⟩ := h
    have u := Up.refl a
    have nd := sc_best.nd
    refine ⟨_, (pss_cons (ps_expr (pe_fX h_asked_days (hr.mono (by decide)) (pa_cons (pv 0) pa_nil) (takes_of rfl rfl rfl rfl)))
  (pss_cons (ps_expr (pe_fX h_asked_room (hr.mono (by decide)) (pa_cons (pv 1) pa_nil) (takes_of rfl rfl rfl rfl)))
  pss_any)), ?_⟩
    exact q_days u.s (evd_var rfl z) f (fun hx H2 e2 => q_room (u.scal e2).s (evd_var rfl zr) (fun hn H3 e3 => absurd ⟨hx, hn⟩ k3) (fun hn H3 e3 => k2 hx hn H3 (e2.trans e3))) k1
def sp_most_gain (e : Er) : Sp := sp_best e
theorem ok_most_gain {e : Er} (T : ErT K mg e) (F : FunH K mg "most_gain" "most_gain" st_most_gain ps_most_gain) (B : Blt mg) (h_asked_days : Has P w K mg base (L2.CX P w) 3 "asked_days" ps_asked_days (sp_asked_days e)) (h_asked_room : Has P w K mg base (L2.CX P w) 2 "asked_room" ps_asked_room (sp_asked_room e)) : Has P w K mg base (L2.CX P w) 4 "most_gain" ps_most_gain (sp_most_gain e) := by
  refine F.hasX (N := N_most_gain) sc_most_gain (fun vs H Q E h => ?_) (fun f cdv A outer s H vs Q E hr h => ?_)
  · obtain ⟨G, v, r, x, n, rfl, _⟩ := h
    rfl
  · obtain ⟨G, v, r, x, n, rfl, a, z, zr, f, k1, k2, k3⟩ := h
    have u := Up.refl a
    have nd := sc_most_gain.nd
    refine ⟨_, (pss_cons (ps_expr (pe_fX h_asked_days (hr.mono (by decide)) (pa_cons (pv 0) pa_nil) (takes_of rfl rfl rfl rfl)))
  (pss_cons (ps_expr (pe_fX h_asked_room (hr.mono (by decide)) (pa_cons (pv 1) pa_nil) (takes_of rfl rfl rfl rfl)))
  pss_any)), ?_⟩
    exact q_days u.s (evd_var rfl z) f (fun hx H2 e2 => q_room (u.scal e2).s (evd_var rfl zr) (fun hn H3 e3 => absurd ⟨hx, hn⟩ k3) (fun hn H3 e3 => k2 hx hn H3 (e2.trans e3))) k1
def sp_changed (e : Er) : Sp := fun vs H Q E => ∃ (G : Hp) (v r i w : V) (x n j y : PyData), vs = [v, r, i, w] ∧ Ex G H ∧ Ds G v x ∧ Ds G r n ∧ Ds G i j ∧ Ds G w y ∧ fits x ∧ fits (.list [y]) ∧ (listOk 4 x = false → ∀ H2, Ex H H2 → E (.ref e.days) none H2) ∧ (listOk 4 x = true → isNum n = false → ∀ H2, Ex H H2 → E (.ref e.room) none H2) ∧
  (listOk 4 x = true → isNum n = true → (¬ ∃ k : Int, j = .int k ∧ 0 ≤ k ∧ k < lenD x) → ∀ H2, Ex H H2 → E (.ref e.day) none H2) ∧ (listOk 4 x = true → isNum n = true → (∃ k : Int, j = .int k ∧ 0 ≤ k ∧ k < lenD x) → listOk 4 (.list [y]) = false ∧ ∀ H2, Ex H H2 → E (.ref e.days) none H2)
theorem ok_changed {e : Er} (T : ErT K mg e) (F : FunH K mg "changed" "changed" st_changed ps_changed) (B : Blt mg) (h_asked_day : Has P w K mg base (L2.CX P w) 2 "asked_day" ps_asked_day (sp_asked_day e)) (h_asked_days : Has P w K mg base (L2.CX P w) 3 "asked_days" ps_asked_days (sp_asked_days e)) (h_asked_room : Has P w K mg base (L2.CX P w) 2 "asked_room" ps_asked_room (sp_asked_room e)) : Has P w K mg base (L2.CX P w) 4 "changed" ps_changed (sp_changed e) := by
  refine F.hasX (N := N_changed) sc_changed (fun vs H Q E h => ?_) (fun f cdv A outer s H vs Q E hr h => ?_)
  · obtain ⟨G, v, r, i, w, x, n, j, y, rfl, _⟩ := h
    rfl
  · obtain ⟨G, v, r, i, w, x, n, j, y, rfl, a, z, zr, zi, zw, f, f2, k1, k2, k3, k4⟩ := h
    have u := Up.refl a
    have nd := sc_changed.nd
    refine ⟨_, (pss_cons (ps_expr (pe_fX h_asked_days (hr.mono (by decide)) (pa_cons (pv 0) pa_nil) (takes_of rfl rfl rfl rfl)))
  (pss_cons (ps_expr (pe_fX h_asked_room (hr.mono (by decide)) (pa_cons (pv 1) pa_nil) (takes_of rfl rfl rfl rfl)))
  (pss_cons (ps_expr (pe_fX h_asked_day (hr.mono (by decide)) (pa_cons (pv 0) (pa_cons (pv 2) pa_nil)) (takes_of rfl rfl rfl rfl)))
  (pss_cons (ps_expr (pe_fX h_asked_days (hr.mono (by decide)) (pa_cons (pe_lst (pa_cons (pv 3) pa_nil)) pa_nil) (takes_of rfl rfl rfl rfl)))
  pss_any)))), ?_⟩
    refine q_days u.s (evd_var rfl z) f (fun hx H2 e2 => ?_) k1
    obtain ⟨l, rfl, _⟩ := ok_days hx
    have u2 := u.scal e2
    refine q_room u2.s (evd_var rfl zr) (fun hn H3 e3 => ?_) (fun hn H3 e3 => k2 hx hn H3 (e2.trans e3))
    have u3 := u2.scal e3
    refine q_at u3.s (evd_var rfl z) (evd_var rfl zi) (fun hj H4 e4 => ?_) (fun hj H4 e4 => k3 hx hn hj H4 ((e2.trans e3).trans e4))
    obtain ⟨b, kk⟩ := k4 hx hn hj
    have u4 := u3.scal e4
    exact q_days u4.s (EvN.asD (evn_lst (eva_cons (evd_var rfl zw) eva_nil))) f2 (fun hq => by rw [b] at hq; cases hq) (fun _ H5 e5 => kk H5 (((e2.trans e3).trans e4).trans e5))
end
end Gt

namespace Gt
open PySem PySem.Spec PyProof.Rows L2 Evl Gs
local macro_rules | `(tactic| walk_at "ev1") => `(tactic| first
  | exact evd_ci | exact evd_cb | exact evd_cn | exact evd_cs
  | exact evd_vi rfl | exact evd_vb rfl | exact evd_vn rfl
  | exact evd_var rfl (by assumption)
  | exact evd_sumS (by assumption) rfl | exact evd_lenS (by assumption) rfl
  | apply evd_I0 | apply evd_B0 | apply evd_U
  | apply evd_ixT | apply evd_ixL
  | apply evd_chain
  | apply evd_max2 | apply evd_min2 | apply evd_min3
  | exact evd_len (evd_var rfl (by assumption)) | exact evd_lenT (evd_var rfl (by assumption)) | apply evd_len
  | refine evd_tup ?_
  | apply evd_eq | apply evd_ne | apply evd_eqB | apply evd_neB
  | apply evd_isi | refine evd_not ?_
  | apply evd_I
  | exact eva_nil | refine eva_cons ?_ ?_
  | refine evn_lst ?_ | refine evn_sl ?_ ?_ ?_ | refine evn_cat ?_ ?_ ?_ | refine evn_listOf ?_ | refine evn_revL ?_
  | exact evo_none | refine evo_some ?_
  | refine EvN.asD (evn_lst ?_) | refine EvN.asD (evn_sl ?_ ?_ ?_) | refine EvN.asD (evn_cat ?_ ?_ ?_) | refine EvN.asD (evn_listOf ?_) | refine EvN.asD (evn_revL ?_)
  | refine evt_test ?_ | refine evt_B ?_
  | exact kit_int_int | exact kit_int_bool | exact kit_list_list | exact kit_tuple_tuple | exact kit_bool_int | exact kit_bool_bool | exact kit_none_int | exact kit_str_int | exact kit_list_int | exact kit_tuple_int | exact kit_int_tuple | exact kit_none_tuple | exact kit_list_tuple | exact kit_str_tuple | exact kit_bool_tuple | exact kit_tuple_list | exact kit_none_list | exact kit_str_list | exact kit_int_list
  | (show EvD _ _ _ _; assumption) | (show atI _ _ = _; first | assumption | rfl) | (show SeqAt.shaped _ = true; first | assumption | rfl)
  | (show CMulW _ _; first | assumption | exact mul_ok (by omega) (by omega)) | (show CDivW _ _; first | assumption | exact div_lit (by decide +kernel) | exact div_ok (by omega) (by omega)) | (show (0 : Int) < _; omega) | (show CPow _ _; exact ⟨by decide, by decide, by decide⟩))
local macro_rules | `(tactic| walk_at "ev") => `(tactic| repeat' (walk_at "ev1"))

section
variable {P : Program} {w : World} {K : PySem.W.Frag} {mg : Str → Option Value} {base : Heap}
section
variable {σ : L2.St} {G H : Hp} {E : XK} {e : Er} {ta tb tc td : TE} {t : TT} {x y n j : PyData} {D : Ends} {u : TS} {Q : VK}
theorem evd_dict : EvD tDNewK σ G (.dict []) := fun H1 a Q q p hp => q (.ref p) _ (Ex.new hp) (.dct (by rw [gr_new hp]; exact upd_same))
theorem x_if {b : Bool} (a : Ex G H) (h : EvT t σ G b) (h1 : b = true → ∀ H2, Ex H H2 → ta σ H2 Q) (h2 : b = false → ∀ H2, Ex H H2 → tb σ H2 Q) : tIf t ta tb σ H Q := h H a _ fun H2 e => by
  cases b with
  | true => exact h1 rfl H2 e
  | false => exact h2 rfl H2 e
theorem fits_none : fits .none := fun _ h => nomatch h
theorem x_stored (a : Ex G H) (ha : EvD ta σ G x) (hb : EvD tb σ G y) (f : fits x) (f2 : fits y) (k1 : listOk 4 x = false → ∀ H2, Ex H H2 → E (.ref e.days) none H2) (k2 : listOk 4 x = true → ¬ (listOk 2 y = true ∧ lenD y = lenD x) ∧ ∀ H2, Ex H H2 → E (.ref e.deal) none H2) : tCall (sp_stored e) [] E (tCons ta (tCons tb tNil)) σ H Q :=
  ha.seq hb a fun v w H1 e1 z1 z2 => ⟨gr G H H1, v, w, x, y, rfl, gr_ex a e1, z1, z2, f, f2, fun h H2 e2 => k1 h H2 (e1.trans e2), fun h _ H2 e2 => (k2 h).2 H2 (e1.trans e2), fun m h q l => absurd ⟨q, l⟩ (k2 h).1⟩
theorem x_gained (a : Ex G H) (ha : EvD ta σ G x) (hb : EvD tb σ G y) (f : fits x) (f2 : fits y) (k1 : listOk 4 x = false → ∀ H2, Ex H H2 → E (.ref e.days) none H2) (k2 : listOk 4 x = true → ¬ (listOk 2 y = true ∧ lenD y = lenD x) ∧ ∀ H2, Ex H H2 → E (.ref e.deal) none H2) : tCall (sp_gained e) [] E (tCons ta (tCons tb tNil)) σ H Q :=
  ha.seq hb a fun v w H1 e1 z1 z2 => ⟨gr G H H1, v, w, x, y, rfl, gr_ex a e1, z1, z2, f, f2, fun h H2 e2 => k1 h H2 (e1.trans e2), fun h _ H2 e2 => (k2 h).2 H2 (e1.trans e2), fun h => (k2 h.1).1 h.2⟩
theorem x_barred (a : Ex G H) (ha : EvD ta σ G x) (hn : EvD tc σ G n) (hb : EvD tb σ G y) (f : fits x) (f2 : fits y) (k1 : listOk 4 x = false → ∀ H2, Ex H H2 → E (.ref e.days) none H2) (k2 : listOk 4 x = true → isNum n = false → ∀ H2, Ex H H2 → E (.ref e.room) none H2)
    (k3 : listOk 4 x = true → isNum n = true → ¬ (listOk 2 y = true ∧ lenD y = lenD x) ∧ ∀ H2, Ex H H2 → E (.ref e.deal) none H2) : tCall (sp_barred e) [] E (tCons ta (tCons tc (tCons tb tNil))) σ H Q :=
  (eva_cons ha (eva_cons hn (eva_cons hb eva_nil))) H a _ fun vs H1 e1 z => by
    obtain ⟨v, r, w, rfl, z1, z2, z3⟩ := z.three
    exact ⟨gr G H H1, v, r, w, x, n, y, rfl, gr_ex a e1, z1, z2, z3, f, f2, fun h H2 e2 => k1 h H2 (e1.trans e2), fun h h2 H2 e2 => k2 h h2 H2 (e1.trans e2), fun h h2 _ H2 e2 => (k3 h h2).2 H2 (e1.trans e2), fun l R m h h2 q q2 => absurd ⟨q, q2⟩ (k3 h h2).1⟩
theorem x_best (a : Ex G H) (ha : EvD ta σ G x) (hn : EvD tc σ G n) (f : fits x) (k1 : listOk 4 x = false → ∀ H2, Ex H H2 → E (.ref e.days) none H2) (k2 : listOk 4 x = true → isNum n = false ∧ ∀ H2, Ex H H2 → E (.ref e.room) none H2) : tCall (sp_best e) [] E (tCons ta (tCons tc tNil)) σ H Q :=
  ha.seq hn a fun v w H1 e1 z1 z2 => ⟨gr G H H1, v, w, x, n, rfl, gr_ex a e1, z1, z2, f, fun h H2 e2 => k1 h H2 (e1.trans e2), fun h _ H2 e2 => (k2 h).2 H2 (e1.trans e2), fun h => by rw [(k2 h.1).1] at h; exact nomatch h.2⟩
theorem x_changed (a : Ex G H) (ha : EvD ta σ G x) (hn : EvD tb σ G n) (hj : EvD tc σ G j) (hy : EvD td σ G y) (f : fits x) (f2 : fits (.list [y])) (k1 : listOk 4 x = false → ∀ H2, Ex H H2 → E (.ref e.days) none H2) (k2 : listOk 4 x = true → isNum n = false → ∀ H2, Ex H H2 → E (.ref e.room) none H2)
    (k3 : listOk 4 x = true → isNum n = true → (¬ ∃ k : Int, j = .int k ∧ 0 ≤ k ∧ k < lenD x) → ∀ H2, Ex H H2 → E (.ref e.day) none H2) (k4 : listOk 4 x = true → isNum n = true → (∃ k : Int, j = .int k ∧ 0 ≤ k ∧ k < lenD x) → listOk 4 (.list [y]) = false ∧ ∀ H2, Ex H H2 → E (.ref e.days) none H2) : tCall (sp_changed e) [] E (tCons ta (tCons tb (tCons tc (tCons td tNil)))) σ H Q :=
  (eva_cons ha (eva_cons hn (eva_cons hj (eva_cons hy eva_nil)))) H a _ fun vs H1 e1 z => by
    obtain ⟨v, r, i, w, rfl, z1, z2, z3, z4⟩ := z.four
    exact ⟨gr G H H1, v, r, i, w, x, n, j, y, rfl, gr_ex a e1, z1, z2, z3, z4, f, f2, fun h H2 e2 => k1 h H2 (e1.trans e2), fun h h2 H2 e2 => k2 h h2 H2 (e1.trans e2), fun h h2 h3 H2 e2 => k3 h h2 h3 H2 (e1.trans e2), fun h h2 h3 => ⟨(k4 h h2 h3).1, fun H2 e2 => (k4 h h2 h3).2 H2 (e1.trans e2)⟩⟩
end
def bad1 (q : Int) : List PyData := [.none, .int 5, .tuple [.int 1, .int 2, .int 3], .tuple [.int 1, .int 2, .int 3, .int 4, .int 5], .list [.int 1, .int 2, .int 3, .int 4], .tuple [.int 1, .int (-1 - q), .int 2, .int 3], .tuple [.int (-1), .int 2, .int 3, .int 4], .tuple [.int 1, .int 2, .int (-1 - q), .int 4]]
def bad2 : List PyData := [.tuple [.int 1, .int 2, .int 3, .int (-1)], .tuple [.bool true, .int 2, .int 3, .int 4], .tuple [.int 1, .str "2", .int 3, .int 4], .tuple [.int 1, .int 2, .none, .int 4]]
def badDay (w q : Int) : PyData := (bad1 q ++ bad2).getD (w % 12).toNat .none
theorem neg_q {q : Int} (h : 0 ≤ q) : decide (0 ≤ -1 - q) = false := decide_eq_false (by omega)
theorem bad_all {q : Int} (h : 0 ≤ q) : ∀ d ∈ bad1 q ++ bad2, areNums d 4 = false ∧ ∀ xs, d = .tuple xs → xs.length ≤ 40000 := by
  intro d hd
  have n := neg_q h
  simp only [bad1, bad2, List.mem_append, List.mem_cons, List.not_mem_nil, or_false] at hd
  rcases hd with (rfl | rfl | rfl | rfl | rfl | rfl | rfl | rfl) | (rfl | rfl | rfl | rfl) <;> refine ⟨by first | (simp [areNums, isNum, n]; done) | (simp [areNums, isNum, n]; omega), fun xs e => ?_⟩ <;> cases e <;> simp
theorem badDay_bad (w : Int) {q : Int} (h : 0 ≤ q) : areNums (badDay w q) 4 = false ∧ ∀ xs, badDay w q = .tuple xs → xs.length ≤ 40000 := by
  refine bad_all h _ ?_
  unfold badDay
  have : (w % 12).toNat < (bad1 q ++ bad2).length := by show (w % 12).toNat < 12; omega
  rw [List.getD_eq_getElem?_getD, List.getElem?_eq_getElem this]
  exact List.getElem_mem this
theorem at_mod {l : List PyData} {i : Int} (h0 : 0 ≤ i) (h : i < l.length) : atI l i = some (l.getD i.toNat .none) := by
  obtain ⟨n, rfl⟩ := Int.eq_ofNat_of_zero_le h0
  have hn : n < l.length := by omega
  rw [Int.toNat_natCast, List.getD_eq_getElem?_getD, List.getElem?_eq_getElem hn]
  exact atI_nat (List.getElem?_eq_getElem hn)
theorem getD_mem {l : List PyData} {i : Int} (h0 : 0 ≤ i) (h : i < l.length) : l.getD i.toNat .none ∈ l := by
  have hn : i.toNat < l.length := by omega
  rw [List.getD_eq_getElem?_getD, List.getElem?_eq_getElem hn]
  exact List.getElem_mem hn
def sp__law_day : Sp := spD fun ds d => ∃ w q : Int, ds = [.int w, .int q] ∧ d = badDay w q
theorem ok__law_day (F : FunH K mg "_law_day" "_law_day" st__law_day ps__law_day) (B : Blt mg)  : Has P w K mg base CX0 1 "_law_day" ps__law_day sp__law_day := by
  refine F.has (N := N__law_day) sc__law_day (fun vs H Q E h => ?_) (fun f cdv A outer s H vs Q E hr h => ?_)
  · obtain ⟨G, ds, d, _, hz, ⟨w, q, rfl, _⟩, _⟩ := h
    exact hz.1
  · obtain ⟨G, ds, d, a, hz, ⟨w, q, rfl, rfl⟩, k⟩ := h
    obtain ⟨v0, v1, rfl, z0, z1⟩ := hz.two
    cases z0
    cases z1
    have u := Up.refl a
    have nd := sc__law_day.nd
    refine ⟨_, (pss_cons (ps_set (i := 2) nd rfl (Or.inl rfl) (pe_lst (pa_cons pe_non (pa_cons pe_int (pa_cons (pe_tup (pa_cons pe_int (pa_cons pe_int (pa_cons pe_int pa_nil)))) (pa_cons (pe_tup (pa_cons pe_int (pa_cons pe_int (pa_cons pe_int (pa_cons pe_int (pa_cons pe_int pa_nil)))))) (pa_cons (pe_lst (pa_cons pe_int (pa_cons pe_int (pa_cons pe_int (pa_cons pe_int pa_nil))))) (pa_cons (pe_tup (pa_cons pe_int (pa_cons (pe_op op_sub (pe_un un_neg pe_int) (pv 1)) (pa_cons pe_int (pa_cons pe_int pa_nil))))) (pa_cons (pe_tup (pa_cons (pe_un un_neg pe_int) (pa_cons pe_int (pa_cons pe_int (pa_cons pe_int pa_nil))))) (pa_cons (pe_tup (pa_cons pe_int (pa_cons pe_int (pa_cons (pe_op op_sub (pe_un un_neg pe_int) (pv 1)) (pa_cons pe_int pa_nil))))) pa_nil))))))))))
  (pss_one (ps_ret (pe_ix (ix_listK K) (pe_op op_cat (pv 2) (pe_lst (pa_cons (pe_tup (pa_cons pe_int (pa_cons pe_int (pa_cons pe_int (pa_cons (pe_un un_neg pe_int) pa_nil))))) (pa_cons (pe_tup (pa_cons pe_bl (pa_cons pe_int (pa_cons pe_int (pa_cons pe_int pa_nil))))) (pa_cons (pe_tup (pa_cons pe_int (pa_cons pe_str (pa_cons pe_int (pa_cons pe_int pa_nil))))) (pa_cons (pe_tup (pa_cons pe_int (pa_cons pe_int (pa_cons pe_non (pa_cons pe_int pa_nil))))) pa_nil)))))) (pe_op op_mod (pv 0) pe_int) (fun _ _ => rfl))))), ?_⟩
    refine q_set (d := .list (bad1 q)) u.s (EvN.asD (evn_lst (by unfold bad1; walk_at "ev") (by show 8 ≤ 100000; decide))) fun v2 H1 e1 z2 => ?_
    have u1 := u.data e1
    have twelve : (0 : Int) < 12 := by decide
    exact z_ret u1.s (evd_ixL (ds := bad1 q ++ bad2) (EvN.asD (evn_cat (evd_var rfl z2) (EvN.asD (evn_lst (by unfold bad2; walk_at "ev") (by show 4 ≤ 100000; decide))) (by show 12 ≤ 100000; decide))) (evd_I (evd_vi rfl) evd_ci twelve) (at_mod (by omega) (by show w % 12 < 12; omega))) (u1.retD k)
def sp__law_days_asked (e : Er) : Sp := fun vs H Q E => ∃ w q : Int, vs = [.int w, .int q] ∧ 0 ≤ q ∧ ∀ H2, Ex H H2 → E (.ref e.days) none H2
theorem ok__law_days_asked {e : Er} (T : ErT K mg e) (F : FunH K mg "_law_days_asked" "_law_days_asked" st__law_days_asked ps__law_days_asked) (B : Blt mg) (h__law_day : Has P w K mg base CX0 1 "_law_day" ps__law_day sp__law_day) (h_barred : Has P w K mg base (L2.CX P w) 4 "barred" ps_barred (sp_barred e)) (h_best : Has P w K mg base (L2.CX P w) 4 "best" ps_best (sp_best e)) (h_changed : Has P w K mg base (L2.CX P w) 4 "changed" ps_changed (sp_changed e)) (h_gained : Has P w K mg base (L2.CX P w) 4 "gained" ps_gained (sp_gained e)) (h_most_gain : Has P w K mg base (L2.CX P w) 4 "most_gain" ps_most_gain (sp_most_gain e)) (h_stored : Has P w K mg base (L2.CX P w) 4 "stored" ps_stored (sp_stored e)) : Has P w K mg base (L2.CX P w) 5 "_law_days_asked" ps__law_days_asked (sp__law_days_asked e) := by
  refine F.hasX (N := N__law_days_asked) sc__law_days_asked (fun vs H Q E h => ?_) (fun f cdv A outer s H vs Q E hr h => ?_)
  · obtain ⟨w, q, rfl, _⟩ := h
    rfl
  · obtain ⟨w, q, rfl, q0, k⟩ := h
    have u := Up.refl (Ex.refl H)
    have seven : (0 : Int) < 7 := by decide
    have nd := sc__law_days_asked.nd
    refine ⟨_, (pss_cons (ps_setLc (i := 2) (own := [("_law_day_here", 5)]) (by rfl) nd rfl rfl (sw_true rfl rfl rfl (by decide +kernel)) (pi_range1 (by rfl) B.range (pa_cons (pe_op op_mod (pv 1) pe_int) pa_nil)) (blkOk_by (own := [("_law_day_here", 5)]) (N := N__law_days_asked) (sc := defScope st__law_days_asked) (by decide +kernel)) (fun _ _ _ _ _ => (pg_name (i := 5) nd rfl (Or.inl rfl))) (fun _ _ _ _ _ => pts_nil) (fun _ _ _ _ _ => (pe_tup (pa_cons pe_int (pa_cons pe_int (pa_cons pe_int (pa_cons pe_int pa_nil)))))))
  (pss_cons (ps_set (i := 3) nd rfl (Or.inl rfl) (pe_ix (ix_listK K) (pe_lst (pa_cons (pe_op op_cat (pe_op op_cat (pv 2) (pe_lst (pa_cons (pe_f h__law_day (hr.mono (by decide)) (pa_cons (pe_op op_fdivW (pv 0) pe_int) (pa_cons (pv 1) pa_nil))) pa_nil))) (pe_slice (sl_listK K) (pv 2) po_none (po_some pe_int))) (pa_cons pe_non (pa_cons (pe_tup (pa_cons (pe_tup (pa_cons pe_int (pa_cons pe_int (pa_cons pe_int (pa_cons pe_int pa_nil))))) pa_nil)) (pa_cons pe_str (pa_cons pe_dnewK pa_nil)))))) (pe_callB (cb_max2 rfl) (by rfl) B.max (by decide +kernel) (pa_cons pe_int (pa_cons (pe_op op_sub (pe_op op_mod (pv 0) pe_int) pe_int) pa_nil))) (fun _ _ => rfl)))
  (pss_cons (ps_set (i := 4) nd rfl (Or.inl rfl) (pe_op op_mod (pe_op op_fdivW (pv 0) pe_int) pe_int))
  (pss_cons (ps_if (pt_cmpR op_lt (pv 4) pe_int (nomark _))
  (pss_one (ps_ret (pe_ifExp (pt_cmpR op_eq (pv 4) pe_int (nomark _)) (pe_fX h_stored (hr.mono (by decide)) (pa_cons (pv 3) (pa_cons pe_non pa_nil)) (takes_of rfl rfl rfl rfl)) (pe_ifExp (pt_cmpR op_eq (pv 4) pe_int (nomark _)) (pe_fX h_gained (hr.mono (by decide)) (pa_cons (pv 3) (pa_cons pe_non pa_nil)) (takes_of rfl rfl rfl rfl)) (pe_fX h_barred (hr.mono (by decide)) (pa_cons (pv 3) (pa_cons (pe_un un_neg pe_int) (pa_cons pe_non pa_nil))) (takes_of rfl rfl rfl rfl))))))
  pss_nil)
  (pss_one (ps_ret (pe_ifExp (pt_cmpR op_eq (pv 4) pe_int (nomark _)) (pe_fX h_best (hr.mono (by decide)) (pa_cons (pv 3) (pa_cons (pe_un un_neg pe_int) pa_nil)) (takes_of rfl rfl rfl rfl)) (pe_ifExp (pt_cmpR op_eq (pv 4) pe_int (nomark _)) (pe_fX h_most_gain (hr.mono (by decide)) (pa_cons (pv 3) (pa_cons pe_non pa_nil)) (takes_of rfl rfl rfl rfl)) (pe_fX h_changed (hr.mono (by decide)) (pa_cons (pv 3) (pa_cons (pe_un un_neg pe_int) (pa_cons (pe_un un_neg pe_int) (pa_cons pe_non pa_nil)))) (takes_of rfl rfl rfl rfl)))))))))), ?_⟩
    refine q_set (d := .list ((List.range (q % 7).toNat).map fun _ => dayD (1, 2, 3, 4))) u.s (EvN.asD (evn_lcR (n := q % 7) (fun _ => dayD (1, 2, 3, 4)) (evd_I (evd_vi rfl) evd_ci seven) (by omega) (by omega) (fun _ => rfl) fun Gx i g hi => evd_tup (eva_cons evd_ci (eva_cons evd_ci (eva_cons evd_ci (eva_cons evd_ci eva_nil)))))) fun v2 H1 e1 z2 => ?_
    have u1 := u.data e1
    obtain ⟨gs, hgs⟩ : ∃ gs, gs = (List.range (q % 7).toNat).map fun _ => dayD (1, 2, 3, 4) := ⟨_, rfl⟩
    rw [← hgs] at z2
    have gl : gs.length ≤ 7 := by rw [hgs, List.length_map, List.length_range]; omega
    have ga : ∀ d ∈ gs, d = dayD (1, 2, 3, 4) := fun d hd => by
      rw [hgs] at hd
      obtain ⟨_, _, rfl⟩ := List.mem_map.mp hd
      rfl
    obtain ⟨B, hB⟩ : ∃ B : List PyData, B = [.list (gs ++ [badDay (w / 14) q] ++ gs.take 2), .none, .tuple [dayD (1, 2, 3, 4)], .str "1", .dict []] := ⟨_, rfl⟩
    obtain ⟨bd1, bd2⟩ := badDay_bad (w / 14) q0
    have allB : ∀ x ∈ B, listOk 4 x = false ∧ fits x := fun x hx => by
      rw [hB] at hx
      simp only [List.mem_cons, List.not_mem_nil, or_false] at hx
      rcases hx with rfl | rfl | rfl | rfl | rfl
      · refine ⟨?_, fun ds e => ?_⟩
        · show (gs ++ [badDay (w / 14) q] ++ gs.take 2).all _ = false
          rw [List.all_append, List.all_append, List.all_cons, bd1]
          simp
        · cases e
          refine ⟨by simp only [List.length_append, List.length_cons, List.length_nil, List.length_take]; omega, fun xs hx => ?_⟩
          rcases List.mem_append.mp hx with hx | hx
          · rcases List.mem_append.mp hx with hx | hx
            · have := ga _ hx
              cases this
              simp
            · rw [List.mem_singleton] at hx
              exact bd2 xs hx.symm
          · have := ga _ (List.mem_of_mem_take hx)
            cases this
            simp
      · exact ⟨rfl, fun _ h => nomatch h⟩
      · exact ⟨rfl, fun _ h => nomatch h⟩
      · exact ⟨rfl, fun _ h => nomatch h⟩
      · exact ⟨rfl, fun _ h => nomatch h⟩
    have fourteen : (0 : Int) < 14 := by decide
    have i0 : 0 ≤ max 0 (w % 14 - 9) := by omega
    have i1 : max 0 (w % 14 - 9) < B.length := by rw [hB]; show max 0 (w % 14 - 9) < 5; omega
    refine q_set (d := B.getD (max 0 (w % 14 - 9)).toNat .none) u1.s (evd_ixL (ds := B) (EvN.asD (EvN.to (evn_lst (eva_cons (EvN.asD (evn_cat (EvN.asD (evn_cat (evd_var rfl z2) (EvN.asD (evn_lst (eva_cons (evd_call (eva_cons (evd_I (evd_vi rfl) evd_ci (div_lit (by decide +kernel))) (eva_cons (evd_vi rfl) eva_nil)) ⟨w / 14, q, rfl, rfl⟩) eva_nil))) (by simp; omega))) (EvN.asD (evn_sl (evd_var rfl z2) evo_none (evo_some evd_ci))) (by rw [show cutD gs none (some 2) = gs.take 2 from cutD_take (i := 2)]; simp; omega))) (eva_cons evd_cn (eva_cons (evd_tup (eva_cons (evd_tup (eva_cons evd_ci (eva_cons evd_ci (eva_cons evd_ci (eva_cons evd_ci eva_nil))))) eva_nil)) (eva_cons evd_cs (eva_cons evd_dict eva_nil)))))) (by rw [hB, show cutD gs none (some 2) = gs.take 2 from cutD_take (i := 2)]; rfl))) (evd_max2 evd_ci (evd_I0 (evd_I (evd_vi rfl) evd_ci fourteen) evd_ci)) (at_mod i0 i1)) fun v3 H2 e2 z3 => ?_
    have u2 := u1.data e2
    obtain ⟨b1, b2⟩ := allB _ (getD_mem i0 i1)
    generalize B.getD (max 0 (w % 14 - 9)).toNat .none = x at z3 b1 b2
    have six : (0 : Int) < 6 := by decide
    refine q_setI (n := w / 168 % 6) u2.s (evd_I (evd_I (evd_vi rfl) evd_ci (div_lit (by decide +kernel))) evd_ci six) fun H3 e3 => ?_
    have u3 := u2.scal e3
    have no : ∀ {P : Prop}, listOk 4 x = true → P := fun h => by rw [b1] at h; cases h
    refine q_if1 (b := decide (w / 168 % 6 < 3)) u3.s (evt_test (evd_B0 (evd_vi rfl) evd_ci)) (fun _ H4 e4 => ?_) (fun _ H4 e4 => ?_)
    · have u4 := u3.scal e4
      refine x_if (b := decide (w / 168 % 6 = 0)) u4.s (evt_test (evd_eq (evd_vi rfl) evd_ci)) (fun _ H5 e5 => x_stored (u4.scal e5).s (evd_var rfl z3) evd_cn b2 fits_none (fun _ H6 e6 => k H6 ((u4.scal e5).h.trans e6)) no) (fun _ H5 e5 => ?_)
      have u5 := u4.scal e5
      exact x_if (b := decide (w / 168 % 6 = 1)) u5.s (evt_test (evd_eq (evd_vi rfl) evd_ci)) (fun _ H6 e6 => x_gained (u5.scal e6).s (evd_var rfl z3) evd_cn b2 fits_none (fun _ H7 e7 => k H7 ((u5.scal e6).h.trans e7)) no) (fun _ H6 e6 => x_barred (u5.scal e6).s (evd_var rfl z3) (evd_U evd_ci) evd_cn b2 fits_none (fun _ H7 e7 => k H7 ((u5.scal e6).h.trans e7)) no no)
    · have u4 := u3.scal e4
      refine x_if (b := decide (w / 168 % 6 = 3)) u4.s (evt_test (evd_eq (evd_vi rfl) evd_ci)) (fun _ H5 e5 => x_best (u4.scal e5).s (evd_var rfl z3) (evd_U evd_ci) b2 (fun _ H6 e6 => k H6 ((u4.scal e5).h.trans e6)) no) (fun _ H5 e5 => ?_)
      have u5 := u4.scal e5
      exact x_if (b := decide (w / 168 % 6 = 4)) u5.s (evt_test (evd_eq (evd_vi rfl) evd_ci)) (fun _ H6 e6 => x_best (u5.scal e6).s (evd_var rfl z3) evd_cn b2 (fun _ H7 e7 => k H7 ((u5.scal e6).h.trans e7)) no) (fun _ H6 e6 => x_changed (u5.scal e6).s (evd_var rfl z3) (evd_U evd_ci) (evd_U evd_ci) evd_cn b2 (fun ds h => by cases h; exact ⟨by simp, fun xs hx => by simp at hx⟩) (fun _ H7 e7 => k H7 ((u5.scal e6).h.trans e7)) no no no)
end
end Gt

namespace Gt
open PySem PySem.Spec PyProof.Rows L2 Evl Gs
local macro_rules | `(tactic| walk_at "ev1") => `(tactic| first
  | exact evd_ci | exact evd_cb | exact evd_cn | exact evd_cs
  | exact evd_vi rfl | exact evd_vb rfl | exact evd_vn rfl
  | exact evd_var rfl (by assumption)
  | exact evd_sumS (by assumption) rfl | exact evd_lenS (by assumption) rfl
  | apply evd_I0 | apply evd_B0 | apply evd_U
  | apply evd_ixT | apply evd_ixL
  | apply evd_chain
  | apply evd_max2 | apply evd_min2 | apply evd_min3
  | exact evd_len (evd_var rfl (by assumption)) | exact evd_lenT (evd_var rfl (by assumption)) | apply evd_len
  | refine evd_tup ?_
  | apply evd_eq | apply evd_ne | apply evd_eqB | apply evd_neB
  | apply evd_isi | refine evd_not ?_
  | apply evd_I
  | exact eva_nil | refine eva_cons ?_ ?_
  | refine evn_lst ?_ | refine evn_sl ?_ ?_ ?_ | refine evn_cat ?_ ?_ ?_ | refine evn_listOf ?_ | refine evn_revL ?_
  | exact evo_none | refine evo_some ?_
  | refine EvN.asD (evn_lst ?_) | refine EvN.asD (evn_sl ?_ ?_ ?_) | refine EvN.asD (evn_cat ?_ ?_ ?_) | refine EvN.asD (evn_listOf ?_) | refine EvN.asD (evn_revL ?_)
  | refine evt_test ?_ | refine evt_B ?_
  | exact kit_int_int | exact kit_int_bool | exact kit_list_list | exact kit_tuple_tuple | exact kit_bool_int | exact kit_bool_bool | exact kit_none_int | exact kit_str_int | exact kit_list_int | exact kit_tuple_int | exact kit_int_tuple | exact kit_none_tuple | exact kit_list_tuple | exact kit_str_tuple | exact kit_bool_tuple | exact kit_tuple_list | exact kit_none_list | exact kit_str_list | exact kit_int_list
  | (show EvD _ _ _ _; assumption) | (show atI _ _ = _; first | assumption | rfl) | (show SeqAt.shaped _ = true; first | assumption | rfl)
  | (show CMulW _ _; first | assumption | exact mul_ok (by omega) (by omega)) | (show CDivW _ _; first | assumption | exact div_lit (by decide +kernel) | exact div_ok (by omega) (by omega)) | (show (0 : Int) < _; omega) | (show CPow _ _; exact ⟨by decide, by decide, by decide⟩))
local macro_rules | `(tactic| walk_at "ev") => `(tactic| repeat' (walk_at "ev1"))

section
variable {P : Program} {w : World} {K : PySem.W.Frag} {mg : Str → Option Value} {base : Heap}
def days2 : List Day := [(4, 2, 9, 1), (0, 5, 3, 3)]
theorem days2_ok : listOk 4 (daysD days2) = true := rfl
theorem days2_fits : fits (daysD days2) := fun ds h => by cases h; exact ⟨by decide, fun xs hx => by
  simp only [days2, List.map_cons, List.map_nil, List.mem_cons, List.not_mem_nil, or_false] at hx
  rcases hx with hx | hx <;> cases hx <;> decide⟩
def Er.of (e : Er) (k : Int) : Addr := if k = 1 then e.room else if k = 2 then e.deal else if k = 3 then e.day else e.days
def badR (q : Int) : List PyData := [.none, .str "1", .bool true, .list [.int 1], .int (-1 - q), .tuple [.int 1]]
theorem badR_all {q : Int} (h : 0 ≤ q) : ∀ d ∈ badR q, isNum d = false := by
  intro d hd
  have n := neg_q h
  simp only [badR, List.mem_cons, List.not_mem_nil, or_false] at hd
  rcases hd with rfl | rfl | rfl | rfl | rfl | rfl <;> first | rfl | exact n
def zz : PyData := .tuple [.int 0, .int 0]
def badM1 (q : Int) : List PyData := [.none, .tuple [zz, zz], .str "0", .list [zz], .list (List.replicate (3 + q % 5).toNat zz), .list [zz, .tuple [.int 0]], .list [zz, .list [.int 0, .int 0]], .list []]
def badM2 (q : Int) : List PyData := [.list [zz, .tuple [.int (-1 - q), .int 0]], .list [.tuple [.int 0, .bool true], zz], .list [zz, .tuple [.int 0, .str "0"]], .list [.none, zz]]
theorem badM_all {q : Int} (h : 0 ≤ q) : ∀ d ∈ badM1 q ++ badM2 q, ¬ (listOk 2 d = true ∧ lenD d = lenD (daysD days2)) ∧ fits d := by
  intro d hd
  have n := neg_q h
  have l2 : lenD (daysD days2) = 2 := rfl
  rw [l2]
  simp only [badM1, badM2, List.mem_append, List.mem_cons, List.not_mem_nil, or_false] at hd
  rcases hd with (rfl | rfl | rfl | rfl | rfl | rfl | rfl | rfl) | (rfl | rfl | rfl | rfl)
  · exact ⟨(fun h => nomatch h.1), fun _ h => nomatch h⟩
  · exact ⟨(fun h => nomatch h.1), fun _ h => nomatch h⟩
  · exact ⟨(fun h => nomatch h.1), fun _ h => nomatch h⟩
  · exact ⟨(fun h => nomatch h.2), fun _ h => by cases h; exact ⟨by decide, fun xs hx => by simp [zz] at hx; subst hx; decide⟩⟩
  · refine ⟨fun h => ?_, fun _ h => by cases h; exact ⟨by rw [List.length_replicate]; omega, fun xs hx => by have := (List.mem_replicate.mp hx).2; cases this; decide⟩⟩
    have h2 : (List.replicate (3 + q % 5).toNat zz).length = 2 := h.2
    rw [List.length_replicate] at h2
    omega
  · exact ⟨(fun h => nomatch (show false = true from h.1)), fun _ h => by cases h; exact ⟨by decide, fun xs hx => by simp [zz] at hx; rcases hx with rfl | rfl <;> decide⟩⟩
  · exact ⟨(fun h => nomatch (show false = true from h.1)), fun _ h => by cases h; exact ⟨by decide, fun xs hx => by simp [zz] at hx; subst hx; decide⟩⟩
  · exact ⟨(fun h => nomatch h.2), fun _ h => by cases h; exact ⟨by decide, fun xs hx => by simp at hx⟩⟩
  · refine ⟨fun h => ?_, fun _ h => by cases h; exact ⟨by simp, fun xs hx => by simp [zz] at hx; rcases hx with rfl | rfl <;> simp⟩⟩
    have h1 := h.1
    simp [listOk, areNums, isNum, zz, n] at h1
    try omega
  · exact ⟨(fun h => nomatch (show false = true from h.1)), fun _ h => by cases h; exact ⟨by decide, fun xs hx => by simp [zz] at hx; rcases hx with rfl | rfl <;> decide⟩⟩
  · exact ⟨(fun h => nomatch (show false = true from h.1)), fun _ h => by cases h; exact ⟨by decide, fun xs hx => by simp [zz] at hx; rcases hx with rfl | rfl <;> decide⟩⟩
  · exact ⟨(fun h => nomatch (show false = true from h.1)), fun _ h => by cases h; exact ⟨by decide, fun xs hx => by simp [zz] at hx; subst hx; decide⟩⟩
def badA (q : Int) : List PyData := [.none, .str "0", .bool true, .list [.int 0], .int (-1 - q), .int (2 + q), .tuple [.int 0]]
theorem badA_all {q : Int} (h : 0 ≤ q) : ∀ d ∈ badA q, ¬ ∃ k : Int, d = .int k ∧ 0 ≤ k ∧ k < lenD (daysD days2) := by
  intro d hd ⟨k, e, k0, k1⟩
  have k1 : k < 2 := k1
  simp only [badA, List.mem_cons, List.not_mem_nil, or_false] at hd
  rcases hd with rfl | rfl | rfl | rfl | rfl | rfl | rfl <;> cases e <;> omega
end
end Gt

namespace Gt
open PySem PySem.Spec PyProof.Rows L2 Evl Gs
local macro_rules | `(tactic| walk_at "ev1") => `(tactic| first
  | exact evd_ci | exact evd_cb | exact evd_cn | exact evd_cs
  | exact evd_vi rfl | exact evd_vb rfl | exact evd_vn rfl
  | exact evd_var rfl (by assumption)
  | exact evd_sumS (by assumption) rfl | exact evd_lenS (by assumption) rfl
  | apply evd_I0 | apply evd_B0 | apply evd_U
  | apply evd_ixT | apply evd_ixL
  | apply evd_chain
  | apply evd_max2 | apply evd_min2 | apply evd_min3
  | exact evd_len (evd_var rfl (by assumption)) | exact evd_lenT (evd_var rfl (by assumption)) | apply evd_len
  | refine evd_tup ?_
  | apply evd_eq | apply evd_ne | apply evd_eqB | apply evd_neB
  | apply evd_isi | refine evd_not ?_
  | apply evd_I
  | exact eva_nil | refine eva_cons ?_ ?_
  | refine evn_lst ?_ | refine evn_sl ?_ ?_ ?_ | refine evn_cat ?_ ?_ ?_ | refine evn_listOf ?_ | refine evn_revL ?_
  | exact evo_none | refine evo_some ?_
  | refine EvN.asD (evn_lst ?_) | refine EvN.asD (evn_sl ?_ ?_ ?_) | refine EvN.asD (evn_cat ?_ ?_ ?_) | refine EvN.asD (evn_listOf ?_) | refine EvN.asD (evn_revL ?_)
  | refine evt_test ?_ | refine evt_B ?_
  | exact kit_int_int | exact kit_int_bool | exact kit_list_list | exact kit_tuple_tuple | exact kit_bool_int | exact kit_bool_bool | exact kit_none_int | exact kit_str_int | exact kit_list_int | exact kit_tuple_int | exact kit_int_tuple | exact kit_none_tuple | exact kit_list_tuple | exact kit_str_tuple | exact kit_bool_tuple | exact kit_tuple_list | exact kit_none_list | exact kit_str_list | exact kit_int_list
  | (show EvD _ _ _ _; assumption) | (show atI _ _ = _; first | assumption | rfl) | (show SeqAt.shaped _ = true; first | assumption | rfl)
  | (show CMulW _ _; first | assumption | exact mul_ok (by omega) (by omega)) | (show CDivW _ _; first | assumption | exact div_lit (by decide +kernel) | exact div_ok (by omega) (by omega)) | (show (0 : Int) < _; omega) | (show CPow _ _; exact ⟨by decide, by decide, by decide⟩))
local macro_rules | `(tactic| walk_at "ev") => `(tactic| repeat' (walk_at "ev1"))

section
variable {P : Program} {w : World} {K : PySem.W.Frag} {mg : Str → Option Value} {base : Heap}
section
variable {σ : L2.St} {G H : Hp} {ta tb : TE} {d : PyData}
theorem flat_rep {α : Type} (v : α) : ∀ n : Nat, (List.replicate n [v]).flatten = List.replicate n v
  | 0 => rfl
  | n + 1 => by rw [List.replicate_succ, List.flatten_cons, flat_rep v n, List.replicate_succ]; rfl
theorem dsA_rep {H : Hp} {v : V} {d : PyData} (h : Ds H v d) : ∀ n : Nat, DsA H (List.replicate n v) (List.replicate n d)
  | 0 => .nil
  | n + 1 => .cons h (dsA_rep h n)
theorem evn_rep {k : Int} (ha : EvD ta σ G (.list [d])) (hb : EvD tb σ G (.int k)) (h0 : 0 ≤ k) (h1 : k ≤ 1000) : EvN (tOp rRep ta tb) σ G (List.replicate k.toNat d) := fun H1 a Q q =>
  ha.seq hb a fun x y H3 e zx zy => by
    obtain ⟨l, xs, rfl, h2, h3⟩ := zx.ofList
    obtain ⟨v, vr, rfl, hv, hr⟩ := h3.uncons
    have := hr.unnil
    subst this
    refine ⟨l, k, [v], rfl, zy.ofInt, gr_ex a e _ _ h2, by omega, by omega, line_of (by show 1 * k.toNat ≤ 100000; omega), fun p hp => ?_⟩
    rw [flat_rep]
    exact q p _ _ (e.trans (Ex.new hp)) (none_of_ex e hp) upd_same (evn_put a e hp (dsA_rep hv _))
end
def sp__law_others_asked (e : Er) : Sp := fun vs H Q E => ∃ k w q : Int, vs = [.int k, .int w, .int q] ∧ 0 ≤ q ∧ ∀ H2, Ex H H2 → E (.ref (Er.of e k)) none H2
theorem ok__law_others_asked {e : Er} (T : ErT K mg e) (F : FunH K mg "_law_others_asked" "_law_others_asked" st__law_others_asked ps__law_others_asked) (B : Blt mg) (h__law_day : Has P w K mg base CX0 1 "_law_day" ps__law_day sp__law_day) (h_barred : Has P w K mg base (L2.CX P w) 4 "barred" ps_barred (sp_barred e)) (h_best : Has P w K mg base (L2.CX P w) 4 "best" ps_best (sp_best e)) (h_changed : Has P w K mg base (L2.CX P w) 4 "changed" ps_changed (sp_changed e)) (h_gained : Has P w K mg base (L2.CX P w) 4 "gained" ps_gained (sp_gained e)) (h_most_gain : Has P w K mg base (L2.CX P w) 4 "most_gain" ps_most_gain (sp_most_gain e)) (h_stored : Has P w K mg base (L2.CX P w) 4 "stored" ps_stored (sp_stored e)) : Has P w K mg base (L2.CX P w) 5 "_law_others_asked" ps__law_others_asked (sp__law_others_asked e) := by
  refine F.hasX (N := N__law_others_asked) sc__law_others_asked (fun vs H Q E h => ?_) (fun f cdv A outer s H vs Q E hr h => ?_)
  · obtain ⟨k, w, q, rfl, _⟩ := h
    rfl
  · obtain ⟨kd, w, q, rfl, q0, k⟩ := h
    have u := Up.refl (Ex.refl H)
    have nd := sc__law_others_asked.nd
    refine ⟨_, (pss_cons (ps_set (i := 3) nd rfl (Or.inl rfl) (pe_lst (pa_cons (pe_tup (pa_cons pe_int (pa_cons pe_int (pa_cons pe_int (pa_cons pe_int pa_nil))))) (pa_cons (pe_tup (pa_cons pe_int (pa_cons pe_int (pa_cons pe_int (pa_cons pe_int pa_nil))))) pa_nil))))
  (pss_cons (ps_if (pt_cmpR op_eq (pv 0) pe_int (nomark _))
  (pss_cons (ps_set (i := 4) nd rfl (Or.inl rfl) (pe_ix (ix_listK K) (pe_lst (pa_cons pe_non (pa_cons pe_str (pa_cons pe_bl (pa_cons (pe_lst (pa_cons pe_int pa_nil)) (pa_cons (pe_op op_sub (pe_un un_neg pe_int) (pv 2)) (pa_cons (pe_tup (pa_cons pe_int pa_nil)) pa_nil))))))) (pe_op op_mod (pv 1) pe_int) (fun _ _ => rfl)))
  (pss_cons (ps_set (i := 5) nd rfl (Or.inl rfl) (pe_op op_mod (pe_op op_fdivW (pv 1) pe_int) pe_int))
  (pss_cons (ps_if (pt_cmpR op_lt (pv 5) pe_int (nomark _))
  (pss_one (ps_ret (pe_ifExp (pt_cmpR op_eq (pv 5) pe_int (nomark _)) (pe_fX h_barred (hr.mono (by decide)) (pa_cons (pv 3) (pa_cons (pv 4) (pa_cons pe_non pa_nil))) (takes_of rfl rfl rfl rfl)) (pe_fX h_best (hr.mono (by decide)) (pa_cons (pv 3) (pa_cons (pv 4) pa_nil)) (takes_of rfl rfl rfl rfl)))))
  pss_nil)
  (pss_one (ps_ret (pe_ifExp (pt_cmpR op_eq (pv 5) pe_int (nomark _)) (pe_fX h_most_gain (hr.mono (by decide)) (pa_cons (pv 3) (pa_cons (pv 4) pa_nil)) (takes_of rfl rfl rfl rfl)) (pe_fX h_changed (hr.mono (by decide)) (pa_cons (pv 3) (pa_cons (pv 4) (pa_cons (pe_un un_neg pe_int) (pa_cons pe_non pa_nil)))) (takes_of rfl rfl rfl rfl))))))))
  pss_nil)
  (pss_cons (ps_if (pt_cmpR op_eq (pv 0) pe_int (nomark _))
  (pss_cons (ps_set (i := 4) nd rfl (Or.inl rfl) (pe_lst (pa_cons pe_non (pa_cons (pe_tup (pa_cons (pe_tup (pa_cons pe_int (pa_cons pe_int pa_nil))) (pa_cons (pe_tup (pa_cons pe_int (pa_cons pe_int pa_nil))) pa_nil))) (pa_cons pe_str (pa_cons (pe_lst (pa_cons (pe_tup (pa_cons pe_int (pa_cons pe_int pa_nil))) pa_nil)) (pa_cons (pe_op op_rep (pe_lst (pa_cons (pe_tup (pa_cons pe_int (pa_cons pe_int pa_nil))) pa_nil)) (pe_op op_add pe_int (pe_op op_mod (pv 2) pe_int))) (pa_cons (pe_lst (pa_cons (pe_tup (pa_cons pe_int (pa_cons pe_int pa_nil))) (pa_cons (pe_tup (pa_cons pe_int pa_nil)) pa_nil))) (pa_cons (pe_lst (pa_cons (pe_tup (pa_cons pe_int (pa_cons pe_int pa_nil))) (pa_cons (pe_lst (pa_cons pe_int (pa_cons pe_int pa_nil))) pa_nil))) (pa_cons (pe_lst pa_nil) pa_nil))))))))))
  (pss_cons (ps_set (i := 4) nd rfl (Or.inl rfl) (pe_op op_cat (pv 4) (pe_lst (pa_cons (pe_lst (pa_cons (pe_tup (pa_cons pe_int (pa_cons pe_int pa_nil))) (pa_cons (pe_tup (pa_cons (pe_op op_sub (pe_un un_neg pe_int) (pv 2)) (pa_cons pe_int pa_nil))) pa_nil))) (pa_cons (pe_lst (pa_cons (pe_tup (pa_cons pe_int (pa_cons pe_bl pa_nil))) (pa_cons (pe_tup (pa_cons pe_int (pa_cons pe_int pa_nil))) pa_nil))) (pa_cons (pe_lst (pa_cons (pe_tup (pa_cons pe_int (pa_cons pe_int pa_nil))) (pa_cons (pe_tup (pa_cons pe_int (pa_cons pe_str pa_nil))) pa_nil))) (pa_cons (pe_lst (pa_cons pe_non (pa_cons (pe_tup (pa_cons pe_int (pa_cons pe_int pa_nil))) pa_nil))) pa_nil)))))))
  (pss_cons (ps_set (i := 5) nd rfl (Or.inl rfl) (pe_op op_mod (pe_op op_fdivW (pv 1) pe_int) pe_int))
  (pss_cons (ps_if (pt_cmpR op_lt (pv 5) pe_int (nomark _))
  (pss_one (ps_ret (pe_ifExp (pt_cmpR op_eq (pv 5) pe_int (nomark _)) (pe_fX h_stored (hr.mono (by decide)) (pa_cons (pv 3) (pa_cons (pe_ix (ix_listK K) (pv 4) (pe_op op_mod (pv 1) pe_int) (fun _ _ => rfl)) pa_nil)) (takes_of rfl rfl rfl rfl)) (pe_fX h_gained (hr.mono (by decide)) (pa_cons (pv 3) (pa_cons (pe_ix (ix_listK K) (pv 4) (pe_op op_mod (pv 1) pe_int) (fun _ _ => rfl)) pa_nil)) (takes_of rfl rfl rfl rfl)))))
  pss_nil)
  (pss_one (ps_ret (pe_fX h_barred (hr.mono (by decide)) (pa_cons (pv 3) (pa_cons pe_int (pa_cons (pe_ix (ix_listK K) (pv 4) (pe_op op_mod (pv 1) pe_int) (fun _ _ => rfl)) pa_nil))) (takes_of rfl rfl rfl rfl))))))))
  pss_nil)
  (pss_cons (ps_if (pt_cmpR op_eq (pv 0) pe_int (nomark _))
  (pss_one (ps_ret (pe_fX h_changed (hr.mono (by decide)) (pa_cons (pv 3) (pa_cons pe_int (pa_cons (pe_ix (ix_listK K) (pe_lst (pa_cons pe_non (pa_cons pe_str (pa_cons pe_bl (pa_cons (pe_lst (pa_cons pe_int pa_nil)) (pa_cons (pe_op op_sub (pe_un un_neg pe_int) (pv 2)) (pa_cons (pe_op op_add pe_int (pv 2)) (pa_cons (pe_tup (pa_cons pe_int pa_nil)) pa_nil)))))))) (pe_op op_mod (pv 1) pe_int) (fun _ _ => rfl)) (pa_cons pe_non pa_nil)))) (takes_of rfl rfl rfl rfl))))
  pss_nil)
  (pss_one (ps_ret (pe_fX h_changed (hr.mono (by decide)) (pa_cons (pv 3) (pa_cons pe_int (pa_cons (pe_op op_mod (pv 1) pe_int) (pa_cons (pe_f h__law_day (hr.mono (by decide)) (pa_cons (pe_op op_fdivW (pv 1) pe_int) (pa_cons (pv 2) pa_nil))) pa_nil)))) (takes_of rfl rfl rfl rfl)))))))), ?_⟩
    refine q_set (d := daysD days2) u.s (EvN.asD (evn_lst (ds := [dayD (4, 2, 9, 1), dayD (0, 5, 3, 3)]) (eva_cons (evd_tup (eva_cons evd_ci (eva_cons evd_ci (eva_cons evd_ci (eva_cons evd_ci eva_nil))))) (eva_cons (evd_tup (eva_cons evd_ci (eva_cons evd_ci (eva_cons evd_ci (eva_cons evd_ci eva_nil))))) eva_nil)))) fun v3 H1 e1 z3 => ?_
    have u1 := u.data e1
    have no : ∀ {P : Prop}, listOk 4 (daysD days2) = false → P := fun h => by rw [days2_ok] at h; cases h
    have five : isNum (.int 5) = true := rfl
    generalize gr H H H1 = G1 at z3 u1
    refine q_if1 (b := decide (kd = 1)) u1.s (evt_test (evd_eq (evd_vi rfl) evd_ci)) (fun hb H2 e2 => ?_) (fun hb H2 e2 => ?_)
    · have hb := of_decide_eq_true hb
      have u2 := u1.scal e2
      have k : ∀ H2, Ex H H2 → E (.ref e.room) none H2 := fun H2 x => by
        have := k H2 x
        unfold Er.of at this
        rwa [if_pos hb] at this
      have six : (0 : Int) < 6 := by decide
      have four : (0 : Int) < 4 := by decide
      have i1 : w % 6 < (badR q).length := by show w % 6 < 6; omega
      refine q_set (d := (badR q).getD (w % 6).toNat .none) u2.s (evd_ixL (ds := badR q) (EvN.asD (evn_lst (by unfold badR; walk_at "ev") (by show 6 ≤ 100000; decide))) (evd_I (evd_vi rfl) evd_ci six) (at_mod (by omega) i1)) fun v4 H3 e3 z4 => ?_
      have u3 := u2.data e3
      have z3 := z3.mono (ex_gr (H2 := H3) u2.s)
      have hn := badR_all q0 _ (getD_mem (by omega) i1)
      generalize (badR q).getD (w % 6).toNat .none = x at z4 hn
      refine q_setI (n := w / 6 % 4) u3.s (evd_I (evd_I (evd_vi rfl) evd_ci (div_lit (by decide +kernel))) evd_ci four) fun H4 e4 => ?_
      have u4 := u3.scal e4
      have nn : ∀ {P : Prop}, isNum x = true → P := fun h => by rw [hn] at h; cases h
      have r : ∀ {H5 H6 : Hp}, Ex H4 H5 → Ex H5 H6 → E (.ref e.room) none H6 := fun e5 e6 => k _ ((u4.scal e5).h.trans e6)
      refine q_if1 (b := decide (w / 6 % 4 < 2)) u4.s (evt_test (evd_B0 (evd_vi rfl) evd_ci)) (fun _ H5 e5 => ?_) (fun _ H5 e5 => ?_)
      · have u5 := u4.scal e5
        exact x_if (b := decide (w / 6 % 4 = 0)) u5.s (evt_test (evd_eq (evd_vi rfl) evd_ci)) (fun _ H6 e6 => x_barred (u5.scal e6).s (evd_var rfl z3) (evd_var rfl z4) evd_cn days2_fits fits_none no (fun _ _ H7 e7 => r (e5.trans e6) e7) (fun _ h => nn h)) (fun _ H6 e6 => x_best (u5.scal e6).s (evd_var rfl z3) (evd_var rfl z4) days2_fits no (fun _ => ⟨hn, fun H7 e7 => r (e5.trans e6) e7⟩))
      · have u5 := u4.scal e5
        exact x_if (b := decide (w / 6 % 4 = 2)) u5.s (evt_test (evd_eq (evd_vi rfl) evd_ci)) (fun _ H6 e6 => x_best (u5.scal e6).s (evd_var rfl z3) (evd_var rfl z4) days2_fits no (fun _ => ⟨hn, fun H7 e7 => r (e5.trans e6) e7⟩)) (fun _ H6 e6 => x_changed (u5.scal e6).s (evd_var rfl z3) (evd_var rfl z4) (evd_U evd_ci) evd_cn days2_fits (fun ds h => by cases h; exact ⟨by simp, fun xs hx => by simp at hx⟩) no (fun _ _ H7 e7 => r (e5.trans e6) e7) (fun _ h => nn h) (fun _ h => nn h))
    have n1 := of_decide_eq_false hb
    have u2 := u1.scal e2
    refine q_if1 (b := decide (kd = 2)) u2.s (evt_test (evd_eq (evd_vi rfl) evd_ci)) (fun hb H3 e3 => ?_) (fun hb H3 e3 => ?_)
    · have hb := of_decide_eq_true hb
      have u3 := u2.scal e3
      have k : ∀ H2, Ex H H2 → E (.ref e.deal) none H2 := fun H2 x => by
        have := k H2 x
        unfold Er.of at this
        rwa [if_neg n1, if_pos hb] at this
      have five' : (0 : Int) < 5 := by decide
      have three : (0 : Int) < 3 := by decide
      have twelve : (0 : Int) < 12 := by decide
      have z0 : ∀ {σ : L2.St} {G : Hp}, EvD (tTup (tCons (tC (.int 0)) (tCons (tC (.int 0)) tNil))) σ G zz := evd_tup (eva_cons evd_ci (eva_cons evd_ci eva_nil))
      refine q_set (d := .list (badM1 q)) u3.s (EvN.asD (evn_lst (eva_cons evd_cn (eva_cons (evd_tup (eva_cons z0 (eva_cons z0 eva_nil))) (eva_cons evd_cs (eva_cons (EvN.asD (evn_lst (eva_cons z0 eva_nil))) (eva_cons (EvN.asD (evn_rep (EvN.asD (evn_lst (eva_cons z0 eva_nil))) (evd_I0 evd_ci (evd_I (evd_vi rfl) evd_ci five')) (by omega) (by omega))) (eva_cons (EvN.asD (evn_lst (eva_cons z0 (eva_cons (evd_tup (eva_cons evd_ci eva_nil)) eva_nil)))) (eva_cons (EvN.asD (evn_lst (eva_cons z0 (eva_cons (EvN.asD (evn_lst (eva_cons evd_ci (eva_cons evd_ci eva_nil)))) eva_nil)))) (eva_cons (EvN.asD (evn_lst eva_nil)) eva_nil)))))))) (by show 8 ≤ 100000; decide))) fun v4 H4 e4 z4 => ?_
      have u4 := u3.data e4
      have z3 := z3.mono (ex_gr (H2 := H4) u3.s)
      generalize gr G1 H3 H4 = G4 at u4 z3 z4
      refine q_set (d := .list (badM1 q ++ badM2 q)) u4.s (EvN.asD (evn_cat (ds := badM1 q) (es := badM2 q) (evd_var rfl z4) (EvN.asD (evn_lst (eva_cons (EvN.asD (evn_lst (eva_cons z0 (eva_cons (evd_tup (eva_cons (evd_I0 (evd_U evd_ci) (evd_vi rfl)) (eva_cons evd_ci eva_nil))) eva_nil)))) (eva_cons (EvN.asD (evn_lst (eva_cons (evd_tup (eva_cons evd_ci (eva_cons evd_cb eva_nil))) (eva_cons z0 eva_nil)))) (eva_cons (EvN.asD (evn_lst (eva_cons z0 (eva_cons (evd_tup (eva_cons evd_ci (eva_cons evd_cs eva_nil))) eva_nil)))) (eva_cons (EvN.asD (evn_lst (eva_cons evd_cn (eva_cons z0 eva_nil)))) eva_nil)))) (by show 4 ≤ 100000; decide))) (by show 12 ≤ 100000; decide))) fun v5 H5 e5 z5 => ?_
      have u5 := u4.data e5
      have z3 := z3.mono (ex_gr (H2 := H5) u4.s)
      have hl : (badM1 q ++ badM2 q).length = 12 := rfl
      have hM := badM_all q0
      generalize badM1 q ++ badM2 q = M at z5 hl hM
      generalize gr G4 H4 H5 = G5 at u5 z3 z5
      have i1 : w % 12 < M.length := by rw [hl]; show w % 12 < 12; omega
      obtain ⟨b1, b2⟩ := hM _ (getD_mem (by omega) i1)
      have ex : ∀ {σ : L2.St}, σ[4]? = some (some v5) → σ[1]? = some (some (.int w)) → EvD (tOp (rIxL K) (tVar 4) (tOp (rI (fun _ j => 0 < j) fun i j => .int (i % j)) (tVar 1) (tC (.int 12)))) σ G5 (M.getD (w % 12).toNat .none) := fun h g => evd_ixL (evd_var h z5) (evd_I (evd_vi g) evd_ci twelve) (at_mod (by omega) i1)
      generalize M.getD (w % 12).toNat .none = x at ex b1 b2
      refine q_setI (n := w / 12 % 3) u5.s (evd_I (evd_I (evd_vi rfl) evd_ci (div_lit (by decide +kernel))) evd_ci three) fun H6 e6 => ?_
      have u6 := u5.scal e6
      have r : ∀ {H5 H7 : Hp}, Ex H6 H5 → Ex H5 H7 → E (.ref e.deal) none H7 := fun e5 e7 => k _ ((u6.scal e5).h.trans e7)
      refine q_if1 (b := decide (w / 12 % 3 < 2)) u6.s (evt_test (evd_B0 (evd_vi rfl) evd_ci)) (fun _ H7 e7 => ?_) (fun _ H7 e7 => ?_)
      · have u7 := u6.scal e7
        exact x_if (b := decide (w / 12 % 3 = 0)) u7.s (evt_test (evd_eq (evd_vi rfl) evd_ci)) (fun _ H8 e8 => x_stored (u7.scal e8).s (evd_var rfl z3) (ex rfl rfl) days2_fits b2 no (fun _ => ⟨b1, fun H9 e9 => r (e7.trans e8) e9⟩)) (fun _ H8 e8 => x_gained (u7.scal e8).s (evd_var rfl z3) (ex rfl rfl) days2_fits b2 no (fun _ => ⟨b1, fun H9 e9 => r (e7.trans e8) e9⟩))
      · have u7 := u6.scal e7
        exact x_barred u7.s (evd_var rfl z3) evd_ci (ex rfl rfl) days2_fits b2 no (fun _ h => by rw [five] at h; cases h) (fun _ _ => ⟨b1, fun H9 e9 => r e7 e9⟩)
    have n2 := of_decide_eq_false hb
    have u3 := u2.scal e3
    refine q_if1 (b := decide (kd = 3)) u3.s (evt_test (evd_eq (evd_vi rfl) evd_ci)) (fun hb H4 e4 => ?_) (fun hb H4 e4 => ?_)
    · have hb := of_decide_eq_true hb
      have u4 := u3.scal e4
      have k : ∀ H2, Ex H H2 → E (.ref e.day) none H2 := fun H2 x => by
        have := k H2 x
        unfold Er.of at this
        rwa [if_neg n1, if_neg n2, if_pos hb] at this
      have seven : (0 : Int) < 7 := by decide
      have i1 : w % 7 < (badA q).length := by show w % 7 < 7; omega
      have hn := badA_all q0 _ (getD_mem (by omega) i1)
      exact x_changed u4.s (evd_var rfl z3) evd_ci (evd_ixL (ds := badA q) (EvN.asD (evn_lst (by unfold badA; walk_at "ev") (by show 7 ≤ 100000; decide))) (evd_I (evd_vi rfl) evd_ci seven) (at_mod (by omega) i1)) evd_cn days2_fits (fun ds h => by cases h; exact ⟨by simp, fun xs hx => by simp at hx⟩) no (fun _ h => by rw [five] at h; cases h) (fun _ _ _ H5 e5 => k H5 (u4.h.trans e5)) (fun _ _ h => absurd h hn)
    · have n3 := of_decide_eq_false hb
      have u4 := u3.scal e4
      have k : ∀ H2, Ex H H2 → E (.ref e.days) none H2 := fun H2 x => by
        have := k H2 x
        unfold Er.of at this
        rwa [if_neg n1, if_neg n2, if_neg n3] at this
      have two : (0 : Int) < 2 := by decide
      obtain ⟨bd1, bd2⟩ := badDay_bad (w / 2) q0
      exact x_changed u4.s (evd_var rfl z3) evd_ci (evd_I (evd_vi rfl) evd_ci two) (evd_call (eva_cons (evd_I (evd_vi rfl) evd_ci (div_lit (by decide +kernel))) (eva_cons (evd_vi rfl) eva_nil)) ⟨w / 2, q, rfl, rfl⟩) days2_fits (fun ds h => by cases h; exact ⟨by simp, fun xs hx => by rw [List.mem_singleton] at hx; exact bd2 xs hx.symm⟩) no (fun _ h => by rw [five] at h; cases h) (fun _ _ h H5 e5 => absurd ⟨w % 2, rfl, by omega, by show w % 2 < 2; omega⟩ h) (fun _ _ _ => ⟨by show (areNums (badDay (w / 2) q) 4 && true) = false; rw [bd1]; rfl, fun H5 e5 => k H5 (u4.h.trans e5)⟩)
end
end Gt

namespace Gt
open PySem PySem.Spec PyProof.Rows L2 Evl Gs
local macro_rules | `(tactic| walk_at "ev1") => `(tactic| first
  | exact evd_ci | exact evd_cb | exact evd_cn | exact evd_cs
  | exact evd_vi rfl | exact evd_vb rfl | exact evd_vn rfl
  | exact evd_var rfl (by assumption)
  | exact evd_sumS (by assumption) rfl | exact evd_lenS (by assumption) rfl
  | apply evd_I0 | apply evd_B0 | apply evd_U
  | apply evd_ixT | apply evd_ixL
  | apply evd_chain
  | apply evd_max2 | apply evd_min2 | apply evd_min3
  | exact evd_len (evd_var rfl (by assumption)) | exact evd_lenT (evd_var rfl (by assumption)) | apply evd_len
  | refine evd_tup ?_
  | apply evd_eq | apply evd_ne | apply evd_eqB | apply evd_neB
  | apply evd_isi | refine evd_not ?_
  | apply evd_I
  | exact eva_nil | refine eva_cons ?_ ?_
  | refine evn_lst ?_ | refine evn_sl ?_ ?_ ?_ | refine evn_cat ?_ ?_ ?_ | refine evn_listOf ?_ | refine evn_revL ?_
  | exact evo_none | refine evo_some ?_
  | refine EvN.asD (evn_lst ?_) | refine EvN.asD (evn_sl ?_ ?_ ?_) | refine EvN.asD (evn_cat ?_ ?_ ?_) | refine EvN.asD (evn_listOf ?_) | refine EvN.asD (evn_revL ?_)
  | refine evt_test ?_ | refine evt_B ?_
  | exact kit_int_int | exact kit_int_bool | exact kit_list_list | exact kit_tuple_tuple | exact kit_bool_int | exact kit_bool_bool | exact kit_none_int | exact kit_str_int | exact kit_list_int | exact kit_tuple_int | exact kit_int_tuple | exact kit_none_tuple | exact kit_list_tuple | exact kit_str_tuple | exact kit_bool_tuple | exact kit_tuple_list | exact kit_none_list | exact kit_str_list | exact kit_int_list
  | (show EvD _ _ _ _; assumption) | (show atI _ _ = _; first | assumption | rfl) | (show SeqAt.shaped _ = true; first | assumption | rfl)
  | (show CMulW _ _; first | assumption | exact mul_ok (by omega) (by omega)) | (show CDivW _ _; first | assumption | exact div_lit (by decide +kernel) | exact div_ok (by omega) (by omega)) | (show (0 : Int) < _; omega) | (show CPow _ _; exact ⟨by decide, by decide, by decide⟩))
local macro_rules | `(tactic| walk_at "ev") => `(tactic| repeat' (walk_at "ev1"))

section
variable {P : Program} {w : World} {K : PySem.W.Frag} {mg : Str → Option Value} {base : Heap}
/-- an error's class, handled -/
structure KT (K : PySem.W.Frag) (e : Er) (D : Addr) (b1 b2 b3 b4 : Bool) : Prop where
  x : ExcC K D
  k1 : PySem.W.kitOne K (.ref D) (.ref e.days) = some b1
  k2 : PySem.W.kitOne K (.ref D) (.ref e.room) = some b2
  k3 : PySem.W.kitOne K (.ref D) (.ref e.deal) = some b3
  k4 : PySem.W.kitOne K (.ref D) (.ref e.day) = some b4
  k5 : PySem.W.kitOne K (.ref D) (.type "ValueError") = some true
  em : PySem.W.exmOne K (.ref D) (.ref e.grain) = some true
structure ErK (K : PySem.W.Frag) (e : Er) : Prop where
  kd : KT K e e.days true false false false
  kr : KT K e e.room false true false false
  kl : KT K e e.deal false false true false
  ky : KT K e e.day false false false true
def tHand (K : PySem.W.Frag) (e : Er) (D a : Addr) : TS := tSeq (tAsg (tLst (tCons (tCB (rIsE K D a) (tCons (tVar 3) (tCons (tC (.ref e.days)) tNil))) (tCons (tCB (rIsE K D a) (tCons (tVar 3) (tCons (tC (.ref e.room)) tNil))) (tCons (tCB (rIsE K D a) (tCons (tVar 3) (tCons (tC (.ref e.deal)) tNil))) tNil)))) (gName 4))
  (tRet (tOp rCat (tVar 4) (tLst (tCons (tCB (rIsE K D a) (tCons (tVar 3) (tCons (tC (.ref e.day)) tNil))) (tCons (tCB (rIsE K D a) (tCons (tVar 3) (tCons (tC (.ty "ValueError")) tNil))) tNil)))))
def tHands (K : PySem.W.Frag) (e : Er) : Addr → Value → Option Addr → TS := fun a cls d Dd σ H => ∃ D b1 b2 b3 b4, cls = .ref D ∧ d = none ∧ KT K e D b1 b2 b3 b4 ∧ tHand K e D a Dd σ H
def toldB (k : Int) : List Bool := if k = 1 then [false, true, false, false, true] else if k = 2 then [false, false, true, false, true] else if k = 3 then [false, false, false, true, true] else [true, false, false, false, true]
theorem toldB_of {K : PySem.W.Frag} {e : Er} (M : ErK K e) (k : Int) : ∃ b1 b2 b3 b4, KT K e (Er.of e k) b1 b2 b3 b4 ∧ toldB k = [b1, b2, b3, b4, true] := by
  unfold Er.of toldB
  by_cases h1 : k = 1
  · rw [if_pos h1, if_pos h1]; exact ⟨_, _, _, _, M.kr, rfl⟩
  rw [if_neg h1, if_neg h1]
  by_cases h2 : k = 2
  · rw [if_pos h2, if_pos h2]; exact ⟨_, _, _, _, M.kl, rfl⟩
  rw [if_neg h2, if_neg h2]
  by_cases h3 : k = 3
  · rw [if_pos h3, if_pos h3]; exact ⟨_, _, _, _, M.ky, rfl⟩
  rw [if_neg h3, if_neg h3]
  exact ⟨_, _, _, _, M.kd, rfl⟩
theorem hand_walk {σ : L2.St} {G H : Hp} {e : Er} {D a : Addr} {b1 b2 b3 b4 : Bool} {Dd : Ends} (g : Ex G H) (kt : KT K e D b1 b2 b3 b4) (hs : σ[3]? = some (some (.ref a))) (h4 : 4 < σ.length) (k : ∀ v H2, Ex H H2 → Ds (gr G H H2) v (.list ([b1, b2, b3, b4, true].map PyData.bool)) → Dd.rt v H2) : tHand K e D a Dd σ H := by
  unfold tHand
  refine q_set (d := .list ([b1, b2, b3].map PyData.bool)) g (EvN.asD (evn_lst (eva_cons (evd_isE hs (.own _) kt.k1) (eva_cons (evd_isE hs (.own _) kt.k2) (eva_cons (evd_isE hs (.own _) kt.k3) eva_nil))))) fun v H1 e1 z => ?_
  have s3 : (σ.set 4 (some v))[3]? = some (some (.ref a)) := by rw [List.getElem?_set_ne (by decide)]; exact hs
  have s4 : (σ.set 4 (some v))[4]? = some (some v) := List.getElem?_set_self h4
  have g1 := gr_ex g e1
  refine z_ret g1 (EvN.asD (evn_cat (evd_var s4 z) (EvN.asD (evn_lst (eva_cons (evd_isE s3 (.own _) kt.k4) (eva_cons (evd_isE s3 (.ty _) kt.k5) eva_nil)))) (by simp))) fun v2 H2 e2 z2 => k v2 H2 (e1.trans e2) ?_
  rw [gr_gr e1 e2] at z2
  exact z2
theorem z_dropS {σ : L2.St} {G H : Hp} {sp : Sp} {Ef : L2.St → XK} {t : TA} {ds : List PyData} {Dd : Ends} (a : Ex G H) (ha : EvAr t σ G ds) (k : ∀ vs H2, Ex H H2 → DsA (gr G H H2) vs ds → sp vs H2 (fun _ H3 => Dd.nx σ H3) (Ef σ)) : tDrop (tCallS sp Ef t) Dd σ H := ha H a _ k
def sp__law_told : Sp := spD fun ds d => ∃ k w q : Int, ds = [.int k, .int w, .int q] ∧ 0 ≤ q ∧ d = .list ((toldB k).map PyData.bool)
theorem ok__law_told {e : Er} (T : ErT K mg e) (M : ErK K e) (F : FunH K mg "_law_told" "_law_told" st__law_told ps__law_told) (B : Blt mg) (h__law_days_asked : Has P w K mg base (L2.CX P w) 5 "_law_days_asked" ps__law_days_asked (sp__law_days_asked e)) (h__law_others_asked : Has P w K mg base (L2.CX P w) 5 "_law_others_asked" ps__law_others_asked (sp__law_others_asked e)) : Has P w K mg base CX0 6 "_law_told" ps__law_told sp__law_told := by
  refine F.has (N := N__law_told) sc__law_told (fun vs H Q E h => ?_) (fun f cdv A outer s H vs Q E hr h => ?_)
  · obtain ⟨G, ds, d, _, hz, ⟨k, w, q, rfl, _⟩, _⟩ := h
    exact hz.1
  · obtain ⟨G, ds, d, a, hz, ⟨kd, w, q, rfl, q0, rfl⟩, k⟩ := h
    obtain ⟨v0, v1, v2, rfl, y0, y1, y2⟩ := hz.three
    cases y0
    cases y1
    cases y2
    have u := Up.refl a
    have nd := sc__law_told.nd
    refine ⟨_, (pss_cons (ps_try_as (i := 3) (ts := tHands K e) (Wout := fun _ _ _ _ => False) rfl rfl nd rfl rfl ⟨rfl, by decide, .inl T.bg⟩ takes0 (fun W pn xe tk _ => (pss_one (ps_if (pt_cmpR op_eq (pv 0) pe_int (nomark _))
  (pss_one (ps_expr (pe_fS h__law_days_asked (hr.mono (by decide)) (pa_cons (pv 1) (pa_cons (pv 2) pa_nil)) tk)))
  (pss_one (ps_expr (pe_fS h__law_others_asked (hr.mono (by decide)) (pa_cons (pv 0) (pa_cons (pv 1) (pa_cons (pv 2) pa_nil))) tk))))))
  (fun a oe cls d pn hz hf => ⟨fun pins s σ H Dd I hh => by
    obtain ⟨D, b1, b2, b3, b4, rfl, rfl, kt, hh⟩ := hh
    exact (show PSs _ _ (tHand K e D a) from (pss_cons (ps_set (i := 4) nd rfl (Or.inl rfl) (pe_lst (pa_cons (pe_callB (call_isEK kt.x hz hf) (by rfl) B.isinstance (by decide +kernel) (pa_cons (pv 3) (pa_cons (pe_glob (v := .ref e.days) (by rfl) T.bd.g rfl) pa_nil))) (pa_cons (pe_callB (call_isEK kt.x hz hf) (by rfl) B.isinstance (by decide +kernel) (pa_cons (pv 3) (pa_cons (pe_glob (v := .ref e.room) (by rfl) T.br.g rfl) pa_nil))) (pa_cons (pe_callB (call_isEK kt.x hz hf) (by rfl) B.isinstance (by decide +kernel) (pa_cons (pv 3) (pa_cons (pe_glob (v := .ref e.deal) (by rfl) T.bl.g rfl) pa_nil))) pa_nil)))))
      (pss_one (ps_ret (pe_op op_cat (pv 4) (pe_lst (pa_cons (pe_callB (call_isEK kt.x hz hf) (by rfl) B.isinstance (by decide +kernel) (pa_cons (pv 3) (pa_cons (pe_glob (v := .ref e.day) (by rfl) T.by_.g rfl) pa_nil))) (pa_cons (pe_callB (call_isEK kt.x hz hf) (by rfl) B.isinstance (by decide +kernel) (pa_cons (pv 3) (pa_cons (pe_bltn (v := .ty "ValueError") (by rfl) T.ve (by decide +kernel) rfl) pa_nil))) pa_nil)))))))).run pins s σ H Dd I hh⟩))
  (pss_one (ps_ret (pe_lst pa_nil)))), ?_⟩
    obtain ⟨c1, c2, c3, c4, kt, ht⟩ := toldB_of M kd
    refine z_seq (z_if (b := decide (kd = 0)) u.s (evt_test (evd_eq (evd_vi rfl) evd_ci)) (fun hb H2 e2 => ?_) (fun hb H2 e2 => ?_))
    · have hb := of_decide_eq_true hb
      have u2 := u.scal e2
      refine z_dropS (ds := [.int w, .int q]) u2.s (eva_cons (evd_vi rfl) (eva_cons (evd_vi rfl) eva_nil)) fun vs H3 e3 z => ?_
      obtain ⟨x1, x2, rfl, y1, y2⟩ := z.two
      cases y1
      cases y2
      have u3 := u2.scal e3
      refine ⟨w, q, rfl, q0, fun H4 e4 => ⟨true, M.kd.em, fun _ a0 ha => ⟨e.days, _, _, _, _, rfl, rfl, M.kd, hand_walk (u3.scal e4).s M.kd rfl (by show 4 < 5; decide) ?_⟩, fun h => nomatch h⟩⟩
      subst hb
      exact (u3.scal e4).retD k
    · have u2 := u.scal e2
      refine z_dropS (ds := [.int kd, .int w, .int q]) u2.s (eva_cons (evd_vi rfl) (eva_cons (evd_vi rfl) (eva_cons (evd_vi rfl) eva_nil))) fun vs H3 e3 z => ?_
      obtain ⟨x1, x2, x3, rfl, y1, y2, y3⟩ := z.three
      cases y1
      cases y2
      cases y3
      have u3 := u2.scal e3
      refine ⟨kd, w, q, rfl, q0, fun H4 e4 => ⟨true, kt.em, fun _ a0 ha => ⟨Er.of e kd, _, _, _, _, rfl, rfl, kt, hand_walk (u3.scal e4).s kt rfl (by show 4 < 5; decide) ?_⟩, fun h => nomatch h⟩⟩
      rw [← ht]
      exact (u3.scal e4).retD k
end
end Gt

namespace Gt
open PySem PySem.Spec PyProof.Rows L2 Evl Gs
local macro_rules | `(tactic| walk_at "ev1") => `(tactic| first
  | exact evd_ci | exact evd_cb | exact evd_cn | exact evd_cs
  | exact evd_vi rfl | exact evd_vb rfl | exact evd_vn rfl
  | exact evd_var rfl (by assumption)
  | exact evd_sumS (by assumption) rfl | exact evd_lenS (by assumption) rfl
  | apply evd_I0 | apply evd_B0 | apply evd_U
  | apply evd_ixT | apply evd_ixL
  | apply evd_chain
  | apply evd_max2 | apply evd_min2 | apply evd_min3
  | exact evd_len (evd_var rfl (by assumption)) | exact evd_lenT (evd_var rfl (by assumption)) | apply evd_len
  | refine evd_tup ?_
  | apply evd_eq | apply evd_ne | apply evd_eqB | apply evd_neB
  | apply evd_isi | refine evd_not ?_
  | apply evd_I
  | exact eva_nil | refine eva_cons ?_ ?_
  | refine evn_lst ?_ | refine evn_sl ?_ ?_ ?_ | refine evn_cat ?_ ?_ ?_ | refine evn_listOf ?_ | refine evn_revL ?_
  | exact evo_none | refine evo_some ?_
  | refine EvN.asD (evn_lst ?_) | refine EvN.asD (evn_sl ?_ ?_ ?_) | refine EvN.asD (evn_cat ?_ ?_ ?_) | refine EvN.asD (evn_listOf ?_) | refine EvN.asD (evn_revL ?_)
  | refine evt_test ?_ | refine evt_B ?_
  | exact kit_int_int | exact kit_int_bool | exact kit_list_list | exact kit_tuple_tuple | exact kit_bool_int | exact kit_bool_bool | exact kit_none_int | exact kit_str_int | exact kit_list_int | exact kit_tuple_int | exact kit_int_tuple | exact kit_none_tuple | exact kit_list_tuple | exact kit_str_tuple | exact kit_bool_tuple | exact kit_tuple_list | exact kit_none_list | exact kit_str_list | exact kit_int_list
  | (show EvD _ _ _ _; assumption) | (show atI _ _ = _; first | assumption | rfl) | (show SeqAt.shaped _ = true; first | assumption | rfl)
  | (show CMulW _ _; first | assumption | exact mul_ok (by omega) (by omega)) | (show CDivW _ _; first | assumption | exact div_lit (by decide +kernel) | exact div_ok (by omega) (by omega)) | (show (0 : Int) < _; omega) | (show CPow _ _; exact ⟨by decide, by decide, by decide⟩))
local macro_rules | `(tactic| walk_at "ev") => `(tactic| repeat' (walk_at "ev1"))

section
variable {P : Program} {w : World} {K : PySem.W.Frag} {mg : Str → Option Value} {base : Heap}
def sp_law (K : PySem.W.Frag) : Sp := fun vs H Q _ => ∃ (l : Addr) (ns : List Int), vs = [.ref l] ∧ SqL K H l (ns.map V.int) ∧ ns.length ≤ 63 ∧ ∀ H2, Q (.bl true) H2
theorem law_start {K : PySem.W.Frag} {H : Hp} {a : Addr} {ns : List Int} (hS : SqL K H a (ns.map V.int)) (hl : ns.length ≤ 63) : sp_law K [.ref a] H (fun v _ => v = .bl true) (fun _ _ _ => False) := ⟨a, ns, rfl, hS, hl, fun _ => rfl⟩
theorem plain_bls (l : List Bool) : plain 1 (.list (l.map PyData.bool)) = true := by
  show (l.map PyData.bool).all (plain 0) = true
  rw [List.all_map]
  exact List.all_eq_true.mpr fun _ _ => rfl
section
variable {σ : L2.St} {G : Hp} {e : Er} {ta tb tc : TE} {l : List Day} {m : List Deed} {R : Int}
theorem days_ok {l : List Day} (h : ∀ d ∈ l, goodDay d) : listOk 4 (daysD l) = true := by
  show (l.map dayD).all _ = true
  rw [List.all_map]
  exact List.all_eq_true.mpr fun d hd => by
    obtain ⟨h1, h2, h3, h4⟩ := h d hd
    show (decide ((4 : Int) = 4) && (decide (0 ≤ d.1) && (decide (0 ≤ d.2.1) && (decide (0 ≤ d.2.2.1) && (decide (0 ≤ d.2.2.2) && true))))) = true
    simp [h1, h2, h3, h4]
theorem deeds_ok {m : List Deed} (h : ∀ d ∈ m, goodDeed d) : listOk 2 (deedsD m) = true := by
  show (m.map deedD).all _ = true
  rw [List.all_map]
  exact List.all_eq_true.mpr fun d hd => good_areNums2 (h d hd)
theorem days_fits {l : List Day} (h : l.length ≤ 40000) : fits (daysD l) := fun ds e => by
  cases e
  refine ⟨by rw [List.length_map]; exact h, fun xs hx => ?_⟩
  obtain ⟨d, _, q⟩ := List.mem_map.mp hx
  cases q
  simp
theorem deeds_fits {l : List Deed} (h : l.length ≤ 40000) : fits (deedsD l) := fun ds e => by
  cases e
  refine ⟨by rw [List.length_map]; exact h, fun xs hx => ?_⟩
  obtain ⟨d, _, q⟩ := List.mem_map.mp hx
  cases q
  simp
theorem evd_barredG (ha : EvD ta σ G (daysD l)) (hn : EvD tb σ G (.int R)) (hb : EvD tc σ G (deedsD m)) (h1 : ∀ d ∈ l, goodDay d) (h2 : 0 ≤ R) (h3 : ∀ d ∈ m, goodDeed d) (h4 : m.length = l.length) (h5 : l.length ≤ 40000) : EvD (tCall (sp_barred e) [] E0 (tCons ta (tCons tb (tCons tc tNil)))) σ G (.int (faultOf l R m)) := fun H1 a Q q =>
  (eva_cons ha (eva_cons hn (eva_cons hb eva_nil))) H1 a _ fun vs H2 e2 z => by
    obtain ⟨v, r, w, rfl, z1, z2, z3⟩ := z.three
    have o1 := days_ok h1
    have o2 := deeds_ok h3
    have o3 : isNum (.int R) = true := decide_eq_true h2
    have o4 : lenD (deedsD m) = lenD (daysD l) := by show (m.map deedD).length = (l.map dayD).length; rw [List.length_map, List.length_map]; exact h4
    refine ⟨gr G H1 H2, v, r, w, daysD l, .int R, deedsD m, rfl, gr_ex a e2, z1, z2, z3, days_fits h5, deeds_fits (by omega), (fun h => by rw [o1] at h; cases h), (fun _ h => by rw [o3] at h; cases h), fun _ _ h => absurd ⟨o2, o4⟩ h, fun l' R' m' _ _ _ _ q1 q2 q3 H3 e3 => ?_⟩
    have e1 : l = l' := by
      have : l.map dayD = l'.map dayD := PyData.list.inj q1
      exact (List.map_inj_right fun x y hxy => by
        obtain ⟨a1, a2, a3, a4⟩ := x
        obtain ⟨b1, b2, b3, b4⟩ := y
        simp [dayD] at hxy
        obtain ⟨rfl, rfl, rfl, rfl⟩ := hxy
        rfl).mp this
    have e2' : m = m' := by
      have : m.map deedD = m'.map deedD := PyData.list.inj q3
      exact (List.map_inj_right fun x y hxy => by
        obtain ⟨a1, a2⟩ := x
        obtain ⟨b1, b2⟩ := y
        simp [deedD] at hxy
        obtain ⟨rfl, rfl⟩ := hxy
        rfl).mp this
    cases q2
    subst e1 e2'
    exact q _ H3 (e2.trans e3) (.int _)
end
end
end Gt

namespace Gt
open PySem PySem.Spec PyProof.Rows L2 Evl Gs
local macro_rules | `(tactic| walk_at "ev1") => `(tactic| first
  | exact evd_ci | exact evd_cb | exact evd_cn | exact evd_cs
  | exact evd_vi rfl | exact evd_vb rfl | exact evd_vn rfl
  | exact evd_var rfl (by assumption)
  | exact evd_sumS (by assumption) rfl | exact evd_lenS (by assumption) rfl
  | apply evd_I0 | apply evd_B0 | apply evd_U
  | apply evd_ixT | apply evd_ixL
  | apply evd_chain
  | apply evd_max2 | apply evd_min2 | apply evd_min3
  | exact evd_len (evd_var rfl (by assumption)) | exact evd_lenT (evd_var rfl (by assumption)) | apply evd_len
  | refine evd_tup ?_
  | apply evd_eq | apply evd_ne | apply evd_eqB | apply evd_neB
  | apply evd_isi | refine evd_not ?_
  | apply evd_I
  | exact eva_nil | refine eva_cons ?_ ?_
  | refine evn_lst ?_ | refine evn_sl ?_ ?_ ?_ | refine evn_cat ?_ ?_ ?_ | refine evn_listOf ?_ | refine evn_revL ?_
  | exact evo_none | refine evo_some ?_
  | refine EvN.asD (evn_lst ?_) | refine EvN.asD (evn_sl ?_ ?_ ?_) | refine EvN.asD (evn_cat ?_ ?_ ?_) | refine EvN.asD (evn_listOf ?_) | refine EvN.asD (evn_revL ?_)
  | refine evt_test ?_ | refine evt_B ?_
  | exact kit_int_int | exact kit_int_bool | exact kit_list_list | exact kit_tuple_tuple | exact kit_bool_int | exact kit_bool_bool | exact kit_none_int | exact kit_str_int | exact kit_list_int | exact kit_tuple_int | exact kit_int_tuple | exact kit_none_tuple | exact kit_list_tuple | exact kit_str_tuple | exact kit_bool_tuple | exact kit_tuple_list | exact kit_none_list | exact kit_str_list | exact kit_int_list
  | (show EvD _ _ _ _; assumption) | (show atI _ _ = _; first | assumption | rfl) | (show SeqAt.shaped _ = true; first | assumption | rfl)
  | (show CMulW _ _; first | assumption | exact mul_ok (by omega) (by omega)) | (show CDivW _ _; first | assumption | exact div_lit (by decide +kernel) | exact div_ok (by omega) (by omega)) | (show (0 : Int) < _; omega) | (show CPow _ _; exact ⟨by decide, by decide, by decide⟩))
local macro_rules | `(tactic| walk_at "ev") => `(tactic| repeat' (walk_at "ev1"))

section
variable {P : Program} {w : World} {K : PySem.W.Frag} {mg : Str → Option Value} {base : Heap}
section
variable {σ : L2.St} {G : Hp} {e : Er} {ta tb : TE} {l : List Day} {m : List Deed}
theorem evd_inJ {k : Int} {ns : List Int} {b : Bool} (ha : EvD ta σ G (.int k)) (hb : EvD tb σ G (.list (ns.map PyData.int))) (e : (ns.map V.int).any (fun y => eqV y (.int k)) = b) : EvD (tOp (rIn K false) ta tb) σ G (.bool b) := fun H1 a Q q =>
  ha.seq hb a fun x y H3 ex zx zy => by
    obtain ⟨l, xs, rfl, h2, h3⟩ := zy.ofList
    have := h3.ofInts
    subst this
    rw [zx.ofInt]
    refine ⟨l, ns.map V.int, rfl, .inl (SqL.of (gr_ex a ex _ _ h2)), rfl, ?_, ?_⟩
    · rw [List.all_map]; exact List.all_eq_true.mpr fun _ _ => rfl
    · show Q (.bl ((ns.map V.int).any fun y => eqV y (.int k))) H3
      rw [e]
      exact q _ H3 ex (.bl _)
theorem evn_storedG (ha : EvD ta σ G (daysD l)) (hb : EvD tb σ G (deedsD m)) (h1 : ∀ d ∈ l, goodDay d) (h3 : ∀ d ∈ m, goodDeed d) (h4 : m.length = l.length) (h5 : l.length ≤ 40000) : EvN (tCall (sp_stored e) [] E0 (tCons ta (tCons tb tNil))) σ G ((nights 0 m).map PyData.int) := fun H1 a Q q =>
  ha.seq hb a fun v w H2 e2 z1 z3 => by
    have o1 := days_ok h1
    have o2 := deeds_ok h3
    have o4 : lenD (deedsD m) = lenD (daysD l) := by show (m.map deedD).length = (l.map dayD).length; rw [List.length_map, List.length_map]; exact h4
    refine ⟨gr G H1 H2, v, w, daysD l, deedsD m, rfl, gr_ex a e2, z1, z3, days_fits h5, deeds_fits (by omega), (fun h => by rw [o1] at h; cases h), fun _ h => absurd ⟨o2, o4⟩ h, fun m' _ _ _ q3 p xs H3 e3 hp h3 z => ?_⟩
    have e2' : m = m' := by
      have : m.map deedD = m'.map deedD := PyData.list.inj q3
      exact (List.map_inj_right fun x y hxy => by
        obtain ⟨a1, a2⟩ := x
        obtain ⟨b1, b2⟩ := y
        simp [deedD] at hxy
        obtain ⟨rfl, rfl⟩ := hxy
        rfl).mp this
    subst e2'
    rw [gr_gr e2 e3] at z
    exact q p xs H3 (e2.trans e3) (none_of_ex e2 hp) h3 z
end
theorem due_is {k : Int} (h0 : 0 ≤ k) (h5 : k < 5) : [decide (k = 0 ∨ k = 4), decide (k = 1), decide (k = 2), decide (k = 3), true] = toldB k := by
  have : k = 0 ∨ k = 1 ∨ k = 2 ∨ k = 3 ∨ k = 4 := by omega
  rcases this with rfl | rfl | rfl | rfl | rfl <;> rfl
theorem ok_law {e : Er} {f : Addr} {fd : FuncData} (F : Fun K "law" "law" st_law f fd) (B : Blt mg) (h__law_told : Has P w K mg base CX0 6 "_law_told" ps__law_told sp__law_told) (h_barred : Has P w K mg base (L2.CX P w) 4 "barred" ps_barred (sp_barred e)) (h_stored : Has P w K mg base (L2.CX P w) 4 "stored" ps_stored (sp_stored e)) : FnOk P w K mg base CX0 7 f fd ps_law (sp_law K) := by
  refine F.ok (N := N_law) sc_law (fun vs H Q E h => ?_) (fun cdv A outer s H vs Q E hr h => ?_)
  · obtain ⟨l, ns, rfl, _⟩ := h
    rfl
  · obtain ⟨l, ns, rfl, hS, hl, k⟩ := h
    have u := Up.refl (Ex.refl H)
    have hS : Scr K H l ns := hS
    have nd := sc_law.nd
    refine ⟨_, (pss_cons (ps_for PassesOwn.never rfl (pi_listK K (pv 0)) (pg_name (i := 1) nd rfl (Or.inl rfl))
  (pss_cons (ps_set (i := 2) nd rfl (Or.inl rfl) (pe_op op_mod (pv 1) pe_int))
  (pss_cons (ps_set (i := 3) nd rfl (Or.inl rfl) (pe_lst (pa_cons (pe_cmpR (op_inK K) (pv 2) (pe_lst (pa_cons pe_int (pa_cons pe_int pa_nil))) (by rfl)) (pa_cons (pe_cmpR op_eq (pv 2) pe_int (nomark _)) (pa_cons (pe_cmpR op_eq (pv 2) pe_int (nomark _)) (pa_cons (pe_cmpR op_eq (pv 2) pe_int (nomark _)) (pa_cons pe_bl pa_nil)))))))
  (pss_one (ps_if (pt_cmpR (op_neDK K hr.units) (pe_f h__law_told (hr.mono (by decide)) (pa_cons (pv 2) (pa_cons (pe_op op_mod (pe_op op_fdivW (pv 1) pe_int) pe_int) (pa_cons (pe_op op_mod (pe_op op_fdivW (pv 1) pe_int) pe_int) pa_nil)))) (pv 3) (nomark _))
  (pss_one (ps_ret pe_bl))
  pss_nil)))))
  (pss_cons (ps_if (PW.pt (pw_or (pt_cmpR op_ne (pe_fN h_barred (hr.mono (by decide)) (pa_cons (pe_lst (pa_cons (pe_tup (pa_cons pe_int (pa_cons pe_int (pa_cons pe_int (pa_cons pe_int pa_nil))))) pa_nil)) (pa_cons pe_int (pa_cons (pe_lst (pa_cons (pe_tup (pa_cons pe_int (pa_cons pe_int pa_nil))) pa_nil)) pa_nil)))) pe_int (nomark _)) (pw_or1 (pt_cmpR op_ne (pe_fN h_barred (hr.mono (by decide)) (pa_cons (pe_lst (pa_cons (pe_tup (pa_cons pe_int (pa_cons pe_int (pa_cons pe_int (pa_cons pe_int pa_nil))))) pa_nil)) (pa_cons pe_int (pa_cons (pe_lst (pa_cons (pe_tup (pa_cons pe_int (pa_cons pe_int pa_nil))) pa_nil)) pa_nil)))) (pe_un un_neg pe_int) (nomark _)))))
  (pss_one (ps_ret pe_bl))
  pss_nil)
  (pss_one (ps_ret (pe_and (pe_cmpR (op_eqDK K hr.units) (pe_fN h_stored (hr.mono (by decide)) (pa_cons (pe_lst (pa_cons (pe_tup (pa_cons pe_int (pa_cons pe_int (pa_cons pe_int (pa_cons pe_int pa_nil))))) pa_nil)) (pa_cons (pe_lst (pa_cons (pe_tup (pa_cons pe_int (pa_cons pe_int pa_nil))) pa_nil)) pa_nil))) (pe_lst (pa_cons pe_int pa_nil)) (nomark _)) (pe_one (pe_cmpR op_eq (pe_fN h_barred (hr.mono (by decide)) (pa_cons (pe_lst (pa_cons (pe_tup (pa_cons pe_int (pa_cons pe_int (pa_cons pe_int (pa_cons pe_int pa_nil))))) pa_nil)) (pa_cons pe_int (pa_cons (pe_lst (pa_cons (pe_tup (pa_cons pe_int (pa_cons pe_int pa_nil))) pa_nil)) pa_nil)))) pe_int (nomark _)))))))), ?_⟩
    have five : (0 : Int) < 5 := by decide
    refine q_for u.s (src_listS (K := K) (l := l) (ns := ns) (j := 0) (k := 1) rfl hS) fun H1 e1 =>
      ⟨fun i σ' G' H' => ∃ r1 r2 r3, σ' = [some (.ref l), r1, r2, r3] ∧ Up H H G' H' ∧ Ex (gr H H H1) G', ?_, ?_, ?_, ?_⟩
    · exact ⟨none, none, none, rfl, u.data e1, Ex.refl _⟩
    · rintro i σ' G' H' ⟨_, _, _, _, u', g'⟩
      exact ⟨g', u'.s⟩
    · rintro i σ' G' H' H3 σ3 hi ⟨r1, r2, r3, rfl, u', g'⟩ e3 ⟨c, hc, rfl⟩
      have u3 := u'.scal e3
      have k0 : 0 ≤ c % 5 := by omega
      have k5 : c % 5 < 5 := by omega
      refine q_setI (n := c % 5) u3.s (evd_I (evd_vi rfl) evd_ci five) fun H4 e4 => ?_
      have u4 := u3.scal e4
      refine q_set (d := .list ((toldB (c % 5)).map PyData.bool)) u4.s (EvN.asD (EvN.to (evn_lst (eva_cons (evd_inJ (ns := [0, 4]) (b := decide (c % 5 = 0 ∨ c % 5 = 4)) (evd_vi rfl) (EvN.asD (evn_lst (eva_cons evd_ci (eva_cons evd_ci eva_nil)))) ?_) (eva_cons (evd_eq (evd_vi rfl) evd_ci) (eva_cons (evd_eq (evd_vi rfl) evd_ci) (eva_cons (evd_eq (evd_vi rfl) evd_ci) (eva_cons evd_cb eva_nil)))))) (by rw [← due_is k0 k5]; rfl))) fun v3 H5 e5 z3 => ?_
      · show ((0 : Int) == c % 5 || ((4 : Int) == c % 5 || false)) = _
        rw [Bool.eq_iff_iff]
        simp only [Bool.or_eq_true, beq_iff_eq, Bool.or_false, decide_eq_true_eq]
        omega
      have u5 := u4.data e5
      have g5 := g'.trans (ex_gr (H2 := H5) u4.s)
      have sh := shaped_of 1 (plain_bls (toldB (c % 5)))
      have ee := eqv_self 1 (plain_bls (toldB (c % 5)))
      have m1 : (0 : Int) < 100000 := by decide
      have m2 : (0 : Int) < 1000 := by decide
      refine z_if1 (b := false) u5.s (evt_test (EvD.to (evd_neD (evd_call (eva_cons (evd_vi rfl) (eva_cons (evd_I (evd_I (evd_vi rfl) evd_ci (div_lit (by decide +kernel))) evd_ci m1) (eva_cons (evd_I (evd_I (evd_vi rfl) evd_ci (div_lit (by decide +kernel))) evd_ci m2) eva_nil))) ⟨c % 5, _, _, rfl, by omega, rfl⟩) (evd_var rfl z3) sh sh) (by rw [ee]; rfl))) (fun h => nomatch h) fun _ H6 e6 => ?_
      exact ⟨_, _, _, _, rfl, u5.scal e6, g5⟩
    · rintro σ' G' H' ⟨r1, r2, r3, rfl, u', g'⟩
      have dy : ∀ (a b c d : Int) {σ : L2.St} {G : Hp}, EvD (tLst (tCons (tTup (tCons (tC (.int a)) (tCons (tC (.int b)) (tCons (tC (.int c)) (tCons (tC (.int d)) tNil))))) tNil)) σ G (daysD [(a, b, c, d)]) := fun a b c d => EvN.asD (evn_lst (eva_cons (evd_tup (eva_cons evd_ci (eva_cons evd_ci (eva_cons evd_ci (eva_cons evd_ci eva_nil))))) eva_nil))
      have de : ∀ (a b : Int) {σ : L2.St} {G : Hp}, EvD (tLst (tCons (tTup (tCons (tC (.int a)) (tCons (tC (.int b)) tNil))) tNil)) σ G (deedsD [(a, b)]) := fun a b => EvN.asD (evn_lst (eva_cons (evd_tup (eva_cons evd_ci (eva_cons evd_ci eva_nil))) eva_nil))
      have g1 : ∀ (a b c d : Int), 0 ≤ a → 0 ≤ b → 0 ≤ c → 0 ≤ d → ∀ x ∈ [((a, b, c, d) : Day)], goodDay x := fun a b c d h1 h2 h3 h4 x hx => by rw [List.mem_singleton] at hx; subst hx; exact ⟨h1, h2, h3, h4⟩
      have g2 : ∀ (a b : Int), 0 ≤ a → 0 ≤ b → ∀ x ∈ [((a, b) : Deed)], goodDeed x := fun a b h1 h2 x hx => by rw [List.mem_singleton] at hx; subst hx; exact ⟨h1, h2⟩
      have f1 : faultOf [(0, 2, 0, 9)] 9 [(3, 0)] = 0 := by decide +kernel
      have f2 : faultOf [(0, 2, 0, 9)] 9 [(2, 0)] = -1 := by decide +kernel
      have f3 : faultOf [(0, 9, 0, 9)] 4 [(9, 4)] = 0 := by decide +kernel
      have n1 : nights 0 [(9, 4)] = [5] := by decide +kernel
      have sn := shaped_of 1 (plain_ints [5])
      refine q_if1 (b := false) u'.s (et_is (et_or (a := false) (b := false) (evt_test (EvD.to (evd_ne (evd_barredG (dy 0 2 0 9) evd_ci (de 3 0) (g1 _ _ _ _ (by decide) (by decide) (by decide) (by decide)) (by decide) (g2 _ _ (by decide) (by decide)) rfl (by simp)) evd_ci) (by rw [f1]; rfl))) fun _ => evt_test (EvD.to (evd_ne (evd_barredG (dy 0 2 0 9) evd_ci (de 2 0) (g1 _ _ _ _ (by decide) (by decide) (by decide) (by decide)) (by decide) (g2 _ _ (by decide) (by decide)) rfl (by simp)) (evd_U evd_ci)) (by rw [f2]; rfl))) rfl) (fun h => nomatch h) fun _ H6 e6 => ?_
      refine z_ret (d := .bool true) (u'.scal e6).s (EvD.to (evd_and (a := true) (b := true) (EvD.to (evd_eqD (d := .list ([5].map PyData.int)) (e := .list ([5].map PyData.int)) (EvN.asD (EvN.to (evn_storedG (dy 0 0 0 0) (de 9 4) (g1 _ _ _ _ (by decide) (by decide) (by decide) (by decide)) (g2 _ _ (by decide) (by decide)) rfl (by simp)) (by rw [n1]))) (EvN.asD (evn_lst (eva_cons evd_ci eva_nil))) sn sn) (by rfl)) fun _ => EvD.to (evd_eq (evd_barredG (dy 0 9 0 9) evd_ci (de 9 4) (g1 _ _ _ _ (by decide) (by decide) (by decide) (by decide)) (by decide) (g2 _ _ (by decide) (by decide)) rfl (by simp)) evd_ci) (by rw [f3]; rfl)) (by rfl)) fun v H2 e z => ?_
      cases z
      exact k H2
end
end Gt

namespace Gt
open PySem PySem.Spec PyProof.Rows L2 Evl Gs
theorem all_mk {l : PySem.W.OpenLaw} {w : World} {K : PySem.W.Frag} {h : Heap} {mg : Str → Option Value} {fa f1 f2 f3 f4 f5 f6 f7 f8 f9 f10 f11 f12 f13 f14 f15 f16 f17 f18 f19 f20 CBadDays CBadRoom CBadDealing CBadDay CGrainError : Addr} (X : K.In h) (G : h.Ns mainGlobals mg) (hfa : mg "law" = some (.ref fa))
    {od1 an1 od2 an2 od3 an3 od4 an4 od5 an5 od6 an6 od7 an7 od8 an8 od9 an9 od10 an10 od11 an11 od12 an12 od13 an13 od14 an14 od15 an15 od16 an16 od17 an17 od18 an18 od19 an19 od20 an20 : Option Addr} {sl1 sl2 sl3 sl4 sl5 sl6 sl7 sl8 sl9 sl10 sl11 sl12 sl13 sl14 sl15 sl16 sl17 sl18 sl19 sl20 : Array (Option Value)} {oc1 kV1 dc1 pm1 cd1 ct1 oc2 kV2 dc2 pm2 cd2 ct2 oc3 kV3 dc3 pm3 cd3 ct3 oc4 kV4 dc4 pm4 cd4 ct4 oc5 kV5 dc5 pm5 cd5 ct5 oc6 kV6 dc6 pm6 cd6 ct6 oc7 kV7 dc7 pm7 cd7 ct7 oc8 kV8 dc8 pm8 cd8 ct8 oc9 kV9 dc9 pm9 cd9 ct9 oc10 kV10 dc10 pm10 cd10 ct10 oc11 kV11 dc11 pm11 cd11 ct11 oc12 kV12 dc12 pm12 cd12 ct12 oc13 kV13 dc13 pm13 cd13 ct13 oc14 kV14 dc14 pm14 cd14 ct14 oc15 kV15 dc15 pm15 cd15 ct15 oc16 kV16 dc16 pm16 cd16 ct16 oc17 kV17 dc17 pm17 cd17 ct17 oc18 kV18 dc18 pm18 cd18 ct18 oc19 kV19 dc19 pm19 cd19 ct19 oc20 kV20 dc20 pm20 cd20 ct20 : Value}
    (a1 : PySem.W.nsIn K mainGlobals "_law_day" = some (some (.ref f1)))
    (l1 : K.lookup f1 = some ⟨oc1, od1, .func (PySem.W.fnOf "_law_day" "_law_day" (defArgs st__law_day) (defBody st__law_day) (defScope st__law_day) .none kV1 dc1 pm1 an1 cd1 ct1), sl1⟩)
    (c1 : PySem.W.codeIn K cd1 "_law_day" = true)
    (k1 : PySem.W.keepIn K (.ref f1) = true)
    (a2 : PySem.W.nsIn K mainGlobals "is_number" = some (some (.ref f2)))
    (l2 : K.lookup f2 = some ⟨oc2, od2, .func (PySem.W.fnOf "is_number" "is_number" (defArgs st_is_number) (defBody st_is_number) (defScope st_is_number) .none kV2 dc2 pm2 an2 cd2 ct2), sl2⟩)
    (c2 : PySem.W.codeIn K cd2 "is_number" = true)
    (k2 : PySem.W.keepIn K (.ref f2) = true)
    (a3 : PySem.W.nsIn K mainGlobals "are_numbers" = some (some (.ref f3)))
    (l3 : K.lookup f3 = some ⟨oc3, od3, .func (PySem.W.fnOf "are_numbers" "are_numbers" (defArgs st_are_numbers) (defBody st_are_numbers) (defScope st_are_numbers) .none kV3 dc3 pm3 an3 cd3 ct3), sl3⟩)
    (c3 : PySem.W.codeIn K cd3 "are_numbers" = true)
    (k3 : PySem.W.keepIn K (.ref f3) = true)
    (a4 : PySem.W.nsIn K mainGlobals "asked_days" = some (some (.ref f4)))
    (l4 : K.lookup f4 = some ⟨oc4, od4, .func (PySem.W.fnOf "asked_days" "asked_days" (defArgs st_asked_days) (defBody st_asked_days) (defScope st_asked_days) .none kV4 dc4 pm4 an4 cd4 ct4), sl4⟩)
    (c4 : PySem.W.codeIn K cd4 "asked_days" = true)
    (k4 : PySem.W.keepIn K (.ref f4) = true)
    (a5 : PySem.W.nsIn K mainGlobals "asked_dealing" = some (some (.ref f5)))
    (l5 : K.lookup f5 = some ⟨oc5, od5, .func (PySem.W.fnOf "asked_dealing" "asked_dealing" (defArgs st_asked_dealing) (defBody st_asked_dealing) (defScope st_asked_dealing) .none kV5 dc5 pm5 an5 cd5 ct5), sl5⟩)
    (c5 : PySem.W.codeIn K cd5 "asked_dealing" = true)
    (k5 : PySem.W.keepIn K (.ref f5) = true)
    (a6 : PySem.W.nsIn K mainGlobals "asked_room" = some (some (.ref f6)))
    (l6 : K.lookup f6 = some ⟨oc6, od6, .func (PySem.W.fnOf "asked_room" "asked_room" (defArgs st_asked_room) (defBody st_asked_room) (defScope st_asked_room) .none kV6 dc6 pm6 an6 cd6 ct6), sl6⟩)
    (c6 : PySem.W.codeIn K cd6 "asked_room" = true)
    (k6 : PySem.W.keepIn K (.ref f6) = true)
    (a7 : PySem.W.nsIn K mainGlobals "nights" = some (some (.ref f7)))
    (l7 : K.lookup f7 = some ⟨oc7, od7, .func (PySem.W.fnOf "nights" "nights" (defArgs st_nights) (defBody st_nights) (defScope st_nights) .none kV7 dc7 pm7 an7 cd7 ct7), sl7⟩)
    (c7 : PySem.W.codeIn K cd7 "nights" = true)
    (k7 : PySem.W.keepIn K (.ref f7) = true)
    (a8 : PySem.W.nsIn K mainGlobals "first_fault" = some (some (.ref f8)))
    (l8 : K.lookup f8 = some ⟨oc8, od8, .func (PySem.W.fnOf "first_fault" "first_fault" (defArgs st_first_fault) (defBody st_first_fault) (defScope st_first_fault) .none kV8 dc8 pm8 an8 cd8 ct8), sl8⟩)
    (c8 : PySem.W.codeIn K cd8 "first_fault" = true)
    (k8 : PySem.W.keepIn K (.ref f8) = true)
    (a9 : PySem.W.nsIn K mainGlobals "barred" = some (some (.ref f9)))
    (l9 : K.lookup f9 = some ⟨oc9, od9, .func (PySem.W.fnOf "barred" "barred" (defArgs st_barred) (defBody st_barred) (defScope st_barred) .none kV9 dc9 pm9 an9 cd9 ct9), sl9⟩)
    (c9 : PySem.W.codeIn K cd9 "barred" = true)
    (k9 : PySem.W.keepIn K (.ref f9) = true)
    (a10 : PySem.W.nsIn K mainGlobals "best" = some (some (.ref f10)))
    (l10 : K.lookup f10 = some ⟨oc10, od10, .func (PySem.W.fnOf "best" "best" (defArgs st_best) (defBody st_best) (defScope st_best) .none kV10 dc10 pm10 an10 cd10 ct10), sl10⟩)
    (c10 : PySem.W.codeIn K cd10 "best" = true)
    (k10 : PySem.W.keepIn K (.ref f10) = true)
    (a11 : PySem.W.nsIn K mainGlobals "asked_day" = some (some (.ref f11)))
    (l11 : K.lookup f11 = some ⟨oc11, od11, .func (PySem.W.fnOf "asked_day" "asked_day" (defArgs st_asked_day) (defBody st_asked_day) (defScope st_asked_day) .none kV11 dc11 pm11 an11 cd11 ct11), sl11⟩)
    (c11 : PySem.W.codeIn K cd11 "asked_day" = true)
    (k11 : PySem.W.keepIn K (.ref f11) = true)
    (a12 : PySem.W.nsIn K mainGlobals "changed" = some (some (.ref f12)))
    (l12 : K.lookup f12 = some ⟨oc12, od12, .func (PySem.W.fnOf "changed" "changed" (defArgs st_changed) (defBody st_changed) (defScope st_changed) .none kV12 dc12 pm12 an12 cd12 ct12), sl12⟩)
    (c12 : PySem.W.codeIn K cd12 "changed" = true)
    (k12 : PySem.W.keepIn K (.ref f12) = true)
    (a13 : PySem.W.nsIn K mainGlobals "gain_of" = some (some (.ref f13)))
    (l13 : K.lookup f13 = some ⟨oc13, od13, .func (PySem.W.fnOf "gain_of" "gain_of" (defArgs st_gain_of) (defBody st_gain_of) (defScope st_gain_of) .none kV13 dc13 pm13 an13 cd13 ct13), sl13⟩)
    (c13 : PySem.W.codeIn K cd13 "gain_of" = true)
    (k13 : PySem.W.keepIn K (.ref f13) = true)
    (a14 : PySem.W.nsIn K mainGlobals "gained" = some (some (.ref f14)))
    (l14 : K.lookup f14 = some ⟨oc14, od14, .func (PySem.W.fnOf "gained" "gained" (defArgs st_gained) (defBody st_gained) (defScope st_gained) .none kV14 dc14 pm14 an14 cd14 ct14), sl14⟩)
    (c14 : PySem.W.codeIn K cd14 "gained" = true)
    (k14 : PySem.W.keepIn K (.ref f14) = true)
    (a15 : PySem.W.nsIn K mainGlobals "most_gain" = some (some (.ref f15)))
    (l15 : K.lookup f15 = some ⟨oc15, od15, .func (PySem.W.fnOf "most_gain" "most_gain" (defArgs st_most_gain) (defBody st_most_gain) (defScope st_most_gain) .none kV15 dc15 pm15 an15 cd15 ct15), sl15⟩)
    (c15 : PySem.W.codeIn K cd15 "most_gain" = true)
    (k15 : PySem.W.keepIn K (.ref f15) = true)
    (a16 : PySem.W.nsIn K mainGlobals "stored" = some (some (.ref f16)))
    (l16 : K.lookup f16 = some ⟨oc16, od16, .func (PySem.W.fnOf "stored" "stored" (defArgs st_stored) (defBody st_stored) (defScope st_stored) .none kV16 dc16 pm16 an16 cd16 ct16), sl16⟩)
    (c16 : PySem.W.codeIn K cd16 "stored" = true)
    (k16 : PySem.W.keepIn K (.ref f16) = true)
    (a17 : PySem.W.nsIn K mainGlobals "_law_days_asked" = some (some (.ref f17)))
    (l17 : K.lookup f17 = some ⟨oc17, od17, .func (PySem.W.fnOf "_law_days_asked" "_law_days_asked" (defArgs st__law_days_asked) (defBody st__law_days_asked) (defScope st__law_days_asked) .none kV17 dc17 pm17 an17 cd17 ct17), sl17⟩)
    (c17 : PySem.W.codeIn K cd17 "_law_days_asked" = true)
    (k17 : PySem.W.keepIn K (.ref f17) = true)
    (a18 : PySem.W.nsIn K mainGlobals "_law_others_asked" = some (some (.ref f18)))
    (l18 : K.lookup f18 = some ⟨oc18, od18, .func (PySem.W.fnOf "_law_others_asked" "_law_others_asked" (defArgs st__law_others_asked) (defBody st__law_others_asked) (defScope st__law_others_asked) .none kV18 dc18 pm18 an18 cd18 ct18), sl18⟩)
    (c18 : PySem.W.codeIn K cd18 "_law_others_asked" = true)
    (k18 : PySem.W.keepIn K (.ref f18) = true)
    (a19 : PySem.W.nsIn K mainGlobals "_law_told" = some (some (.ref f19)))
    (l19 : K.lookup f19 = some ⟨oc19, od19, .func (PySem.W.fnOf "_law_told" "_law_told" (defArgs st__law_told) (defBody st__law_told) (defScope st__law_told) .none kV19 dc19 pm19 an19 cd19 ct19), sl19⟩)
    (c19 : PySem.W.codeIn K cd19 "_law_told" = true)
    (k19 : PySem.W.keepIn K (.ref f19) = true)
    (a20 : PySem.W.nsIn K mainGlobals "law" = some (some (.ref f20)))
    (l20 : K.lookup f20 = some ⟨oc20, od20, .func (PySem.W.fnOf "law" "law" (defArgs st_law) (defBody st_law) (defScope st_law) .none kV20 dc20 pm20 an20 cd20 ct20), sl20⟩)
    (c20 : PySem.W.codeIn K cd20 "law" = true)
    (k20 : PySem.W.keepIn K (.ref f20) = true)
    (aBadDays : PySem.W.nsIn K mainGlobals "BadDays" = some (some (.ref CBadDays)))
    (bBadDays : PySem.W.subIn K (.ref CBadDays) (.type "BaseException") = some true)
    (tBadDays : PySem.W.typeIn K (.ref CBadDays) = some (.type "type"))
    (iBadDays : PySem.W.isClsIn K CBadDays = true)
    (aBadRoom : PySem.W.nsIn K mainGlobals "BadRoom" = some (some (.ref CBadRoom)))
    (bBadRoom : PySem.W.subIn K (.ref CBadRoom) (.type "BaseException") = some true)
    (tBadRoom : PySem.W.typeIn K (.ref CBadRoom) = some (.type "type"))
    (iBadRoom : PySem.W.isClsIn K CBadRoom = true)
    (aBadDealing : PySem.W.nsIn K mainGlobals "BadDealing" = some (some (.ref CBadDealing)))
    (bBadDealing : PySem.W.subIn K (.ref CBadDealing) (.type "BaseException") = some true)
    (tBadDealing : PySem.W.typeIn K (.ref CBadDealing) = some (.type "type"))
    (iBadDealing : PySem.W.isClsIn K CBadDealing = true)
    (aBadDay : PySem.W.nsIn K mainGlobals "BadDay" = some (some (.ref CBadDay)))
    (bBadDay : PySem.W.subIn K (.ref CBadDay) (.type "BaseException") = some true)
    (tBadDay : PySem.W.typeIn K (.ref CBadDay) = some (.type "type"))
    (iBadDay : PySem.W.isClsIn K CBadDay = true)
    (aGrainError : PySem.W.nsIn K mainGlobals "GrainError" = some (some (.ref CGrainError)))
    (bGrainError : PySem.W.subIn K (.ref CGrainError) (.type "BaseException") = some true)
    (tGrainError : PySem.W.typeIn K (.ref CGrainError) = some (.type "type"))
    (iGrainError : PySem.W.isClsIn K CGrainError = true)
    (exc_BadDays : PySem.W.excIn K CBadDays [.type "ValueError", .type "Exception", .type "BaseException", .type "object"] "ValueError.__new__" = true)
    (kBadDays : PySem.W.keepIn K (.ref CBadDays) = true)
    (sBadDays : PySem.W.subIn K (.ref CBadDays) (.ref CGrainError) = some true)
    (hgBadDays : PySem.W.findIn K (.ref CBadDays) "__getattribute__" = some (some (.builtin "BaseException.__getattribute__")))
    (hkBadDays : PySem.W.findIn K (.ref CBadDays) "__getattr__" = some none)
    (hdBadDays : PySem.W.hasDictIn K CBadDays = true)
    (haBadDays : PySem.W.findIn K (.ref CBadDays) "__class__" = some (some (.builtin "object.__class__")))
    (hmBadDays : PySem.W.mroIn K CBadDays (.type "object") = some true)
    (kit_BadDays_BadDays : PySem.W.kitOne K (.ref CBadDays) (.ref CBadDays) = some true)
    (kit_BadDays_BadRoom : PySem.W.kitOne K (.ref CBadDays) (.ref CBadRoom) = some false)
    (kit_BadDays_BadDealing : PySem.W.kitOne K (.ref CBadDays) (.ref CBadDealing) = some false)
    (kit_BadDays_BadDay : PySem.W.kitOne K (.ref CBadDays) (.ref CBadDay) = some false)
    (kit_BadDays_V : PySem.W.kitOne K (.ref CBadDays) (.type "ValueError") = some true)
    (exc_BadRoom : PySem.W.excIn K CBadRoom [.type "ValueError", .type "Exception", .type "BaseException", .type "object"] "ValueError.__new__" = true)
    (kBadRoom : PySem.W.keepIn K (.ref CBadRoom) = true)
    (sBadRoom : PySem.W.subIn K (.ref CBadRoom) (.ref CGrainError) = some true)
    (hgBadRoom : PySem.W.findIn K (.ref CBadRoom) "__getattribute__" = some (some (.builtin "BaseException.__getattribute__")))
    (hkBadRoom : PySem.W.findIn K (.ref CBadRoom) "__getattr__" = some none)
    (hdBadRoom : PySem.W.hasDictIn K CBadRoom = true)
    (haBadRoom : PySem.W.findIn K (.ref CBadRoom) "__class__" = some (some (.builtin "object.__class__")))
    (hmBadRoom : PySem.W.mroIn K CBadRoom (.type "object") = some true)
    (kit_BadRoom_BadDays : PySem.W.kitOne K (.ref CBadRoom) (.ref CBadDays) = some false)
    (kit_BadRoom_BadRoom : PySem.W.kitOne K (.ref CBadRoom) (.ref CBadRoom) = some true)
    (kit_BadRoom_BadDealing : PySem.W.kitOne K (.ref CBadRoom) (.ref CBadDealing) = some false)
    (kit_BadRoom_BadDay : PySem.W.kitOne K (.ref CBadRoom) (.ref CBadDay) = some false)
    (kit_BadRoom_V : PySem.W.kitOne K (.ref CBadRoom) (.type "ValueError") = some true)
    (exc_BadDealing : PySem.W.excIn K CBadDealing [.type "ValueError", .type "Exception", .type "BaseException", .type "object"] "ValueError.__new__" = true)
    (kBadDealing : PySem.W.keepIn K (.ref CBadDealing) = true)
    (sBadDealing : PySem.W.subIn K (.ref CBadDealing) (.ref CGrainError) = some true)
    (hgBadDealing : PySem.W.findIn K (.ref CBadDealing) "__getattribute__" = some (some (.builtin "BaseException.__getattribute__")))
    (hkBadDealing : PySem.W.findIn K (.ref CBadDealing) "__getattr__" = some none)
    (hdBadDealing : PySem.W.hasDictIn K CBadDealing = true)
    (haBadDealing : PySem.W.findIn K (.ref CBadDealing) "__class__" = some (some (.builtin "object.__class__")))
    (hmBadDealing : PySem.W.mroIn K CBadDealing (.type "object") = some true)
    (kit_BadDealing_BadDays : PySem.W.kitOne K (.ref CBadDealing) (.ref CBadDays) = some false)
    (kit_BadDealing_BadRoom : PySem.W.kitOne K (.ref CBadDealing) (.ref CBadRoom) = some false)
    (kit_BadDealing_BadDealing : PySem.W.kitOne K (.ref CBadDealing) (.ref CBadDealing) = some true)
    (kit_BadDealing_BadDay : PySem.W.kitOne K (.ref CBadDealing) (.ref CBadDay) = some false)
    (kit_BadDealing_V : PySem.W.kitOne K (.ref CBadDealing) (.type "ValueError") = some true)
    (exc_BadDay : PySem.W.excIn K CBadDay [.type "ValueError", .type "Exception", .type "BaseException", .type "object"] "ValueError.__new__" = true)
    (kBadDay : PySem.W.keepIn K (.ref CBadDay) = true)
    (sBadDay : PySem.W.subIn K (.ref CBadDay) (.ref CGrainError) = some true)
    (hgBadDay : PySem.W.findIn K (.ref CBadDay) "__getattribute__" = some (some (.builtin "BaseException.__getattribute__")))
    (hkBadDay : PySem.W.findIn K (.ref CBadDay) "__getattr__" = some none)
    (hdBadDay : PySem.W.hasDictIn K CBadDay = true)
    (haBadDay : PySem.W.findIn K (.ref CBadDay) "__class__" = some (some (.builtin "object.__class__")))
    (hmBadDay : PySem.W.mroIn K CBadDay (.type "object") = some true)
    (kit_BadDay_BadDays : PySem.W.kitOne K (.ref CBadDay) (.ref CBadDays) = some false)
    (kit_BadDay_BadRoom : PySem.W.kitOne K (.ref CBadDay) (.ref CBadRoom) = some false)
    (kit_BadDay_BadDealing : PySem.W.kitOne K (.ref CBadDay) (.ref CBadDealing) = some false)
    (kit_BadDay_BadDay : PySem.W.kitOne K (.ref CBadDay) (.ref CBadDay) = some true)
    (kit_BadDay_V : PySem.W.kitOne K (.ref CBadDay) (.type "ValueError") = some true)
    (ehn : PySem.W.specialIn K (.builtin "object.__class__") "__get__" = some (some (.builtin "getset_descriptor.__get__")))
    (eht : PySem.W.takesIn K (.builtin "object.__class__") = some true)
    (z_ValueError : PySem.W.nsIn K mainGlobals "ValueError" = some none)
    (z_len : PySem.W.nsIn K mainGlobals "len" = some none)
    (z_sum : PySem.W.nsIn K mainGlobals "sum" = some none)
    (z_max : PySem.W.nsIn K mainGlobals "max" = some none)
    (z_min : PySem.W.nsIn K mainGlobals "min" = some none)
    (z_all : PySem.W.nsIn K mainGlobals "all" = some none)
    (z_any : PySem.W.nsIn K mainGlobals "any" = some none)
    (z_list : PySem.W.nsIn K mainGlobals "list" = some none)
    (z_range : PySem.W.nsIn K mainGlobals "range" = some none)
    (z_enumerate : PySem.W.nsIn K mainGlobals "enumerate" = some none)
    (z_zip : PySem.W.nsIn K mainGlobals "zip" = some none)
    (z_reversed : PySem.W.nsIn K mainGlobals "reversed" = some none)
    (z_isinstance : PySem.W.nsIn K mainGlobals "isinstance" = some none)
    (z_int : PySem.W.nsIn K mainGlobals "int" = some none)
    (z_bool : PySem.W.nsIn K mainGlobals "bool" = some none)
    (z_tuple : PySem.W.nsIn K mainGlobals "tuple" = some none)
    (z_sorted : PySem.W.nsIn K mainGlobals "sorted" = some none) :
    ∃ fd : FuncData, (∀ (s : Shared) (v : Value), BindsTo s fd ⟨[v], []⟩ [("_law_script", v)]) ∧ ∀ base : Heap, K.In base → base.Ns mainGlobals mg → FnOk l.prog w K mg base CX0 7 fa fd ["_law_script"] (sp_law K) := by
  have e := hfa.symm.trans (PySem.W.mg_of X G a20)
  cases e
  have B : Blt mg := ⟨PySem.W.mg_none_of X G z_len, PySem.W.mg_none_of X G z_sum, PySem.W.mg_none_of X G z_max, PySem.W.mg_none_of X G z_min, PySem.W.mg_none_of X G z_all, PySem.W.mg_none_of X G z_any, PySem.W.mg_none_of X G z_list, PySem.W.mg_none_of X G z_range, PySem.W.mg_none_of X G z_enumerate, PySem.W.mg_none_of X G z_zip, PySem.W.mg_none_of X G z_reversed, PySem.W.mg_none_of X G z_isinstance, PySem.W.mg_none_of X G z_int, PySem.W.mg_none_of X G z_bool, PySem.W.mg_none_of X G z_tuple, PySem.W.mg_none_of X G z_sorted⟩
  obtain ⟨e, he⟩ : ∃ e : Er, e = ⟨CBadDays, CBadRoom, CBadDealing, CBadDay, CGrainError⟩ := ⟨_, rfl⟩
  have T : ErT K mg e := by subst he; exact ⟨⟨PySem.W.mg_of X G aBadDays, exc_BadDays, kBadDays, bBadDays, tBadDays⟩, ⟨PySem.W.mg_of X G aBadRoom, exc_BadRoom, kBadRoom, bBadRoom, tBadRoom⟩, ⟨PySem.W.mg_of X G aBadDealing, exc_BadDealing, kBadDealing, bBadDealing, tBadDealing⟩, ⟨PySem.W.mg_of X G aBadDay, exc_BadDay, kBadDay, bBadDay, tBadDay⟩, PySem.W.mg_of X G aGrainError, PySem.W.mg_none_of X G z_ValueError⟩
  have M : ErK K e := by subst he; exact ⟨⟨⟨hgBadDays, hkBadDays, bBadDays, hdBadDays, haBadDays, ehn, eht, hmBadDays⟩, kit_BadDays_BadDays, kit_BadDays_BadRoom, kit_BadDays_BadDealing, kit_BadDays_BadDay, kit_BadDays_V, exm_to bBadDays bGrainError iGrainError tGrainError sBadDays⟩, ⟨⟨hgBadRoom, hkBadRoom, bBadRoom, hdBadRoom, haBadRoom, ehn, eht, hmBadRoom⟩, kit_BadRoom_BadDays, kit_BadRoom_BadRoom, kit_BadRoom_BadDealing, kit_BadRoom_BadDay, kit_BadRoom_V, exm_to bBadRoom bGrainError iGrainError tGrainError sBadRoom⟩, ⟨⟨hgBadDealing, hkBadDealing, bBadDealing, hdBadDealing, haBadDealing, ehn, eht, hmBadDealing⟩, kit_BadDealing_BadDays, kit_BadDealing_BadRoom, kit_BadDealing_BadDealing, kit_BadDealing_BadDay, kit_BadDealing_V, exm_to bBadDealing bGrainError iGrainError tGrainError sBadDealing⟩, ⟨⟨hgBadDay, hkBadDay, bBadDay, hdBadDay, haBadDay, ehn, eht, hmBadDay⟩, kit_BadDay_BadDays, kit_BadDay_BadRoom, kit_BadDay_BadDealing, kit_BadDay_BadDay, kit_BadDay_V, exm_to bBadDay bGrainError iGrainError tGrainError sBadDay⟩⟩
  have F1 := fun_mk (st := st__law_day) l1 c1 k1
  have H1 : FunH K mg "_law_day" "_law_day" st__law_day ps__law_day := ⟨f1, _, F1, PySem.W.mg_of X G a1, F1.binds (ps := ps__law_day) fun _ _ _ _ _ _ us hl => match us, hl with | [_, _], _ => rfl⟩
  have F2 := fun_mk (st := st_is_number) l2 c2 k2
  have H2 : FunH K mg "is_number" "is_number" st_is_number ps_is_number := ⟨f2, _, F2, PySem.W.mg_of X G a2, F2.binds (ps := ps_is_number) fun _ _ _ _ _ _ us hl => match us, hl with | [_], _ => rfl⟩
  have F3 := fun_mk (st := st_are_numbers) l3 c3 k3
  have H3 : FunH K mg "are_numbers" "are_numbers" st_are_numbers ps_are_numbers := ⟨f3, _, F3, PySem.W.mg_of X G a3, F3.binds (ps := ps_are_numbers) fun _ _ _ _ _ _ us hl => match us, hl with | [_, _], _ => rfl⟩
  have F4 := fun_mk (st := st_asked_days) l4 c4 k4
  have H4 : FunH K mg "asked_days" "asked_days" st_asked_days ps_asked_days := ⟨f4, _, F4, PySem.W.mg_of X G a4, F4.binds (ps := ps_asked_days) fun _ _ _ _ _ _ us hl => match us, hl with | [_], _ => rfl⟩
  have F5 := fun_mk (st := st_asked_dealing) l5 c5 k5
  have H5 : FunH K mg "asked_dealing" "asked_dealing" st_asked_dealing ps_asked_dealing := ⟨f5, _, F5, PySem.W.mg_of X G a5, F5.binds (ps := ps_asked_dealing) fun _ _ _ _ _ _ us hl => match us, hl with | [_, _], _ => rfl⟩
  have F6 := fun_mk (st := st_asked_room) l6 c6 k6
  have H6 : FunH K mg "asked_room" "asked_room" st_asked_room ps_asked_room := ⟨f6, _, F6, PySem.W.mg_of X G a6, F6.binds (ps := ps_asked_room) fun _ _ _ _ _ _ us hl => match us, hl with | [_], _ => rfl⟩
  have F7 := fun_mk (st := st_nights) l7 c7 k7
  have H7 : FunH K mg "nights" "nights" st_nights ps_nights := ⟨f7, _, F7, PySem.W.mg_of X G a7, F7.binds (ps := ps_nights) fun _ _ _ _ _ _ us hl => match us, hl with | [_], _ => rfl⟩
  have F8 := fun_mk (st := st_first_fault) l8 c8 k8
  have H8 : FunH K mg "first_fault" "first_fault" st_first_fault ps_first_fault := ⟨f8, _, F8, PySem.W.mg_of X G a8, F8.binds (ps := ps_first_fault) fun _ _ _ _ _ _ us hl => match us, hl with | [_, _, _], _ => rfl⟩
  have F9 := fun_mk (st := st_barred) l9 c9 k9
  have H9 : FunH K mg "barred" "barred" st_barred ps_barred := ⟨f9, _, F9, PySem.W.mg_of X G a9, F9.binds (ps := ps_barred) fun _ _ _ _ _ _ us hl => match us, hl with | [_, _, _], _ => rfl⟩
  have F10 := fun_mk (st := st_best) l10 c10 k10
  have H10 : FunH K mg "best" "best" st_best ps_best := ⟨f10, _, F10, PySem.W.mg_of X G a10, F10.binds (ps := ps_best) fun _ _ _ _ _ _ us hl => match us, hl with | [_, _], _ => rfl⟩
  have F11 := fun_mk (st := st_asked_day) l11 c11 k11
  have H11 : FunH K mg "asked_day" "asked_day" st_asked_day ps_asked_day := ⟨f11, _, F11, PySem.W.mg_of X G a11, F11.binds (ps := ps_asked_day) fun _ _ _ _ _ _ us hl => match us, hl with | [_, _], _ => rfl⟩
  have F12 := fun_mk (st := st_changed) l12 c12 k12
  have H12 : FunH K mg "changed" "changed" st_changed ps_changed := ⟨f12, _, F12, PySem.W.mg_of X G a12, F12.binds (ps := ps_changed) fun _ _ _ _ _ _ us hl => match us, hl with | [_, _, _, _], _ => rfl⟩
  have F13 := fun_mk (st := st_gain_of) l13 c13 k13
  have H13 : FunH K mg "gain_of" "gain_of" st_gain_of ps_gain_of := ⟨f13, _, F13, PySem.W.mg_of X G a13, F13.binds (ps := ps_gain_of) fun _ _ _ _ _ _ us hl => match us, hl with | [_, _], _ => rfl⟩
  have F14 := fun_mk (st := st_gained) l14 c14 k14
  have H14 : FunH K mg "gained" "gained" st_gained ps_gained := ⟨f14, _, F14, PySem.W.mg_of X G a14, F14.binds (ps := ps_gained) fun _ _ _ _ _ _ us hl => match us, hl with | [_, _], _ => rfl⟩
  have F15 := fun_mk (st := st_most_gain) l15 c15 k15
  have H15 : FunH K mg "most_gain" "most_gain" st_most_gain ps_most_gain := ⟨f15, _, F15, PySem.W.mg_of X G a15, F15.binds (ps := ps_most_gain) fun _ _ _ _ _ _ us hl => match us, hl with | [_, _], _ => rfl⟩
  have F16 := fun_mk (st := st_stored) l16 c16 k16
  have H16 : FunH K mg "stored" "stored" st_stored ps_stored := ⟨f16, _, F16, PySem.W.mg_of X G a16, F16.binds (ps := ps_stored) fun _ _ _ _ _ _ us hl => match us, hl with | [_, _], _ => rfl⟩
  have F17 := fun_mk (st := st__law_days_asked) l17 c17 k17
  have H17 : FunH K mg "_law_days_asked" "_law_days_asked" st__law_days_asked ps__law_days_asked := ⟨f17, _, F17, PySem.W.mg_of X G a17, F17.binds (ps := ps__law_days_asked) fun _ _ _ _ _ _ us hl => match us, hl with | [_, _], _ => rfl⟩
  have F18 := fun_mk (st := st__law_others_asked) l18 c18 k18
  have H18 : FunH K mg "_law_others_asked" "_law_others_asked" st__law_others_asked ps__law_others_asked := ⟨f18, _, F18, PySem.W.mg_of X G a18, F18.binds (ps := ps__law_others_asked) fun _ _ _ _ _ _ us hl => match us, hl with | [_, _, _], _ => rfl⟩
  have F19 := fun_mk (st := st__law_told) l19 c19 k19
  have H19 : FunH K mg "_law_told" "_law_told" st__law_told ps__law_told := ⟨f19, _, F19, PySem.W.mg_of X G a19, F19.binds (ps := ps__law_told) fun _ _ _ _ _ _ us hl => match us, hl with | [_, _, _], _ => rfl⟩
  have F20 := fun_mk (st := st_law) l20 c20 k20
  refine ⟨PySem.W.fnOf "law" "law" (defArgs st_law) (defBody st_law) (defScope st_law) .none kV20 dc20 pm20 an20 cd20 ct20, fun s v => .of_eq rfl, fun base _ _ => ?_⟩
  have h__law_day := ok__law_day (P := l.prog) (w := w) (base := base) H1 B 
  have h_is_number := ok_is_number (P := l.prog) (w := w) (base := base) H2 B 
  have h_are_numbers := ok_are_numbers (P := l.prog) (w := w) (base := base) H3 B h_is_number
  have h_asked_days := ok_asked_days (P := l.prog) (w := w) (base := base) T H4 B h_are_numbers
  have h_asked_dealing := ok_asked_dealing (P := l.prog) (w := w) (base := base) T H5 B h_are_numbers
  have h_asked_room := ok_asked_room (P := l.prog) (w := w) (base := base) T H6 B h_is_number
  have h_nights := ok_nights (P := l.prog) (w := w) (base := base) H7 B 
  have h_first_fault := ok_first_fault (P := l.prog) (w := w) (base := base) H8 B h_nights
  have h_barred := ok_barred (P := l.prog) (w := w) (base := base) T H9 B h_asked_days h_asked_dealing h_asked_room h_first_fault
  have h_best := ok_best (P := l.prog) (w := w) (base := base) T H10 B h_asked_days h_asked_room
  have h_asked_day := ok_asked_day (P := l.prog) (w := w) (base := base) T H11 B h_is_number
  have h_changed := ok_changed (P := l.prog) (w := w) (base := base) T H12 B h_asked_day h_asked_days h_asked_room
  have h_gain_of := ok_gain_of (P := l.prog) (w := w) (base := base) H13 B 
  have h_gained := ok_gained (P := l.prog) (w := w) (base := base) T H14 B h_asked_days h_asked_dealing h_gain_of
  have h_most_gain := ok_most_gain (P := l.prog) (w := w) (base := base) T H15 B h_asked_days h_asked_room
  have h_stored := ok_stored (P := l.prog) (w := w) (base := base) T H16 B h_asked_days h_asked_dealing h_nights
  have h__law_days_asked := ok__law_days_asked (P := l.prog) (w := w) (base := base) T H17 B h__law_day h_barred h_best h_changed h_gained h_most_gain h_stored
  have h__law_others_asked := ok__law_others_asked (P := l.prog) (w := w) (base := base) T H18 B h__law_day h_barred h_best h_changed h_gained h_most_gain h_stored
  have h__law_told := ok__law_told (P := l.prog) (w := w) (base := base) T M H19 B h__law_days_asked h__law_others_asked
  exact ok_law (P := l.prog) (w := w) (base := base) F20 B h__law_told h_barred h_stored
end Gt
open PySem PySem.W PyProof.Rows in
set_option maxRecDepth 100000 in
set_option maxHeartbeats 0 in
theorem PySem.Challenge.cw_grainstore_k06_refused_holds : PySem.Challenge.rw_grainstore_k06_refused.Holds := by
  w_on; o_law; k_head; (case hw => w_witness2)
  k_fill
  refine L2.walk_of (l := PySem.Challenge.rw_grainstore_k06_refused) (n := 63) (k := 7) (x := "_law_script") (CX := fun _ => L2.CX0) (sp := fun w => Gt.sp_law _) rfl (by decide) rfl ⟨rfl, by decide, by decide⟩ (fun w h Y => PySem.W.kIn_of Y) ?F (fun _ H a ns hl _ hS => Gt.law_start hS hl) (fun _ _ _ _ _ h => h)
  case F =>
    intro w mg fa h KX G hmg
    refine' Gt.all_mk KX G hmg ?a1 ?l1 ?c1 ?k1 ?a2 ?l2 ?c2 ?k2 ?a3 ?l3 ?c3 ?k3 ?a4 ?l4 ?c4 ?k4 ?a5 ?l5 ?c5 ?k5 ?a6 ?l6 ?c6 ?k6 ?a7 ?l7 ?c7 ?k7 ?a8 ?l8 ?c8 ?k8 ?a9 ?l9 ?c9 ?k9 ?a10 ?l10 ?c10 ?k10 ?a11 ?l11 ?c11 ?k11 ?a12 ?l12 ?c12 ?k12 ?a13 ?l13 ?c13 ?k13 ?a14 ?l14 ?c14 ?k14 ?a15 ?l15 ?c15 ?k15 ?a16 ?l16 ?c16 ?k16 ?a17 ?l17 ?c17 ?k17 ?a18 ?l18 ?c18 ?k18 ?a19 ?l19 ?c19 ?k19 ?a20 ?l20 ?c20 ?k20 ?aBadDays ?bBadDays ?tBadDays ?iBadDays ?aBadRoom ?bBadRoom ?tBadRoom ?iBadRoom ?aBadDealing ?bBadDealing ?tBadDealing ?iBadDealing ?aBadDay ?bBadDay ?tBadDay ?iBadDay ?aGrainError ?bGrainError ?tGrainError ?iGrainError ?exc_BadDays ?kBadDays ?sBadDays ?hgBadDays ?hkBadDays ?hdBadDays ?haBadDays ?hmBadDays ?kit_BadDays_BadDays ?kit_BadDays_BadRoom ?kit_BadDays_BadDealing ?kit_BadDays_BadDay ?kit_BadDays_V ?exc_BadRoom ?kBadRoom ?sBadRoom ?hgBadRoom ?hkBadRoom ?hdBadRoom ?haBadRoom ?hmBadRoom ?kit_BadRoom_BadDays ?kit_BadRoom_BadRoom ?kit_BadRoom_BadDealing ?kit_BadRoom_BadDay ?kit_BadRoom_V ?exc_BadDealing ?kBadDealing ?sBadDealing ?hgBadDealing ?hkBadDealing ?hdBadDealing ?haBadDealing ?hmBadDealing ?kit_BadDealing_BadDays ?kit_BadDealing_BadRoom ?kit_BadDealing_BadDealing ?kit_BadDealing_BadDay ?kit_BadDealing_V ?exc_BadDay ?kBadDay ?sBadDay ?hgBadDay ?hkBadDay ?hdBadDay ?haBadDay ?hmBadDay ?kit_BadDay_BadDays ?kit_BadDay_BadRoom ?kit_BadDay_BadDealing ?kit_BadDay_BadDay ?kit_BadDay_V ?ehn ?eht ?z_ValueError ?z_len ?z_sum ?z_max ?z_min ?z_all ?z_any ?z_list ?z_range ?z_enumerate ?z_zip ?z_reversed ?z_isinstance ?z_int ?z_bool ?z_tuple ?z_sorted
    (case a1 => k_is)
    (case l1 => k_is)
    (case c1 => k_is)
    (case k1 => k_is)
    (case a2 => k_is)
    (case l2 => k_is)
    (case c2 => k_is)
    (case k2 => k_is)
    (case a3 => k_is)
    (case l3 => k_is)
    (case c3 => k_is)
    (case k3 => k_is)
    (case a4 => k_is)
    (case l4 => k_is)
    (case c4 => k_is)
    (case k4 => k_is)
    (case a5 => k_is)
    (case l5 => k_is)
    (case c5 => k_is)
    (case k5 => k_is)
    (case a6 => k_is)
    (case l6 => k_is)
    (case c6 => k_is)
    (case k6 => k_is)
    (case a7 => k_is)
    (case l7 => k_is)
    (case c7 => k_is)
    (case k7 => k_is)
    (case a8 => k_is)
    (case l8 => k_is)
    (case c8 => k_is)
    (case k8 => k_is)
    (case a9 => k_is)
    (case l9 => k_is)
    (case c9 => k_is)
    (case k9 => k_is)
    (case a10 => k_is)
    (case l10 => k_is)
    (case c10 => k_is)
    (case k10 => k_is)
    (case a11 => k_is)
    (case l11 => k_is)
    (case c11 => k_is)
    (case k11 => k_is)
    (case a12 => k_is)
    (case l12 => k_is)
    (case c12 => k_is)
    (case k12 => k_is)
    (case a13 => k_is)
    (case l13 => k_is)
    (case c13 => k_is)
    (case k13 => k_is)
    (case a14 => k_is)
    (case l14 => k_is)
    (case c14 => k_is)
    (case k14 => k_is)
    (case a15 => k_is)
    (case l15 => k_is)
    (case c15 => k_is)
    (case k15 => k_is)
    (case a16 => k_is)
    (case l16 => k_is)
    (case c16 => k_is)
    (case k16 => k_is)
    (case a17 => k_is)
    (case l17 => k_is)
    (case c17 => k_is)
    (case k17 => k_is)
    (case a18 => k_is)
    (case l18 => k_is)
    (case c18 => k_is)
    (case k18 => k_is)
    (case a19 => k_is)
    (case l19 => k_is)
    (case c19 => k_is)
    (case k19 => k_is)
    (case a20 => k_is)
    (case l20 => k_is)
    (case c20 => k_is)
    (case k20 => k_is)
    (case aBadDays => k_is)
    (case bBadDays => k_is)
    (case tBadDays => k_is)
    (case iBadDays => k_is)
    (case aBadRoom => k_is)
    (case bBadRoom => k_is)
    (case tBadRoom => k_is)
    (case iBadRoom => k_is)
    (case aBadDealing => k_is)
    (case bBadDealing => k_is)
    (case tBadDealing => k_is)
    (case iBadDealing => k_is)
    (case aBadDay => k_is)
    (case bBadDay => k_is)
    (case tBadDay => k_is)
    (case iBadDay => k_is)
    (case aGrainError => k_is)
    (case bGrainError => k_is)
    (case tGrainError => k_is)
    (case iGrainError => k_is)
    (case exc_BadDays => k_exc)
    (case kBadDays => k_is)
    (case sBadDays => k_is)
    (case hgBadDays => k_is)
    (case hkBadDays => k_is)
    (case hdBadDays => k_is)
    (case haBadDays => k_is)
    (case hmBadDays => k_is)
    (case kit_BadDays_BadDays => kit_is)
    (case kit_BadDays_BadRoom => kit_is)
    (case kit_BadDays_BadDealing => kit_is)
    (case kit_BadDays_BadDay => kit_is)
    (case kit_BadDays_V => kit_is)
    (case exc_BadRoom => k_exc)
    (case kBadRoom => k_is)
    (case sBadRoom => k_is)
    (case hgBadRoom => k_is)
    (case hkBadRoom => k_is)
    (case hdBadRoom => k_is)
    (case haBadRoom => k_is)
    (case hmBadRoom => k_is)
    (case kit_BadRoom_BadDays => kit_is)
    (case kit_BadRoom_BadRoom => kit_is)
    (case kit_BadRoom_BadDealing => kit_is)
    (case kit_BadRoom_BadDay => kit_is)
    (case kit_BadRoom_V => kit_is)
    (case exc_BadDealing => k_exc)
    (case kBadDealing => k_is)
    (case sBadDealing => k_is)
    (case hgBadDealing => k_is)
    (case hkBadDealing => k_is)
    (case hdBadDealing => k_is)
    (case haBadDealing => k_is)
    (case hmBadDealing => k_is)
    (case kit_BadDealing_BadDays => kit_is)
    (case kit_BadDealing_BadRoom => kit_is)
    (case kit_BadDealing_BadDealing => kit_is)
    (case kit_BadDealing_BadDay => kit_is)
    (case kit_BadDealing_V => kit_is)
    (case exc_BadDay => k_exc)
    (case kBadDay => k_is)
    (case sBadDay => k_is)
    (case hgBadDay => k_is)
    (case hkBadDay => k_is)
    (case hdBadDay => k_is)
    (case haBadDay => k_is)
    (case hmBadDay => k_is)
    (case kit_BadDay_BadDays => kit_is)
    (case kit_BadDay_BadRoom => kit_is)
    (case kit_BadDay_BadDealing => kit_is)
    (case kit_BadDay_BadDay => kit_is)
    (case kit_BadDay_V => kit_is)
    (case ehn => k_is)
    (case eht => k_is)
    (case z_ValueError => k_is)
    (case z_len => k_is)
    (case z_sum => k_is)
    (case z_max => k_is)
    (case z_min => k_is)
    (case z_all => k_is)
    (case z_any => k_is)
    (case z_list => k_is)
    (case z_range => k_is)
    (case z_enumerate => k_is)
    (case z_zip => k_is)
    (case z_reversed => k_is)
    (case z_isinstance => k_is)
    (case z_int => k_is)
    (case z_bool => k_is)
    (case z_tuple => k_is)
    (case z_sorted => k_is)
