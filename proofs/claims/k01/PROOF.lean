import PyProof.Rows.All
import Wide.All
import OpenK.AllK
import Wide.FinOn
import HandS.ForMost
import HandS.Wide
import HandS.TupAny
import HandS.Deep
import HandS.IsInst
import HandS.Style
import HandS.TupLe
import HandS.Dict
import HandS.SetFor
import HandS.TupSets
import HandS.Zip
import HandS.More
import HandS.Text
import HandS.Conv
import KE.DatumOrd
import KE.SortData
import PySem.Challenge.RW_wallrolls_k01_paper_values
set_option Elab.async false
set_option linter.all false
set_option maxRecDepth 100000
set_option maxHeartbeats 4000000
/-! My own layer: code over plain data, the heap out of sight. -/
namespace Z
open PySem PySem.Spec PyProof.Rows L2

/-! ### data, as the heap grows -/
mutual
/-- a value is the data d: lists are tracked themselves -/
inductive Dq (K : PySem.W.Frag) (H : Hp) : V → PyData → Prop
  | non : Dq K H .non .none
  | bl (b : Bool) : Dq K H (.bl b) (.bool b)
  | int (i : Int) : Dq K H (.int i) (.int i)
  | str (x : Str) : Dq K H (.str x) (.str x)
  | lst {a : Addr} {xs : List V} {ds : List PyData} : H a = some (.lst xs) → DqAll K H xs ds → Dq K H (.ref a) (.list ds)
  | tup {a : Addr} {xs : List V} {ds : List PyData} : SqT K H a xs → DqAll K H xs ds → Dq K H (.ref a) (.tuple ds)
inductive DqAll (K : PySem.W.Frag) (H : Hp) : List V → List PyData → Prop
  | nil : DqAll K H [] []
  | cons {v : V} {vs : List V} {d : PyData} {ds : List PyData} : Dq K H v d → DqAll K H vs ds → DqAll K H (v :: vs) (d :: ds)
end
mutual
theorem dqDp {K : PySem.W.Frag} {B : Hp} : ∀ (d : PyData) (v : V), Dq K B v d → Dp K B v d
  | .none, _, h => by cases h; exact .non
  | .bool b, _, h => by cases h; exact .bl b
  | .int i, _, h => by cases h; exact .int i
  | .str x, _, h => by cases h; exact .str x
  | .list ds, _, h => by
    cases h with
    | lst hs ha => exact .lst (SqL.of hs) (dqDpAll ds _ ha)
  | .tuple ds, _, h => by
    cases h with
    | tup hs ha => exact .tup hs (dqDpAll ds _ ha)
  | .dict _, _, h => by cases h
theorem dqDpAll {K : PySem.W.Frag} {B : Hp} : ∀ (ds : List PyData) (vs : List V), DqAll K B vs ds → DpAll K B vs ds
  | [], _, h => by cases h; exact .nil
  | d :: ds, _, h => by
    cases h with
    | cons h1 h2 => exact .cons (dqDp d _ h1) (dqDpAll ds _ h2)
end
mutual
theorem dpMono {K : PySem.W.Frag} {B B' : Hp} (s : Same B B') : ∀ (d : PyData) (v : V), Dq K B v d → Dq K B' v d
  | .none, _, h => by cases h; exact .non
  | .bool b, _, h => by cases h; exact .bl b
  | .int i, _, h => by cases h; exact .int i
  | .str x, _, h => by cases h; exact .str x
  | .list ds, _, h => by
    cases h with
    | lst hs ha => exact .lst (s _ _ hs) (dpAllMono s ds _ ha)
  | .tuple ds, _, h => by
    cases h with
    | tup hs ha =>
      refine .tup ?_ (dpAllMono s ds _ ha)
      rcases hs with (h | ⟨o, h⟩) | h
      · exact .inl (.inl (s _ _ h))
      · exact .inl (.inr ⟨o, s _ _ h⟩)
      · exact .inr h
  | .dict _, _, h => by cases h
theorem dpAllMono {K : PySem.W.Frag} {B B' : Hp} (s : Same B B') : ∀ (ds : List PyData) (vs : List V), DqAll K B vs ds → DqAll K B' vs ds
  | [], _, h => by cases h; exact .nil
  | d :: ds, _, h => by
    cases h with
    | cons h1 h2 => exact .cons (dpMono s d _ h1) (dpAllMono s ds _ h2)
end
theorem dpAll_len {K : PySem.W.Frag} {B : Hp} : ∀ {ds : List PyData} {vs : List V}, DqAll K B vs ds → vs.length = ds.length
  | [], _, h => by cases h; rfl
  | d :: ds, _, h => by
    cases h with
    | cons h1 h2 => simp [dpAll_len h2]
theorem dpAll_get {K : PySem.W.Frag} {B : Hp} : ∀ {ds : List PyData} {vs : List V}, DqAll K B vs ds → ∀ {i : Nat} {d : PyData}, ds[i]? = some d → ∃ v, vs[i]? = some v ∧ Dq K B v d
  | [], _, h, i, d, e => by simp at e
  | d :: ds, _, h, i, d', e => by
    cases h with
    | cons h1 h2 =>
      cases i with
      | zero => simp at e; subst e; exact ⟨_, by simp, h1⟩
      | succ i =>
        have e' : ds[i]? = some d' := by simpa using e
        obtain ⟨v, a, b⟩ := dpAll_get h2 e'
        exact ⟨v, by simpa using a, b⟩
theorem dpAll_app {K : PySem.W.Frag} {B : Hp} : ∀ {ds es : List PyData} {vs us : List V}, DqAll K B vs ds → DqAll K B us es → DqAll K B (vs ++ us) (ds ++ es)
  | [], _, _, _, h, h' => by cases h; exact h'
  | d :: ds, _, _, _, h, h' => by
    cases h with
    | cons h1 h2 => exact .cons h1 (dpAll_app h2 h')
theorem dpAll_set {K : PySem.W.Frag} {B : Hp} {v : V} {d : PyData} (hd : Dq K B v d) : ∀ {ds : List PyData} {vs : List V} (i : Nat), DqAll K B vs ds → DqAll K B (vs.set i v) (ds.set i d)
  | [], _, i, h => by cases h; exact .nil
  | d' :: ds, _, i, h => by
    cases h with
    | cons h1 h2 =>
      cases i with
      | zero => exact .cons hd h2
      | succ i => exact .cons h1 (dpAll_set hd i h2)
theorem dpAll_take {K : PySem.W.Frag} {B : Hp} : ∀ {ds : List PyData} {vs : List V} (n : Nat), DqAll K B vs ds → DqAll K B (vs.take n) (ds.take n)
  | _, _, 0, _ => .nil
  | [], _, _ + 1, h => by cases h; exact .nil
  | d :: ds, _, n + 1, h => by
    cases h with
    | cons h1 h2 => exact .cons h1 (dpAll_take n h2)
theorem dpAll_drop {K : PySem.W.Frag} {B : Hp} : ∀ {ds : List PyData} {vs : List V} (n : Nat), DqAll K B vs ds → DqAll K B (vs.drop n) (ds.drop n)
  | _, _, 0, h => h
  | [], _, _ + 1, h => by cases h; exact .nil
  | d :: ds, _, n + 1, h => by
    cases h with
    | cons h1 h2 => exact dpAll_drop n h2
theorem dp_int {K : PySem.W.Frag} {B : Hp} {v : V} {i : Int} (h : Dq K B v (.int i)) : v = .int i := by cases h; rfl
theorem dp_bool {K : PySem.W.Frag} {B : Hp} {v : V} {i : Bool} (h : Dq K B v (.bool i)) : v = .bl i := by cases h; rfl
theorem dp_none {K : PySem.W.Frag} {B : Hp} {v : V} (h : Dq K B v .none) : v = .non := by cases h; rfl
theorem dp_str {K : PySem.W.Frag} {B : Hp} {v : V} {x : Str} (h : Dq K B v (.str x)) : v = .str x := by cases h; rfl
theorem dp_list {K : PySem.W.Frag} {B : Hp} {v : V} {ds : List PyData} (h : Dq K B v (.list ds)) : ∃ a vs, v = .ref a ∧ B a = some (.lst vs) ∧ DqAll K B vs ds := by
  cases h with
  | lst h1 h2 => exact ⟨_, _, rfl, h1, h2⟩
theorem dp_tup {K : PySem.W.Frag} {B : Hp} {v : V} {ds : List PyData} (h : Dq K B v (.tuple ds)) : ∃ a vs, v = .ref a ∧ SqT K B a vs ∧ DqAll K B vs ds := by
  cases h with
  | tup h1 h2 => exact ⟨_, _, rfl, h1, h2⟩
theorem seqT {K : PySem.W.Frag} {B H : Hp} (s : Same B H) {a : Addr} {xs : List V} (hs : SqT K B a xs) : SqT K H a xs := by
  rcases hs with (h | ⟨o, h⟩) | h
  · exact .inl (.inl (s _ _ h))
  · exact .inl (.inr ⟨o, s _ _ h⟩)
  · exact .inr h
theorem same_new {H : Hp} {p : Addr} {o : HO} (h : H p = none) : Same H (upd H p o) := fun b x e => by
  rw [upd_ne (ne_of_none e h)]
  exact e
theorem same_upd2 {B H : Hp} {p : Addr} {o : HO} (s : Same B H) : Same (upd B p o) (upd H p o) := fun b x e => by
  by_cases hb : b = p
  · subst hb
    rw [upd_same] at e ⊢
    exact e
  · rw [upd_ne hb] at e ⊢
    exact s b x e
theorem same_right {B H : Hp} {p : Addr} {o : HO} (s : Same B H) (h : B p = none) : Same B (upd H p o) := fun b x e => by
  rw [upd_ne (ne_of_none e h)]
  exact s b x e

/-! ### what a frame holds -/
/-- a slot: nothing known, plain data that never changes, a list or dict of this frame's own, the law's tape -/
inductive Sl where
  | no
  | im (d : PyData)
  | own (ds : List PyData)
  | dic (kvs : List (Key × PyData))
  | tape
/-- the tape (when there is one); the plain heap and the heap at the entry -/
structure Wd where
  T : Option Addr
  ns : Addr × List Int
  B0 : Hp
  H0 : Hp
def Tape (ns : Addr × List Int) (B H : Hp) (T : Addr) : Prop :=
  B T = none ∧ ∃ (i c : Int), H T = some (.lst [.ref ns.1, .int i, .int c]) ∧ 0 ≤ i ∧ 0 ≤ c ∧ B ns.1 = some (.lst (ns.2.map V.int))
/-- how the heap has grown since the entry -/
structure Gr (K : PySem.W.Frag) (W : Wd) (B H : Hp) : Prop where
  sub : Same B H
  base : Same W.B0 B
  new : ∀ a, W.H0 a ≠ none → W.B0 a = none → B a = none
  keep : ∀ a o, W.H0 a = some o → W.T ≠ some a → H a = some o
  tp : ∀ T, W.T = some T → W.H0 T ≠ none ∧ Tape W.ns B H T
def KvD (K : PySem.W.Frag) (B : Hp) : List (Key × V) → List (Key × PyData) → Prop := Paired fun p q => p.1 = q.1 ∧ Dq K B p.2 q.2
def SlOk (K : PySem.W.Frag) (W : Wd) (B H : Hp) (x : Option (Option V)) : Sl → Prop
  | .no => True
  | .im d => ∃ v, x = some (some v) ∧ Dq K B v d
  | .own ds => ∃ a vs, x = some (some (.ref a)) ∧ B a = none ∧ W.H0 a = none ∧ H a = some (.lst vs) ∧ DqAll K B vs ds
  | .dic kvs => ∃ a ws, x = some (some (.ref a)) ∧ B a = none ∧ W.H0 a = none ∧ H a = some (.dK ws) ∧ KvD K B ws kvs
  | .tape => ∃ T, W.T = some T ∧ x = some (some (.ref T))
def Sl.ow : Sl → Bool
  | .own _ => true
  | .dic _ => true
  | _ => false
structure Lay (K : PySem.W.Frag) (W : Wd) (B H : Hp) (σ : L2.St) (ρ : List Sl) : Prop where
  gr : Gr K W B H
  len : σ.length = ρ.length
  at' : ∀ (i : Nat) (sl : Sl), ρ[i]? = some sl → SlOk K W B H σ[i]? sl
  dis : ∀ (i j : Nat) (s t : Sl), i ≠ j → ρ[i]? = some s → ρ[j]? = some t → s.ow = true → t.ow = true → σ[i]? ≠ σ[j]?

section
variable {K : PySem.W.Frag} {W : Wd} {B B' H H' : Hp} {σ : L2.St} {ρ : List Sl}
theorem SlOk.owner {x : Option (Option V)} {sl : Sl} (h : SlOk K W B H x sl) (e : sl.ow = true) : ∃ a o, x = some (some (.ref a)) ∧ B a = none ∧ W.H0 a = none ∧ H a = some o ∧ Mut (some o) := by
  cases sl with
  | own ds => obtain ⟨a, vs, h1, h2, h3, h4, _⟩ := h; exact ⟨a, _, h1, h2, h3, h4, trivial⟩
  | dic kvs => obtain ⟨a, vs, h1, h2, h3, h4, _⟩ := h; exact ⟨a, _, h1, h2, h3, h4, trivial⟩
  | no => cases e
  | im d => cases e
  | tape => cases e
theorem kvMono (s : Same B B') : ∀ {ws : List (Key × V)} {kvs : List (Key × PyData)}, KvD K B ws kvs → KvD K B' ws kvs := fun h => Paired.mapP h fun p q z => ⟨z.1, dpMono s _ _ z.2⟩
/-- the slots stay as the plain heap grows and the owners' objects are kept -/
theorem SlOk.grow {x : Option (Option V)} {sl : Sl} (h : SlOk K W B H x sl) (s : Same B B') (k : ∀ a o, x = some (some (.ref a)) → sl.ow = true → B a = none → W.H0 a = none → H a = some o → B' a = none ∧ H' a = some o) : SlOk K W B' H' x sl := by
  cases sl with
  | no => trivial
  | im d => obtain ⟨v, h1, h2⟩ := h; exact ⟨v, h1, dpMono s _ _ h2⟩
  | own ds =>
    obtain ⟨a, vs, h1, h2, h3, h4, h5⟩ := h
    obtain ⟨q1, q2⟩ := k a _ h1 rfl h2 h3 h4
    exact ⟨a, vs, h1, q1, h3, q2, dpAllMono s _ _ h5⟩
  | dic kvs =>
    obtain ⟨a, ws, h1, h2, h3, h4, h5⟩ := h
    obtain ⟨q1, q2⟩ := k a _ h1 rfl h2 h3 h4
    exact ⟨a, ws, h1, q1, h3, q2, kvMono s h5⟩
  | tape => exact h
theorem Tape.mono (s : Same B B') {T : Addr} {ns : Addr × List Int} (t : Tape ns B H T) (h1 : B' T = none) (h2 : ∀ o, H T = some o → H' T = some o) : Tape ns B' H' T := by
  obtain ⟨_, i, c, e, i0, c0, q⟩ := t
  exact ⟨h1, i, c, h2 _ e, i0, c0, s _ _ q⟩
theorem Gr.refl {T : Option Addr} {ns : Addr × List Int} (s : Same B H) (t : ∀ a, T = some a → Tape ns B H a) : Gr K ⟨T, ns, B, H⟩ B H :=
  ⟨s, fun _ _ h => h, fun _ _ h => h, fun _ _ h _ => h, fun a h => ⟨fun z => (by
    obtain ⟨_, i, c, e, _⟩ := t a h
    have z' : H a = none := z
    rw [e] at z'
    exact absurd z' (by simp)), t a h⟩⟩
/-- a fresh object, plain from now on -/
theorem Lay.fresh (L : Lay K W B H σ ρ) {p : Addr} (hp : H p = none) (o : HO) : Same B (upd B p o) ∧ Lay K W (upd B p o) (upd H p o) σ ρ := by
  have bp : B p = none := Same.free L.gr.sub hp
  have s : Same B (upd B p o) := same_new bp
  have np : ∀ a u, H a = some u → a ≠ p := fun a u e => ne_of_none e hp
  refine ⟨s, ⟨⟨same_upd2 L.gr.sub, L.gr.base.trans s, fun a h1 h2 => ?_, fun a u h1 h2 => ?_, fun T h => ?_⟩, L.len, fun i sl e => (L.at' i sl e).grow s fun a u _ _ h2 _ h4 => ?_, L.dis⟩⟩
  · have ha : a ≠ p := by
      rintro rfl
      by_cases ht : W.T = some a
      · obtain ⟨_, t⟩ := L.gr.tp a ht
        obtain ⟨_, i, c, e, _⟩ := t
        rw [e] at hp
        cases hp
      · cases q : W.H0 a with
        | none => exact h1 q
        | some u =>
          have := L.gr.keep a u q ht
          rw [hp] at this
          cases this
    rw [upd_ne ha]
    exact L.gr.new a h1 h2
  · have := L.gr.keep a u h1 h2
    rw [upd_ne (np a u this)]
    exact this
  · obtain ⟨h1, t⟩ := L.gr.tp T h
    obtain ⟨t1, i, c, e, r⟩ := id t
    exact ⟨h1, t.mono s (by rw [upd_ne (np T _ e)]; exact t1) fun u hu => by rw [upd_ne (np T _ e)]; exact hu⟩
  · rw [upd_ne (np a u h4), upd_ne (np a u h4)]
    exact ⟨h2, h4⟩
/-- behind a call that touched nothing but (maybe) the tape -/
theorem Lay.called (L : Lay K W B H σ ρ) {T : Option Addr} {ns : Addr × List Int} (hT : T = none ∨ T = W.T ∧ ns = W.ns) (g : Gr K ⟨T, ns, B, H⟩ B' H') : Same B B' ∧ Lay K W B' H' σ ρ := by
  have ex : ∀ a, W.H0 a ≠ none → H a ≠ none := fun a h1 => by
    by_cases ht : W.T = some a
    · obtain ⟨_, t⟩ := L.gr.tp a ht
      obtain ⟨_, i, c, e, _⟩ := t
      rw [e]
      exact fun z => by cases z
    · cases q : W.H0 a with
      | none => exact (h1 q).elim
      | some u =>
        rw [L.gr.keep a u q ht]
        exact fun z => by cases z
  refine ⟨g.base, ⟨⟨g.sub, L.gr.base.trans g.base, fun a h1 h2 => g.new a (ex a h1) (L.gr.new a h1 h2), fun a u h1 h2 => g.keep a u (L.gr.keep a u h1 h2) ?_, fun t h => ?_⟩, L.len, fun i sl e => (L.at' i sl e).grow g.base fun a u _ _ h2 h3 h4 => ?_, L.dis⟩⟩
  · rcases hT with z | ⟨z, _⟩
    · show T ≠ some a
      rw [z]
      exact fun q => by cases q
    · show T ≠ some a
      rw [z]
      exact h2
  · obtain ⟨h1, tp⟩ := L.gr.tp t h
    obtain ⟨t1, i, c, e, r⟩ := id tp
    rcases hT with z | ⟨z, zn⟩
    · exact ⟨h1, tp.mono g.base (g.new t (by show H t ≠ none; rw [e]; exact fun q => by cases q) t1) fun u hu => g.keep t u hu (by show T ≠ some t; rw [z]; exact fun q => by cases q)⟩
    · have q := (g.tp t (by show T = some t; rw [z]; exact h)).2
      rw [← zn]
      exact ⟨h1, q⟩
  · refine ⟨g.new a (by show H a ≠ none; rw [h4]; exact fun q => by cases q) h2, g.keep a u h4 ?_⟩
    show T ≠ some a
    rcases hT with z | ⟨z, _⟩
    · rw [z]
      exact fun q => by cases q
    · rw [z]
      intro q
      exact (L.gr.tp a q).1 h3
/-- a name is stored -/
theorem Lay.put (L : Lay K W B H σ ρ) {i : Nat} {v : V} {d : PyData} (hd : Dq K B v d) : Lay K W B H (σ.set i (some v)) (ρ.set i (.im d)) := by
  refine ⟨L.gr, by simp [L.len], fun j sl e => ?_, fun j k s t hne e1 e2 o1 o2 => ?_⟩
  · by_cases hj : i = j
    · subst hj
      have hl : i < ρ.length := by
        have := (List.getElem?_eq_some_iff.mp e).1
        simpa using this
      rw [List.getElem?_set_self hl] at e
      cases e
      rw [List.getElem?_set_self (by rw [L.len]; exact hl)]
      exact ⟨v, rfl, hd⟩
    · rw [List.getElem?_set_ne hj] at e ⊢
      exact L.at' j sl e
  · have n1 : i ≠ j := by
      rintro rfl
      have hl : i < ρ.length := by
        have := (List.getElem?_eq_some_iff.mp e1).1
        simpa using this
      rw [List.getElem?_set_self hl] at e1
      cases e1
      cases o1
    have n2 : i ≠ k := by
      rintro rfl
      have hl : i < ρ.length := by
        have := (List.getElem?_eq_some_iff.mp e2).1
        simpa using this
      rw [List.getElem?_set_self hl] at e2
      cases e2
      cases o2
    rw [List.getElem?_set_ne n1] at e1 ⊢
    rw [List.getElem?_set_ne n2] at e2 ⊢
    exact L.dis j k s t hne e1 e2 o1 o2
/-- a slot forgotten -/
theorem Lay.wipe1 (L : Lay K W B H σ ρ) (i : Nat) : Lay K W B H (σ.set i none) (ρ.set i .no) := by
  refine ⟨L.gr, by simp [L.len], fun j sl e => ?_, fun j k s t hne e1 e2 o1 o2 => ?_⟩
  · by_cases hj : i = j
    · subst hj
      have hl : i < ρ.length := by
        have := (List.getElem?_eq_some_iff.mp e).1
        simpa using this
      rw [List.getElem?_set_self hl] at e
      cases e
      trivial
    · rw [List.getElem?_set_ne hj] at e ⊢
      exact L.at' j sl e
  · have n1 : i ≠ j := by
      rintro rfl
      have hl : i < ρ.length := by
        have := (List.getElem?_eq_some_iff.mp e1).1
        simpa using this
      rw [List.getElem?_set_self hl] at e1
      cases e1
      cases o1
    have n2 : i ≠ k := by
      rintro rfl
      have hl : i < ρ.length := by
        have := (List.getElem?_eq_some_iff.mp e2).1
        simpa using this
      rw [List.getElem?_set_self hl] at e2
      cases e2
      cases o2
    rw [List.getElem?_set_ne n1] at e1 ⊢
    rw [List.getElem?_set_ne n2] at e2 ⊢
    exact L.dis j k s t hne e1 e2 o1 o2
end

/-! ### the judgements -/
section
variable (X : Cx)
def tW (e : Expr) : TE := fun σ H Q => ∀ (pins : List (Addr × Obj)) (s : Shared), Inv X pins σ H s → wpAny (model X.prog X.w) X.A (eval e X.env) (EP X pins σ Q) X.xe s
def tWt (e : Expr) : TT := fun σ H Q => ∀ (pins : List (Addr × Obj)) (s : Shared), Inv X pins σ H s → wpAny (model X.prog X.w) X.A (isTrue e X.env (eval e X.env)) (TP X pins σ Q) X.xe s
def tWw (e : Expr) : TT := fun σ H Q => ∀ (whole : Sem Value) (pins : List (Addr × Obj)) (s : Shared), Inv X pins σ H s → wpAny (model X.prog X.w) X.A (isTrue e X.env whole) (TP X pins σ Q) X.xe s
def tWa (es : List Expr) : TA := fun σ H Q => ∀ (pos : Pos) (pins : List (Addr × Obj)) (s : Shared), Inv X pins σ H s → wpAny (model X.prog X.w) X.A (spliced (backTo pos (starEach es X.env))) (AP X pins σ Q) X.xe s
def tWs (st : Stmt) : TS := fun D σ H => ∀ (pins : List (Addr × Obj)) (s : Shared), Inv X pins σ H s → wpAny (model X.prog X.w) X.A (exec st X.env) (SP X pins D) X.xe s
def tWss (st : List Stmt) : TS := fun D σ H => ∀ (pins : List (Addr × Obj)) (s : Shared), Inv X pins σ H s → wpAny (model X.prog X.w) X.A (execs st X.env) (SP X pins D) X.xe s
end
section
variable {X : Cx}
theorem pe_w {e : Expr} : PE X e (tW X e) := ⟨fun pins s _ _ _ I h => h pins s I⟩
theorem pt_w {e : Expr} : PT X e (tWt X e) := ⟨fun pins s _ _ _ I h => h pins s I⟩
theorem pw_w {e : Expr} : PW X e (tWw X e) := ⟨fun w pins s _ _ _ I h => h w pins s I⟩
theorem pa_w {es : List Expr} : PA X es (tWa X es) := ⟨fun pos pins s _ _ _ I h => h pos pins s I⟩
theorem ps_w {st : Stmt} : PS X st (tWs X st) := ⟨fun pins s _ _ _ I h => h pins s I⟩
theorem pss_w {st : List Stmt} : PSs X st (tWss X st) := ⟨fun pins s _ _ _ I h => h pins s I⟩
theorem _root_.L2.PE.toZ {e : Expr} {t : TE} (h : PE X e t) {σ H Q} (q : t σ H Q) : tW X e σ H Q := fun pins s I => h.run pins s σ H Q I q
theorem _root_.L2.PT.toZ {e : Expr} {t : TT} (h : PT X e t) {σ H Q} (q : t σ H Q) : tWt X e σ H Q := fun pins s I => h.run pins s σ H Q I q
theorem _root_.L2.PW.toZ {e : Expr} {t : TT} (h : PW X e t) {σ H Q} (q : t σ H Q) : tWw X e σ H Q := fun w pins s I => h.run w pins s σ H Q I q
theorem _root_.L2.PA.toZ {es : List Expr} {t : TA} (h : PA X es t) {σ H Q} (q : t σ H Q) : tWa X es σ H Q := fun pos pins s I => h.run pos pins s σ H Q I q
theorem _root_.L2.PS.toZ {st : Stmt} {t : TS} (h : PS X st t) {D σ H} (q : t D σ H) : tWs X st D σ H := fun pins s I => h.run pins s σ H D I q
theorem _root_.L2.PSs.toZ {st : List Stmt} {t : TS} (h : PSs X st t) {D σ H} (q : t D σ H) : tWss X st D σ H := fun pins s I => h.run pins s σ H D I q
end

/-- an expression: from the frame ρ it gives some data d of which R holds, nothing else has changed -/
structure Ev (X : Cx) (W : Wd) (e : Expr) (ρ : List Sl) (R : PyData → Prop) : Prop where
  run : ∀ (σ : L2.St) (H B : Hp) (Q : VK), Lay X.K W B H σ ρ → (∀ v H' B' d, Same B B' → Lay X.K W B' H' σ ρ → Dq X.K B' v d → R d → Q v H') → tW X e σ H Q
/-- .. that gives a fresh list, of this frame's own -/
structure El (X : Cx) (W : Wd) (e : Expr) (ρ : List Sl) (R : List PyData → Prop) : Prop where
  run : ∀ (σ : L2.St) (H B : Hp) (Q : VK), Lay X.K W B H σ ρ →
    (∀ a vs H' B' ds, Same B B' → Lay X.K W B' H' σ ρ → B' a = none → W.H0 a = none → (∀ (i : Nat) (sl : Sl), ρ[i]? = some sl → sl.ow = true → σ[i]? ≠ some (some (.ref a))) → H' a = some (.lst vs) → DqAll X.K B' vs ds → R ds → Q (.ref a) H') → tW X e σ H Q
/-- a test -/
structure Et (X : Cx) (W : Wd) (e : Expr) (ρ : List Sl) (R : Bool → Prop) : Prop where
  run : ∀ (σ : L2.St) (H B : Hp) (Q : Bool → Hp → Prop), Lay X.K W B H σ ρ → (∀ b H' B', Same B B' → Lay X.K W B' H' σ ρ → R b → Q b H') → tWt X e σ H Q
structure Ew (X : Cx) (W : Wd) (e : Expr) (ρ : List Sl) (R : Bool → Prop) : Prop where
  run : ∀ (σ : L2.St) (H B : Hp) (Q : Bool → Hp → Prop), Lay X.K W B H σ ρ → (∀ b H' B', Same B B' → Lay X.K W B' H' σ ρ → R b → Q b H') → tWw X e σ H Q
/-- arguments -/
structure Ea (X : Cx) (W : Wd) (es : List Expr) (ρ : List Sl) (R : List PyData → Prop) : Prop where
  run : ∀ (σ : L2.St) (H B : Hp) (Q : List V → Hp → Prop), Lay X.K W B H σ ρ → (∀ vs H' B' ds, Same B B' → Lay X.K W B' H' σ ρ → DqAll X.K B' vs ds → R ds → Q vs H') → tWa X es σ H Q
/-- what is wanted behind a statement -/
structure Dz where
  nx : List Sl → Prop
  rt : PyData → Prop
  bk : List Sl → Prop := fun _ => False
  ct : List Sl → Prop := fun _ => False
def De (K : PySem.W.Frag) (W : Wd) (B0 : Hp) (D : Dz) : Ends where
  nx := fun σ H => ∃ B ρ, Same B0 B ∧ Lay K W B H σ ρ ∧ D.nx ρ
  rt := fun v H => ∃ B d, Gr K W B H ∧ Dq K B v d ∧ D.rt d
  bk := fun σ H => ∃ B ρ, Same B0 B ∧ Lay K W B H σ ρ ∧ D.bk ρ
  ct := fun σ H => ∃ B ρ, Same B0 B ∧ Lay K W B H σ ρ ∧ D.ct ρ
structure Es (X : Cx) (W : Wd) (st : Stmt) (ρ : List Sl) (D : Dz) : Prop where
  run : ∀ (σ : L2.St) (H B : Hp), Lay X.K W B H σ ρ → tWs X st (De X.K W B D) σ H
structure Ess (X : Cx) (W : Wd) (st : List Stmt) (ρ : List Sl) (D : Dz) : Prop where
  run : ∀ (σ : L2.St) (H B : Hp), Lay X.K W B H σ ρ → tWss X st (De X.K W B D) σ H
section
variable {X : Cx} {W : Wd} {B B' H : Hp} {σ : L2.St} {D : Dz}
theorem SP.back (s : Same B B') {pins : List (Addr × Obj)} {f : Flow} {s' : Shared} (h : SP X pins (De X.K W B' D) f s') : SP X pins (De X.K W B D) f s' := by
  cases f with
  | next => obtain ⟨σ', H', I', B2, ρ', s2, q⟩ := h; exact ⟨σ', H', I', B2, ρ', s.trans s2, q⟩
  | brk => obtain ⟨σ', H', I', B2, ρ', s2, q⟩ := h; exact ⟨σ', H', I', B2, ρ', s.trans s2, q⟩
  | cont => obtain ⟨σ', H', I', B2, ρ', s2, q⟩ := h; exact ⟨σ', H', I', B2, ρ', s.trans s2, q⟩
  | ret u => exact h
theorem tWs.back (s : Same B B') {st : Stmt} (h : tWs X st (De X.K W B' D) σ H) : tWs X st (De X.K W B D) σ H := fun pins s0 I => thn (h pins s0 I) fun _ _ q => SP.back s q
theorem tWss.back (s : Same B B') {st : List Stmt} (h : tWss X st (De X.K W B' D) σ H) : tWss X st (De X.K W B D) σ H := fun pins s0 I => thn (h pins s0 I) fun _ _ q => SP.back s q
end
end Z

namespace Z
open PySem PySem.Spec PyProof.Rows L2
section
variable {X : Cx} {W : Wd} {ρ : List Sl} {R : PyData → Prop} {pos : Pos} {a b c e : Expr} {es : List Expr}

/-! ### what is read as a test or value -/
theorem Ev.imp {R' : PyData → Prop} (h : Ev X W e ρ R) (k : ∀ d, R d → R' d) : Ev X W e ρ R' := ⟨fun σ H B Q L q => h.run σ H B Q L fun v H' B' d s L' D r => q v H' B' d s L' D (k d r)⟩
theorem Et.imp {R R' : Bool → Prop} (h : Et X W e ρ R) (k : ∀ d, R d → R' d) : Et X W e ρ R' := ⟨fun σ H B Q L q => h.run σ H B Q L fun v H' B' s L' r => q v H' B' s L' (k v r)⟩
theorem Ess.imp {st : List Stmt} {D D' : Dz} (h : Ess X W st ρ D) (h1 : ∀ r, D.nx r → D'.nx r) (h2 : ∀ d, D.rt d → D'.rt d) (h3 : ∀ r, D.bk r → D'.bk r) (h4 : ∀ r, D.ct r → D'.ct r) : Ess X W st ρ D' := by
  refine ⟨fun σ H B L pins s I => ?_⟩
  refine thn (h.run σ H B L pins s I) fun f s' q => ?_
  cases f with
  | next => obtain ⟨σ', H', I', B', ρ', s0, L', q⟩ := q; exact ⟨σ', H', I', B', ρ', s0, L', h1 _ q⟩
  | brk => obtain ⟨σ', H', I', B', ρ', s0, L', q⟩ := q; exact ⟨σ', H', I', B', ρ', s0, L', h3 _ q⟩
  | cont => obtain ⟨σ', H', I', B', ρ', s0, L', q⟩ := q; exact ⟨σ', H', I', B', ρ', s0, L', h4 _ q⟩
  | ret u => obtain ⟨v, σ', H', I', r, B', d, g, D1, q⟩ := q; exact ⟨v, σ', H', I', r, B', d, g, D1, h2 _ q⟩

/-! ### names and constants -/
theorem ev_name (i : Nat) {x : Str} {d : PyData} (hρ : ρ[i]? = some (.im d)) (h : R d) (hN : X.N[i]? = some x := by rfl) (hv : Vis X.env.scope x := by first | exact Or.inl rfl | exact Or.inr (Or.inl rfl) | exact Or.inr (Or.inr rfl))
    (hd : (x == ("__debug__" : Str)) = false := by decide) (hcd : (x == ("__classdict__" : Str)) = false := by decide) : Ev X W (.Name x pos) ρ R := by
  refine ⟨fun σ H B Q L k => (pe_var hN hv hd hcd).toZ ?_⟩
  obtain ⟨v, h1, h2⟩ := L.at' i _ hρ
  exact ⟨v, h1, k v H B d (Same.refl _) L h2 h⟩
theorem ev_int {i j} (h : R (.int i)) : Ev X W (.Constant (.int i) j pos) ρ R := ⟨fun _ H B _ L k => pe_int.toZ (k _ H B _ (Same.refl _) L (.int i) h)⟩
theorem ev_bool {i j} (h : R (.bool i)) : Ev X W (.Constant (.bool i) j pos) ρ R := ⟨fun _ H B _ L k => pe_bl.toZ (k _ H B _ (Same.refl _) L (.bl i) h)⟩
theorem ev_none {j} (h : R .none) : Ev X W (.Constant .none j pos) ρ R := ⟨fun _ H B _ L k => pe_non.toZ (k _ H B _ (Same.refl _) L .non h)⟩
theorem ev_str {x j} (h : R (.str x)) : Ev X W (.Constant (.str x) j pos) ρ R := ⟨fun _ H B _ L k => pe_str.toZ (k _ H B _ (Same.refl _) L (.str x) h)⟩
/-- a constant of a module -/
theorem ev_glob {x : Str} {i : Int} (hm : ∃ t, X.mg x = some (.int i t)) (h : R (.int i)) (hg : Gl X x := by rfl) (hd : (x == ("__debug__" : Str)) = false := by decide) : Ev X W (.Name x pos) ρ R := by
  obtain ⟨t, hm⟩ := hm
  exact ⟨fun _ H B _ L k => (pe_glob hg hm (v := .int i) ⟨t, rfl⟩ hd).toZ (k _ H B _ (Same.refl _) L (.int i) h)⟩

/-! ### operators -/
/-- an operator on data: what it asks -/
def OpZ (X : Cx) (f : Value → Value → Sem Value) (rr : PyData → PyData → (PyData → Prop) → Prop) : Prop :=
  ∃ r : R2, OpR X f r ∧ ∀ (W : Wd) (σ : L2.St) (ρ : List Sl) (H B : Hp) (v u : V) (d e : PyData) (R : PyData → Prop) (Q : VK), Lay X.K W B H σ ρ → Dq X.K B v d → Dq X.K B u e → rr d e R →
    (∀ w H' B' d', Same B B' → Lay X.K W B' H' σ ρ → Dq X.K B' w d' → R d' → Q w H') → r v u H Q
theorem ev_bin {op : Operator} {rr : PyData → PyData → (PyData → Prop) → Prop} (ho : OpZ X (binaryOp op) rr) (h : Ev X W a ρ fun x => Ev X W b ρ fun y => rr x y R) : Ev X W (.BinOp a op b pos) ρ R := by
  obtain ⟨r, ho, hr⟩ := ho
  refine ⟨fun σ H B Q L k => (pe_op ho pe_w pe_w).toZ ?_⟩
  refine h.run σ H B _ L fun v H1 B1 d s1 L1 D1 h2 => ?_
  refine h2.run σ H1 B1 _ L1 fun u H2 B2 d' s2 L2 D2 h3 => ?_
  exact hr W σ ρ H2 B2 v u d d' R Q L2 (dpMono s2 _ _ D1) D2 h3 fun w H' B' x s L' D' r => k w H' B' x ((s1.trans s2).trans s) L' D' r
theorem ev_cmp {op : CmpOp} {rr : PyData → PyData → (PyData → Prop) → Prop} (ho : OpZ X (compareOp op) rr) (h : Ev X W a ρ fun x => Ev X W b ρ fun y => rr x y R) (hm : behindInMarks op b = false := by first | exact nomark _ | rfl) : Ev X W (.Compare a [op] [b] pos) ρ R := by
  obtain ⟨r, ho, hr⟩ := ho
  refine ⟨fun σ H B Q L k => (pe_cmpR ho pe_w pe_w hm).toZ ?_⟩
  refine h.run σ H B _ L fun v H1 B1 d s1 L1 D1 h2 => ?_
  refine h2.run σ H1 B1 _ L1 fun u H2 B2 d' s2 L2 D2 h3 => ?_
  exact hr W σ ρ H2 B2 v u d d' R Q L2 (dpMono s2 _ _ D1) D2 h3 fun w H' B' x s L' D' r => k w H' B' x ((s1.trans s2).trans s) L' D' r
/-- a bool's test -/
@[reducible] def tst (R : Bool → Prop) : PyData → Prop
  | .bool b => R b
  | _ => False
theorem et_cmp {op : CmpOp} {R : Bool → Prop} {rr : PyData → PyData → (PyData → Prop) → Prop} (ho : OpZ X (compareOp op) rr) (h : Ev X W a ρ fun x => Ev X W b ρ fun y => rr x y (tst R)) (hm : behindInMarks op b = false := by first | exact nomark _ | rfl) : Et X W (.Compare a [op] [b] pos) ρ R := by
  obtain ⟨r, ho, hr⟩ := ho
  refine ⟨fun σ H B Q L k => (pt_cmpR ho pe_w pe_w hm).toZ ?_⟩
  refine h.run σ H B _ L fun v H1 B1 d s1 L1 D1 h2 => ?_
  refine h2.run σ H1 B1 _ L1 fun u H2 B2 d' s2 L2 D2 h3 => ?_
  refine hr W σ ρ H2 B2 v u d d' _ _ L2 (dpMono s2 _ _ D1) D2 h3 fun w H' B' x s L' D' r => ?_
  cases x with
  | bool b => exact ⟨b, dp_bool D', k b H' B' ((s1.trans s2).trans s) L' r⟩
  | none => exact r.elim
  | int _ => exact r.elim
  | str _ => exact r.elim
  | list _ => exact r.elim
  | tuple _ => exact r.elim
  | dict _ => exact r.elim
/-- an expression whose value is a bool, as a test -/
theorem et_val {R : Bool → Prop} (h : Ev X W e ρ (tst R)) (he : ∀ whole, isTrue e X.env whole = (do let v ← whole; standAt e.pos; holding [v] (truthy v)) := by intro _; rfl) : Et X W e ρ R := by
  refine ⟨fun σ H B Q L k => (pt_val pe_w he).toZ ?_⟩
  refine h.run σ H B _ L fun v H1 B1 d s1 L1 D1 h2 => ?_
  cases d with
  | bool b => exact ⟨b, dp_bool D1, k b H1 B1 s1 L1 h2⟩
  | none => exact h2.elim
  | int _ => exact h2.elim
  | str _ => exact h2.elim
  | list _ => exact h2.elim
  | tuple _ => exact h2.elim
  | dict _ => exact h2.elim
/-! ints -/
@[reducible] def rI2 (C : Int → Int → Prop) (g : Int → Int → PyData) : PyData → PyData → (PyData → Prop) → Prop
  | .int i, .int j, R => C i j ∧ R (g i j)
  | _, _, _ => False
@[reducible] def rI1 (g : Int → Int → PyData) : PyData → PyData → (PyData → Prop) → Prop
  | .int i, .int j, R => R (g i j)
  | _, _, _ => False
theorem ozI {f : Value → Value → Sem Value} {C : Int → Int → Prop} {g : Int → Int → Int} (h : OpR X f (rI C fun i j => .int (g i j))) : OpZ X f (rI2 C fun i j => .int (g i j)) := by
  refine ⟨_, h, fun W σ ρ H B v u d e R Q L D1 D2 r k => ?_⟩
  cases d <;> cases e <;> first | exact r.elim | skip
  rename_i i j
  exact ⟨i, j, dp_int D1, dp_int D2, r.1, k _ H B _ (Same.refl _) L (.int _) r.2⟩
theorem ozI0 {f : Value → Value → Sem Value} {g : Int → Int → Int} (h : OpR X f (rI0 fun i j => .int (g i j))) : OpZ X f (rI1 fun i j => .int (g i j)) := by
  refine ⟨_, h, fun W σ ρ H B v u d e R Q L D1 D2 r k => ?_⟩
  cases d <;> cases e <;> first | exact r.elim | skip
  rename_i i j
  exact ⟨i, j, dp_int D1, dp_int D2, k _ H B _ (Same.refl _) L (.int _) r⟩
theorem ozB0 {f : Value → Value → Sem Value} {g : Int → Int → Bool} (h : OpR X f (rI0 fun i j => .bl (g i j))) : OpZ X f (rI1 fun i j => .bool (g i j)) := by
  refine ⟨_, h, fun W σ ρ H B v u d e R Q L D1 D2 r k => ?_⟩
  cases d <;> cases e <;> first | exact r.elim | skip
  rename_i i j
  exact ⟨i, j, dp_int D1, dp_int D2, k _ H B _ (Same.refl _) L (.bl _) r⟩
theorem oz_sub : OpZ X (binaryOp .Sub) (rI1 fun i j => .int (i - j)) := ozI0 op_sub
theorem oz_mul : OpZ X (binaryOp .Mult) (rI2 CMul fun i j => .int (i * j)) := ozI op_mul
theorem oz_mulW : OpZ X (binaryOp .Mult) (rI2 CMulW fun i j => .int (i * j)) := ozI op_mulW
theorem oz_div : OpZ X (binaryOp .FloorDiv) (rI2 CDivW fun i j => .int (i / j)) := ozI op_fdivW
theorem oz_mod : OpZ X (binaryOp .Mod) (rI2 (fun _ j => 0 < j) fun i j => .int (i % j)) := ozI op_mod
theorem oz_pow : OpZ X (binaryOp .Pow) (rI2 CPow fun i j => .int (i ^ j.toNat)) := ozI op_pow
theorem oz_lt : OpZ X (compareOp .Lt) (rI1 fun i j => .bool (decide (i < j))) := ozB0 op_lt
theorem oz_le : OpZ X (compareOp .LtE) (rI1 fun i j => .bool (decide (i ≤ j))) := ozB0 op_le
theorem oz_gt : OpZ X (compareOp .Gt) (rI1 fun i j => .bool (decide (j < i))) := ozB0 op_gt
theorem oz_ge : OpZ X (compareOp .GtE) (rI1 fun i j => .bool (decide (j ≤ i))) := ozB0 op_ge
theorem oz_iadd : OpZ X (inplaceOp .Add) (rI1 fun i j => .int (i + j)) := ozI0 iop_add
/-- + of ints, tuples, lists, texts -/
@[reducible] def rAdd : PyData → PyData → (PyData → Prop) → Prop
  | .int i, .int j, R => R (.int (i + j))
  | .tuple xs, .tuple ys, R => xs.length + ys.length ≤ sizeLine ∧ R (.tuple (xs ++ ys))
  | .list xs, .list ys, R => xs.length + ys.length ≤ sizeLine ∧ R (.list (xs ++ ys))
  | .str x, .str y, R => x.length + y.length ≤ sizeLine ∧ R (.str (x ++ y))
  | _, _, _ => False
theorem oz_add : OpZ X (binaryOp .Add) rAdd := by
  refine ⟨_, OpR.or op_add (OpR.or op_catA (OpR.or op_cat op_add_str)), fun W σ ρ H B v u d e R Q L D1 D2 r k => ?_⟩
  cases d <;> cases e <;> first | exact r.elim | skip
  · rename_i i j
    exact .inl ⟨i, j, dp_int D1, dp_int D2, k _ H B _ (Same.refl _) L (.int _) r⟩
  · rename_i x y
    exact .inr (.inr (.inr ⟨x, y, dp_str D1, dp_str D2, r.1, k _ H B _ (Same.refl _) L (.str _) r.2⟩))
  · rename_i xs ys
    obtain ⟨p, vs, rfl, h1, h2⟩ := dp_list D1
    obtain ⟨q, us, rfl, h3, h4⟩ := dp_list D2
    refine .inr (.inr (.inl ⟨p, q, vs, us, rfl, rfl, L.gr.sub _ _ h1, L.gr.sub _ _ h3, by rw [dpAll_len h2, dpAll_len h4]; exact r.1, fun t ht => ?_⟩))
    obtain ⟨s, L'⟩ := L.fresh ht (.lst (vs ++ us))
    exact k _ _ _ _ s L' (.lst upd_same (dpAll_app (dpAllMono s _ _ h2) (dpAllMono s _ _ h4))) r.2
  · rename_i xs ys
    obtain ⟨p, vs, rfl, h1, h2⟩ := dp_tup D1
    obtain ⟨q, us, rfl, h3, h4⟩ := dp_tup D2
    refine .inr (.inl ⟨p, q, vs, us, rfl, rfl, seqT L.gr.sub h1, seqT L.gr.sub h3, by rw [dpAll_len h2, dpAll_len h4]; exact r.1, fun z => ?_, fun _ z => ?_, fun _ _ t ht => ?_⟩)
    · subst z
      cases h2
      exact k _ H B _ (Same.refl _) L D2 r.2
    · subst z
      cases h4
      have r2 := r.2
      rw [List.append_nil] at r2
      exact k _ H B _ (Same.refl _) L D1 r2
    · obtain ⟨s, L'⟩ := L.fresh ht (.tup (vs ++ us))
      exact k _ _ _ _ s L' (.tup (SqT.of upd_same) (dpAll_app (dpAllMono s _ _ h2) (dpAllMono s _ _ h4))) r.2
/-- == and != of any data -/
@[reducible] def rEqZ : PyData → PyData → (PyData → Prop) → Prop := fun d e R => SeqAt.shaped d = true ∧ SeqAt.shaped e = true ∧ R (.bool (PyData.eqv d e))
@[reducible] def rNeZ : PyData → PyData → (PyData → Prop) → Prop := fun d e R => SeqAt.shaped d = true ∧ SeqAt.shaped e = true ∧ R (.bool (!PyData.eqv d e))
theorem oz_eqD (hu : X.A.units + 64 < cLine) : OpZ X (compareOp .Eq) rEqZ := by
  refine ⟨_, op_eqD hu, fun W σ ρ H B v u d e R Q L D1 D2 r k => ?_⟩
  exact ⟨d, e, dqDp _ _ (dpMono L.gr.sub _ _ D1), dqDp _ _ (dpMono L.gr.sub _ _ D2), r.1, r.2.1, k _ H B _ (Same.refl _) L (.bl _) r.2.2⟩
theorem oz_neD (hu : X.A.units + 64 < cLine) : OpZ X (compareOp .NotEq) rNeZ := by
  refine ⟨_, op_neD hu, fun W σ ρ H B v u d e R Q L D1 D2 r k => ?_⟩
  exact ⟨d, e, dqDp _ _ (dpMono L.gr.sub _ _ D1), dqDp _ _ (dpMono L.gr.sub _ _ D2), r.1, r.2.1, k _ H B _ (Same.refl _) L (.bl _) r.2.2⟩
/-- == and != of ints -/
theorem oz_eq : OpZ X (compareOp .Eq) (rI1 fun i j => .bool (decide (i = j))) := by
  refine ⟨_, op_eq, fun W σ ρ H B v u d e R Q L D1 D2 r k => ?_⟩
  cases d <;> cases e <;> first | exact r.elim | skip
  rename_i i j
  cases dp_int D1
  cases dp_int D2
  refine ⟨rfl, ?_⟩
  have e1 : decide (V.int i = V.int j) = decide (i = j) := by
    by_cases h : i = j
    · subst h; simp
    · rw [decide_eq_false h, decide_eq_false fun q => h (V.int.inj q)]
  rw [e1]
  exact k _ H B _ (Same.refl _) L (.bl _) r
theorem oz_ne : OpZ X (compareOp .NotEq) (rI1 fun i j => .bool (!decide (i = j))) := by
  refine ⟨_, op_ne, fun W σ ρ H B v u d e R Q L D1 D2 r k => ?_⟩
  cases d <;> cases e <;> first | exact r.elim | skip
  rename_i i j
  cases dp_int D1
  cases dp_int D2
  refine ⟨rfl, ?_⟩
  have e1 : decide (V.int i = V.int j) = decide (i = j) := by
    by_cases h : i = j
    · subst h; simp
    · rw [decide_eq_false h, decide_eq_false fun q => h (V.int.inj q)]
  rw [e1]
  exact k _ H B _ (Same.refl _) L (.bl _) r
/-- in, not in a list -/
@[reducible] def rInZ : PyData → PyData → (PyData → Prop) → Prop
  | d, .list ds, R => SeqAt.shaped d = true ∧ SeqAt.shaped (.list ds) = true ∧ R (.bool (ds.any fun z => PyData.eqv z d))
  | _, _, _ => False
@[reducible] def rNotInZ : PyData → PyData → (PyData → Prop) → Prop
  | d, .list ds, R => SeqAt.shaped d = true ∧ SeqAt.shaped (.list ds) = true ∧ R (.bool (!ds.any fun z => PyData.eqv z d))
  | _, _, _ => False
theorem oz_in (hu : X.A.units + 65 < cLine) : OpZ X (compareOp .In) rInZ := by
  refine ⟨_, op_inD hu, fun W σ ρ H B v u d e R Q L D1 D2 r k => ?_⟩
  cases e <;> first | exact r.elim | skip
  exact ⟨d, _, dqDp _ _ (dpMono L.gr.sub _ _ D1), dqDp _ _ (dpMono L.gr.sub _ _ D2), r.1, r.2.1, k _ H B _ (Same.refl _) L (.bl _) r.2.2⟩
theorem oz_notIn (hu : X.A.units + 65 < cLine) : OpZ X (compareOp .NotIn) rNotInZ := by
  refine ⟨_, op_notInD hu, fun W σ ρ H B v u d e R Q L D1 D2 r k => ?_⟩
  cases e <;> first | exact r.elim | skip
  exact ⟨d, _, dqDp _ _ (dpMono L.gr.sub _ _ D1), dqDp _ _ (dpMono L.gr.sub _ _ D2), r.1, r.2.1, k _ H B _ (Same.refl _) L (.bl _) r.2.2⟩
/-- a < b < c: both ints' comparisons -/
theorem ev_chain {op op' : CmpOp} {rr rr' : PyData → PyData → (PyData → Prop) → Prop} (ho : OpZ X (compareOp op) rr) (ho' : OpZ X (compareOp op') rr')
    (h : Ev X W a ρ fun x => Ev X W b ρ fun y => rr x y (tst fun k => (k = true → Ev X W c ρ fun z => rr' y z R) ∧ (k = false → R (.bool false)))) (hm : lastMarks [op, op'] [b, c] = false := by with_unfolding_all rfl) : Ev X W (.Compare a [op, op'] [b, c] pos) ρ R := by
  obtain ⟨r, ho, hr⟩ := ho
  obtain ⟨r', ho', hr'⟩ := ho'
  refine ⟨fun σ H B Q L k => (pe_chain ho ho' pe_w pe_w pe_w hm).toZ ?_⟩
  refine h.run σ H B _ L fun v H1 B1 d s1 L1 D1 h2 => ?_
  refine h2.run σ H1 B1 _ L1 fun u H2 B2 d' s2 L2 D2 h3 => ?_
  refine hr W σ ρ H2 B2 v u d d' _ _ L2 (dpMono s2 _ _ D1) D2 h3 fun w H' B' x s L' D' q => ?_
  cases x <;> first | exact q.elim | skip
  rename_i kk
  refine ⟨kk, dp_bool D', ?_⟩
  cases kk with
  | true =>
    rw [if_pos rfl]
    refine (q.1 rfl).run σ H' B' _ L' fun w3 H3 B3 d3 s3 L3 D3 h4 => ?_
    exact hr' W σ ρ H3 B3 u w3 d' d3 R Q L3 (dpMono (s.trans s3) _ _ D2) D3 h4 fun w H'' B'' x s4 L'' D'' r => k w H'' B'' x ((((s1.trans s2).trans s).trans s3).trans s4) L'' D'' r
  | false =>
    rw [if_neg Bool.false_ne_true]
    exact k _ H' B' _ ((s1.trans s2).trans s) L' (.bl false) (q.2 rfl)
theorem ev_neg (h : Ev X W a ρ fun d => match d with | .int i => R (.int (-i)) | _ => False) : Ev X W (.UnaryOp .USub a pos) ρ R := by
  refine ⟨fun σ H B Q L k => (pe_un un_neg pe_w).toZ ?_⟩
  refine h.run σ H B _ L fun v H1 B1 d s1 L1 D1 h2 => ?_
  cases d <;> first | exact h2.elim | skip
  exact ⟨_, dp_int D1, k _ H1 B1 _ s1 L1 (.int _) h2⟩
/-- is None, is not None -/
def isNn : PyData → Bool
  | .none => true
  | _ => false
theorem isNn_v {K : PySem.W.Frag} {B : Hp} {v : V} {d : PyData} (h : Dq K B v d) : decide (v = .non) = isNn d := by
  cases h <;> first | rfl | simp [isNn]
theorem ev_isN {j pos'} (h : Ev X W a ρ fun d => R (.bool (isNn d))) : Ev X W (.Compare a [.Is] [.Constant .none j pos'] pos) ρ R := by
  refine ⟨fun σ H B Q L k => (pe_cmp (pc_isN pe_w)).toZ ?_⟩
  refine h.run σ H B _ L fun v H1 B1 d s1 L1 D1 h2 => ?_
  show Q (.bl (decide (v = .non))) H1
  rw [isNn_v D1]
  exact k _ H1 B1 _ s1 L1 (.bl _) h2
theorem ev_notN {j pos'} (h : Ev X W a ρ fun d => R (.bool (!isNn d))) : Ev X W (.Compare a [.IsNot] [.Constant .none j pos'] pos) ρ R := by
  refine ⟨fun σ H B Q L k => (pe_cmp (pc_notN pe_w)).toZ ?_⟩
  refine h.run σ H B _ L fun v H1 B1 d s1 L1 D1 h2 => ?_
  show Q (.bl (!decide (v = .non))) H1
  rw [isNn_v D1]
  exact k _ H1 B1 _ s1 L1 (.bl _) h2
theorem et_isN {R : Bool → Prop} {j pos'} (h : Ev X W a ρ fun d => R (isNn d)) : Et X W (.Compare a [.Is] [.Constant .none j pos'] pos) ρ R := by
  refine ⟨fun σ H B Q L k => (pt_cmp (pc_isN pe_w)).toZ ?_⟩
  refine h.run σ H B _ L fun v H1 B1 d s1 L1 D1 h2 => ?_
  show ∃ c, V.bl (decide (v = .non)) = .bl c ∧ Q c H1
  rw [isNn_v D1]
  exact ⟨_, rfl, k _ H1 B1 s1 L1 h2⟩
theorem et_notN {R : Bool → Prop} {j pos'} (h : Ev X W a ρ fun d => R (!isNn d)) : Et X W (.Compare a [.IsNot] [.Constant .none j pos'] pos) ρ R := by
  refine ⟨fun σ H B Q L k => (pt_cmp (pc_notN pe_w)).toZ ?_⟩
  refine h.run σ H B _ L fun v H1 B1 d s1 L1 D1 h2 => ?_
  show ∃ c, V.bl (!decide (v = .non)) = .bl c ∧ Q c H1
  rw [isNn_v D1]
  exact ⟨_, rfl, k _ H1 B1 s1 L1 h2⟩

/-! ### and, or, not, if -/
theorem ev_and {rest : List Expr} (h : Ev X W a ρ (tst fun k => (k = true → Ev X W (.BoolOp .And (b :: rest) pos) ρ R) ∧ (k = false → R (.bool false)))) : Ev X W (.BoolOp .And (a :: b :: rest) pos) ρ R := by
  refine ⟨fun σ H B Q L k => (pe_and pe_w pe_w).toZ ?_⟩
  refine h.run σ H B _ L fun v H1 B1 d s1 L1 D1 h2 => ?_
  cases d <;> first | exact h2.elim | skip
  rename_i kk
  refine ⟨kk, dp_bool D1, ?_⟩
  cases kk with
  | true =>
    rw [if_pos rfl]
    exact (h2.1 rfl).run σ H1 B1 _ L1 fun v H' B' d s L' D r => k v H' B' d (s1.trans s) L' D r
  | false =>
    rw [if_neg Bool.false_ne_true]
    exact k _ H1 B1 _ s1 L1 (.bl false) (h2.2 rfl)
theorem ev_or {rest : List Expr} (h : Ev X W a ρ (tst fun k => (k = true → R (.bool true)) ∧ (k = false → Ev X W (.BoolOp .Or (b :: rest) pos) ρ R))) : Ev X W (.BoolOp .Or (a :: b :: rest) pos) ρ R := by
  refine ⟨fun σ H B Q L k => (pe_or pe_w pe_w).toZ ?_⟩
  refine h.run σ H B _ L fun v H1 B1 d s1 L1 D1 h2 => ?_
  cases d <;> first | exact h2.elim | skip
  rename_i kk
  refine ⟨kk, dp_bool D1, ?_⟩
  cases kk with
  | true =>
    rw [if_pos rfl]
    exact k _ H1 B1 _ s1 L1 (.bl true) (h2.1 rfl)
  | false =>
    rw [if_neg Bool.false_ne_true]
    exact (h2.2 rfl).run σ H1 B1 _ L1 fun v H' B' d s L' D r => k v H' B' d (s1.trans s) L' D r
theorem ev_one {op} (h : Ev X W a ρ R) : Ev X W (.BoolOp op [a] pos) ρ R := ⟨fun σ H B Q L k => (pe_one pe_w).toZ (h.run σ H B Q L k)⟩
theorem ev_not (h : Ev X W a ρ (tst fun k => R (.bool (!k)))) : Ev X W (.UnaryOp .Not a pos) ρ R := by
  refine ⟨fun σ H B Q L k => (pe_not pe_w).toZ ?_⟩
  refine h.run σ H B _ L fun v H1 B1 d s1 L1 D1 h2 => ?_
  cases d <;> first | exact h2.elim | skip
  exact ⟨_, dp_bool D1, k _ H1 B1 _ s1 L1 (.bl _) h2⟩
theorem ew_and {R : Bool → Prop} {rest : List Expr} (h : Et X W a ρ fun k => (k = true → Ew X W (.BoolOp .And (b :: rest) pos) ρ R) ∧ (k = false → R false)) : Ew X W (.BoolOp .And (a :: b :: rest) pos) ρ R := by
  refine ⟨fun σ H B Q L k => (pw_and pt_w pw_w).toZ ?_⟩
  refine h.run σ H B _ L fun kk H1 B1 s1 L1 h2 => ?_
  cases kk with
  | true =>
    rw [if_pos rfl]
    exact (h2.1 rfl).run σ H1 B1 _ L1 fun v H' B' s L' r => k v H' B' (s1.trans s) L' r
  | false =>
    rw [if_neg Bool.false_ne_true]
    exact k _ H1 B1 s1 L1 (h2.2 rfl)
theorem ew_or {R : Bool → Prop} {rest : List Expr} (h : Et X W a ρ fun k => (k = true → R true) ∧ (k = false → Ew X W (.BoolOp .Or (b :: rest) pos) ρ R)) : Ew X W (.BoolOp .Or (a :: b :: rest) pos) ρ R := by
  refine ⟨fun σ H B Q L k => (pw_or pt_w pw_w).toZ ?_⟩
  refine h.run σ H B _ L fun kk H1 B1 s1 L1 h2 => ?_
  cases kk with
  | true =>
    rw [if_pos rfl]
    exact k _ H1 B1 s1 L1 (h2.1 rfl)
  | false =>
    rw [if_neg Bool.false_ne_true]
    exact (h2.2 rfl).run σ H1 B1 _ L1 fun v H' B' s L' r => k v H' B' (s1.trans s) L' r
theorem ew_and1 {R : Bool → Prop} (h : Et X W a ρ R) : Ew X W (.BoolOp .And [a] pos) ρ R := ⟨fun σ H B Q L k => (pw_and1 pt_w).toZ (h.run σ H B Q L k)⟩
theorem ew_or1 {R : Bool → Prop} (h : Et X W a ρ R) : Ew X W (.BoolOp .Or [a] pos) ρ R := ⟨fun σ H B Q L k => (pw_or1 pt_w).toZ (h.run σ H B Q L k)⟩
theorem et_ew {R : Bool → Prop} (h : Ew X W e ρ R) : Et X W e ρ R := ⟨fun σ H B Q L k => (PW.pt pw_w).toZ (h.run σ H B Q L k)⟩
theorem et_not {R : Bool → Prop} (h : Et X W a ρ fun k => R (!k)) : Et X W (.UnaryOp .Not a pos) ρ R := by
  refine ⟨fun σ H B Q L k => (pt_not pt_w).toZ ?_⟩
  exact h.run σ H B _ L fun kk H1 B1 s1 L1 h2 => k _ H1 B1 s1 L1 h2
theorem ev_if (h : Et X W c ρ fun k => (k = true → Ev X W a ρ R) ∧ (k = false → Ev X W b ρ R)) : Ev X W (.IfExp c a b pos) ρ R := by
  refine ⟨fun σ H B Q L k => (pe_ifExp pt_w pe_w pe_w).toZ ?_⟩
  refine h.run σ H B _ L fun kk H1 B1 s1 L1 h2 => ?_
  cases kk with
  | true =>
    rw [if_pos rfl]
    exact (h2.1 rfl).run σ H1 B1 _ L1 fun v H' B' d s L' D r => k v H' B' d (s1.trans s) L' D r
  | false =>
    rw [if_neg Bool.false_ne_true]
    exact (h2.2 rfl).run σ H1 B1 _ L1 fun v H' B' d s L' D r => k v H' B' d (s1.trans s) L' D r

/-! ### arguments, tuples, lists, subscripts -/
theorem ea_nil {R : List PyData → Prop} (h : R []) : Ea X W [] ρ R := ⟨fun σ H B Q L k => pa_nil.toZ (k [] H B [] (Same.refl _) L .nil h)⟩
theorem ea_cons {R : List PyData → Prop} (h : Ev X W e ρ fun d => Ea X W es ρ fun ds => R (d :: ds)) (hs : starEach (e :: es) X.env = (false, eval e X.env) :: starEach es X.env := by rfl) : Ea X W (e :: es) ρ R := by
  refine ⟨fun σ H B Q L k => (pa_cons pe_w pa_w hs).toZ ?_⟩
  refine h.run σ H B _ L fun v H1 B1 d s1 L1 D1 h2 => ?_
  refine h2.run σ H1 B1 _ L1 fun vs H2 B2 ds s2 L2 D2 h3 => ?_
  exact k _ H2 B2 _ (s1.trans s2) L2 (.cons (dpMono s2 _ _ D1) D2) h3
theorem ev_tup {x1} (h : Ea X W es ρ fun ds => ds.length ≤ sizeLine ∧ R (.tuple ds)) : Ev X W (.Tuple es x1 pos) ρ R := by
  refine ⟨fun σ H B Q L k => (pe_tup pa_w).toZ ?_⟩
  refine h.run σ H B _ L fun vs H1 B1 ds s1 L1 D1 h2 => ⟨by rw [dpAll_len D1]; exact h2.1, fun p hp => ?_⟩
  obtain ⟨s, L'⟩ := L1.fresh hp (.tup vs)
  exact k _ _ _ _ (s1.trans s) L' (.tup (SqT.of upd_same) (dpAllMono s _ _ D1)) h2.2
/-- an item: at a place that is there -/
def atD (ds : List PyData) (i : Int) : Option PyData := atI ds i
theorem atI_dq {K : PySem.W.Frag} {B : Hp} {ds : List PyData} {vs : List V} (h : DqAll K B vs ds) {i : Int} {d : PyData} (e : atI ds i = some d) : ∃ v, atI vs i = some v ∧ Dq K B v d := by
  unfold atI at e ⊢
  rw [dpAll_len h]
  cases q : ixN ds.length i with
  | none => rw [q] at e; cases e
  | some j =>
    rw [q] at e
    exact dpAll_get h (show ds[j]? = some d from e)
@[reducible] def rIxZ : PyData → PyData → (PyData → Prop) → Prop
  | .tuple ds, .int i, R => ∃ d, atI ds i = some d ∧ R d
  | .list ds, .int i, R => ∃ d, atI ds i = some d ∧ R d
  | _, _, _ => False
theorem ev_ix (h : Ev X W a ρ fun x => Ev X W b ρ fun y => rIxZ x y R) (hs : PlainIx b := by exact fun _ _ => rfl) : Ev X W (.Subscript a b pos) ρ R := by
  refine ⟨fun σ H B Q L k => (pe_ix (IxR.or ix_tup ix_list) pe_w pe_w hs).toZ ?_⟩
  refine h.run σ H B _ L fun v H1 B1 d s1 L1 D1 h2 => ?_
  refine h2.run σ H1 B1 _ L1 fun u H2 B2 d' s2 L2 D2 h3 => ?_
  have D1' := dpMono s2 _ _ D1
  cases d <;> cases d' <;> first | exact h3.elim | skip
  · rename_i ds i
    obtain ⟨x, h4, h5⟩ := h3
    obtain ⟨p, vs, rfl, h6, h7⟩ := dp_list D1'
    obtain ⟨w, h8, h9⟩ := atI_dq h7 h4
    exact .inr ⟨p, vs, i, w, rfl, dp_int D2, SqL.of (L2.gr.sub _ _ h6), h8, k w H2 B2 x (s1.trans s2) L2 h9 h5⟩
  · rename_i ds i
    obtain ⟨x, h4, h5⟩ := h3
    obtain ⟨p, vs, rfl, h6, h7⟩ := dp_tup D1'
    obtain ⟨w, h8, h9⟩ := atI_dq h7 h4
    exact .inl ⟨p, vs, i, w, rfl, dp_int D2, seqT L2.gr.sub h6, h8, k w H2 B2 x (s1.trans s2) L2 h9 h5⟩
/-- an item of a list of the frame's own -/
theorem ev_ixOwn (i : Nat) {x : Str} {ds : List PyData} {px : Pos} (hρ : ρ[i]? = some (.own ds)) (h : Ev X W b ρ fun y => rIxZ (.list ds) y R) (hN : X.N[i]? = some x := by rfl) (hv : Vis X.env.scope x := by first | exact Or.inl rfl | exact Or.inr (Or.inl rfl) | exact Or.inr (Or.inr rfl))
    (hs : PlainIx b := by exact fun _ _ => rfl) (hd : (x == ("__debug__" : Str)) = false := by decide) (hcd : (x == ("__classdict__" : Str)) = false := by decide) : Ev X W (.Subscript (.Name x px) b pos) ρ R := by
  refine ⟨fun σ H B Q L k => (pe_ix ix_list (pe_var hN hv hd hcd) pe_w hs).toZ ?_⟩
  obtain ⟨p, vs, e1, e2, e3, e4, e5⟩ := L.at' i _ hρ
  refine ⟨.ref p, e1, ?_⟩
  refine h.run σ H B _ L fun u H2 B2 d' s2 L2 D2 h3 => ?_
  cases d' <;> first | exact h3.elim | skip
  rename_i j
  obtain ⟨y, h4, h5⟩ := h3
  obtain ⟨p', vs', f1, f2, f3, f4, f5⟩ := L2.at' i _ hρ
  rw [e1] at f1
  cases f1
  obtain ⟨w, h8, h9⟩ := atI_dq f5 h4
  exact ⟨p, vs', j, w, rfl, dp_int D2, SqL.of f4, h8, k w H2 B2 y s2 L2 h9 h5⟩

/-! ### calls -/
/-- a def's promise over data, no tape handed in -/
def Con (K : PySem.W.Frag) (P : List PyData → (PyData → Prop) → Prop) : Sp := fun vs H Q _ => ∃ B ds R, Same B H ∧ DqAll K B vs ds ∧ P ds R ∧ ∀ v H' B' d, Gr K ⟨none, (0, []), B, H⟩ B' H' → Dq K B' v d → R d → Q v H'
/-- .. the tape handed in first -/
def ConT (K : PySem.W.Frag) (P : List PyData → (PyData → Prop) → Prop) : Sp := fun vs H Q _ => ∃ B ds R T ns vs', vs = .ref T :: vs' ∧ Same B H ∧ Tape ns B H T ∧ DqAll K B vs' ds ∧ P ds R ∧ ∀ v H' B' d, Gr K ⟨some T, ns, B, H⟩ B' H' → Dq K B' v d → R d → Q v H'
theorem ev_call {f : Addr} {fd : FuncData} {ps : List Str} {k : Nat} {x : Str} {p : Pos} {P : List PyData → (PyData → Prop) → Prop} (F : FnOk X.prog X.w X.K X.mg X.base CX0 k f fd ps (Con X.K P)) (hr : Room k X.A) (hm : X.mg x = some (.ref f))
    (hk : PySem.W.keepIn X.K (.ref f) = true) (hb : Binds X.K fd ps []) (h : Ea X W (e :: es) ρ fun ds => P ds R) (hg : Gl X x := by rfl)
    (hs : starEach (e :: es) X.env = (false, eval e X.env) :: starEach es X.env := by rfl) (hpl : (backTo pos (starEach es X.env)).any (·.1) = false := by rfl) (hdb : (x == ("__debug__" : Str)) = false := by decide) : Ev X W (.Call (.Name x p) (e :: es) [] pos) ρ R := by
  refine ⟨fun σ H B Q L k => PE.toZ (t := tCall (Con X.K P) [] E0 (tWa X (e :: es))) ?_ ?_⟩
  · exact pe_call F hr hg hm hk hb .nil pass0 pa_w hdb hs hpl
  · refine h.run σ H B _ L fun vs H1 B1 ds s1 L1 D1 h2 => ?_
    rw [List.append_nil]
    refine ⟨B1, ds, R, L1.gr.sub, D1, h2, fun v H' B' d g D r => ?_⟩
    obtain ⟨s, L'⟩ := L1.called (.inl rfl) g
    exact k v H' B' d (s1.trans s) L' D r
theorem ev_callT {f : Addr} {fd : FuncData} {ps : List Str} {k : Nat} {x y : Str} {p py : Pos} {P : List PyData → (PyData → Prop) → Prop} (i : Nat) (hρ : ρ[i]? = some .tape) (F : FnOk X.prog X.w X.K X.mg X.base CX0 k f fd ps (ConT X.K P)) (hr : Room k X.A) (hm : X.mg x = some (.ref f))
    (hk : PySem.W.keepIn X.K (.ref f) = true) (hb : Binds X.K fd ps []) (h : Ea X W es ρ fun ds => P ds R) (hN : X.N[i]? = some y := by rfl) (hv : Vis X.env.scope y := by first | exact Or.inl rfl | exact Or.inr (Or.inl rfl) | exact Or.inr (Or.inr rfl)) (hg : Gl X x := by rfl)
    (hs : starEach (.Name y py :: es) X.env = (false, eval (.Name y py) X.env) :: starEach es X.env := by rfl) (hpl : (backTo pos (starEach es X.env)).any (·.1) = false := by rfl) (hdb : (x == ("__debug__" : Str)) = false := by decide)
    (hd : (y == ("__debug__" : Str)) = false := by decide) (hcd : (y == ("__classdict__" : Str)) = false := by decide) : Ev X W (.Call (.Name x p) (.Name y py :: es) [] pos) ρ R := by
  refine ⟨fun σ H B Q L k => PE.toZ (t := tCall (ConT X.K P) [] E0 (tCons (tVar i) (tWa X es))) ?_ ?_⟩
  · have hpa : PA X (.Name y py :: es) (tCons (tVar i) (tWa X es)) := pa_cons (pe_var hN hv hd hcd) pa_w hs
    exact pe_call F hr hg hm hk hb .nil pass0 hpa hdb hs hpl
  · obtain ⟨T, hT, e1⟩ := L.at' i _ hρ
    refine ⟨.ref T, e1, ?_⟩
    refine h.run σ H B _ L fun vs H1 B1 ds s1 L1 D1 h2 => ?_
    show ConT X.K P ((V.ref T :: vs) ++ []) H1 Q E0
    rw [List.append_nil]
    obtain ⟨_, tp⟩ := L1.gr.tp T hT
    refine ⟨B1, ds, R, T, W.ns, vs, rfl, L1.gr.sub, tp, D1, h2, fun v H' B' d g D r => ?_⟩
    obtain ⟨s, L'⟩ := L1.called (.inr ⟨hT.symm, rfl⟩) g
    exact k v H' B' d (s1.trans s) L' D r
end
end Z

namespace Z
open PySem PySem.Spec PyProof.Rows L2
section
variable {X : Cx} {W : Wd} {ρ : List Sl} {D : Dz} {pos : Pos} {a b c e : Expr} {es : List Expr} {st : Stmt} {sts body : List Stmt}

/-! ### blocks, small statements -/
theorem ess_nil (h : D.nx ρ) : Ess X W [] ρ D := ⟨fun σ H B L => pss_nil.toZ (D := De X.K W B D) (show ∃ B' ρ, Same B B' ∧ Lay X.K W B' H σ ρ ∧ D.nx ρ from ⟨B, ρ, Same.refl _, L, h⟩)⟩
theorem ess_cons (h : Es X W st ρ { D with nx := fun r => Ess X W sts r D }) : Ess X W (st :: sts) ρ D := by
  refine ⟨fun σ H B L => (pss_cons ps_w pss_w).toZ ?_⟩
  show tWs X st { De X.K W B D with nx := fun σ' H' => tWss X sts (De X.K W B D) σ' H' } σ H
  intro pins s I
  refine thn (h.run σ H B L pins s I) fun f s' q => ?_
  cases f with
  | next => obtain ⟨σ', H', I', B', ρ', s0, L', q⟩ := q; exact ⟨σ', H', I', tWss.back s0 (q.run σ' H' B' L')⟩
  | brk => exact q
  | cont => exact q
  | ret u => exact q
theorem ess_one (h : Es X W st ρ D) : Ess X W [st] ρ D := ⟨fun σ H B L => (pss_one ps_w).toZ (h.run σ H B L)⟩
theorem es_pass (h : D.nx ρ) : Es X W (.Pass pos) ρ D := ⟨fun σ H B L => ps_pass.toZ (D := De X.K W B D) (show ∃ B' ρ, Same B B' ∧ Lay X.K W B' H σ ρ ∧ D.nx ρ from ⟨B, ρ, Same.refl _, L, h⟩)⟩
theorem es_break (h : D.bk ρ) : Es X W (.Break pos) ρ D := ⟨fun σ H B L => ps_break.toZ (D := De X.K W B D) (show ∃ B' ρ, Same B B' ∧ Lay X.K W B' H σ ρ ∧ D.bk ρ from ⟨B, ρ, Same.refl _, L, h⟩)⟩
theorem es_continue (h : D.ct ρ) : Es X W (.Continue pos) ρ D := ⟨fun σ H B L => ps_continue.toZ (D := De X.K W B D) (show ∃ B' ρ, Same B B' ∧ Lay X.K W B' H σ ρ ∧ D.ct ρ from ⟨B, ρ, Same.refl _, L, h⟩)⟩
theorem es_ret (h : Ev X W e ρ D.rt) : Es X W (.Return (some e) pos) ρ D :=
  ⟨fun σ H B L => (ps_ret pe_w).toZ (h.run σ H B _ L fun v H' B' d s L' D' r => ⟨B', d, L'.gr, D', r⟩)⟩
theorem es_expr (h : Ev X W e ρ fun _ => D.nx ρ) (hs : swapsWith e none pos.line X.env = pure false := by rfl) : Es X W (.Expr e pos) ρ D :=
  ⟨fun σ H B L => (ps_expr pe_w hs).toZ (h.run σ H B _ L fun v H' B' d s L' D' r => ⟨B', ρ, s, L', r⟩)⟩
theorem es_if (h : Et X W c ρ fun k => (k = true → Ess X W body ρ D) ∧ (k = false → Ess X W sts ρ D)) : Es X W (.If c body sts pos) ρ D := by
  refine ⟨fun σ H B L => (ps_if pt_w pss_w pss_w).toZ ?_⟩
  refine h.run σ H B _ L fun k H1 B1 s L1 q => ?_
  cases k with
  | true =>
    rw [if_pos rfl]
    exact tWss.back s ((q.1 rfl).run σ H1 B1 L1)
  | false =>
    rw [if_neg Bool.false_ne_true]
    exact tWss.back s ((q.2 rfl).run σ H1 B1 L1)
theorem es_set (i : Nat) {x : Str} {pos' : Pos} (h : Ev X W e ρ fun d => D.nx (ρ.set i (.im d))) (hN : X.N.Nodup) (hi : X.N[i]? = some x := by rfl) (hx : Loc X.env.scope x := by first | exact .inl rfl | exact .inr rfl) (hs : swapsWith e (some (.Name x pos')) pos.line X.env = pure false := by rfl)
    (hf : X.fn x = true ∨ X.env.scope.names.lookup x = some .local := by first | exact .inl rfl | exact .inr rfl | assumption) : Es X W (.Assign [.Name x pos'] e pos) ρ D :=
  ⟨fun σ H B L => (ps_set hN hi hx pe_w hs hf).toZ (h.run σ H B _ L fun v H' B' d s L' D' r => ⟨B', _, s, L'.put D', r⟩)⟩
theorem es_aug (i : Nat) {x : Str} {pos' : Pos} {dx : PyData} (hρ : ρ[i]? = some (.im dx)) (h : Ev X W e ρ fun d => match dx, d with | .int m, .int n => D.nx (ρ.set i (.im (.int (m + n)))) | _, _ => False) (hN : X.N.Nodup) (hi : X.N[i]? = some x := by rfl)
    (hx : Loc X.env.scope x := by first | exact .inl rfl | exact .inr rfl) (hf : X.fn x = true ∨ X.env.scope.names.lookup x = some .local := by first | exact .inl rfl | exact .inr rfl | assumption) : Es X W (.AugAssign (.Name x pos') .Add e pos) ρ D := by
  refine ⟨fun σ H B L => (ps_aug hN hi hx pe_w ip_add hf).toZ ?_⟩
  obtain ⟨v, h1, h2⟩ := L.at' i _ hρ
  refine ⟨v, h1, h.run σ H B _ L fun v' H' B' d s L' D' r => ?_⟩
  cases dx <;> cases d <;> first | exact r.elim | skip
  rename_i m n
  exact ⟨m, n, dp_int h2, dp_int D', B', _, s, L'.put (.int (m + n)), r⟩

/-! ### targets -/
def gW (X : Cx) (tg : Expr) : TG := fun v σ H Q => ∀ (pins : List (Addr × Obj)) (s : Shared) (u : Value), Inv X pins σ H s → RelV v u → wpAny (model X.prog X.w) X.A (assign tg X.env u) (fun _ s' => ∃ σ' H', Inv X pins σ' H' s' ∧ Q σ' H') X.xe s
def gWs (X : Cx) (ts : List Expr) : TGs := fun vs σ H Q => ∀ (pins : List (Addr × Obj)) (s : Shared) (us : List Value), Inv X pins σ H s → Vals vs us → wpAny (model X.prog X.w) X.A (assignInOrder ((assignEach ts X.env).map (·.2)) us) (fun _ s' => ∃ σ' H', Inv X pins σ' H' s' ∧ Q σ' H') X.xe s
theorem pg_w {tg : Expr} : PG X tg (gW X tg) := ⟨fun pins s σ H v u Q I r h => h pins s u I r⟩
theorem pgs_w {ts : List Expr} : PGs X ts (gWs X ts) := ⟨fun pins s σ H v u Q I r h => h pins s u I r⟩
theorem _root_.L2.PG.toZ {tg : Expr} {t : TG} (h : PG X tg t) {v σ H Q} (q : t v σ H Q) : gW X tg v σ H Q := fun pins s u I r => h.run pins s σ H v u Q I r q
theorem _root_.L2.PGs.toZ {ts : List Expr} {t : TGs} (h : PGs X ts t) {v σ H Q} (q : t v σ H Q) : gWs X ts v σ H Q := fun pins s u I r => h.run pins s σ H v u Q I r q
/-- data d goes to a target -/
structure Tg (X : Cx) (W : Wd) (tg : Expr) (d : PyData) (ρ : List Sl) (N : List Sl → Prop) : Prop where
  run : ∀ (v : V) (σ : L2.St) (H B : Hp) (Q : L2.St → Hp → Prop), Lay X.K W B H σ ρ → Dq X.K B v d → (∀ σ' H' B' ρ', Same B B' → Lay X.K W B' H' σ' ρ' → N ρ' → Q σ' H') → gW X tg v σ H Q
structure Tgs (X : Cx) (W : Wd) (ts : List Expr) (ds : List PyData) (ρ : List Sl) (N : List Sl → Prop) : Prop where
  run : ∀ (vs : List V) (σ : L2.St) (H B : Hp) (Q : L2.St → Hp → Prop), Lay X.K W B H σ ρ → DqAll X.K B vs ds → (∀ σ' H' B' ρ', Same B B' → Lay X.K W B' H' σ' ρ' → N ρ' → Q σ' H') → gWs X ts vs σ H Q
theorem tg_name (i : Nat) {x : Str} {d : PyData} {N : List Sl → Prop} (h : N (ρ.set i (.im d))) (hN : X.N.Nodup) (hi : X.N[i]? = some x := by rfl) (hx : Loc X.env.scope x := by first | exact .inl rfl | exact .inr rfl)
    (hf : X.fn x = true ∨ X.env.scope.names.lookup x = some .local := by first | exact .inl rfl | exact .inr rfl | assumption) : Tg X W (.Name x pos) d ρ N :=
  ⟨fun v σ H B Q L D' k => (pg_name hN hi hx hf).toZ (k _ _ _ _ (Same.refl _) (L.put D') h)⟩
theorem tgs_nil {N : List Sl → Prop} (h : N ρ) : Tgs X W [] [] ρ N := ⟨fun vs σ H B Q L D' k => pgs_nil.toZ (by cases D'; exact ⟨rfl, k _ _ _ _ (Same.refl _) L h⟩)⟩
theorem tgs_name (i : Nat) {x : Str} {d : PyData} {ds : List PyData} {N : List Sl → Prop} (h : Tgs X W es ds (ρ.set i (.im d)) N) (hN : X.N.Nodup) (hi : X.N[i]? = some x := by rfl) (hx : Loc X.env.scope x := by first | exact .inl rfl | exact .inr rfl)
    (hf : X.fn x = true ∨ X.env.scope.names.lookup x = some .local := by first | exact .inl rfl | exact .inr rfl | assumption)
    (hs : (assignEach (.Name x pos :: es) X.env).map (·.2) = assign (.Name x pos) X.env :: (assignEach es X.env).map (·.2) := by rfl) : Tgs X W (.Name x pos :: es) (d :: ds) ρ N := by
  refine ⟨fun vs σ H B Q L D' k => (pgs_cons (pg_name hN hi hx hf) pgs_w hs).toZ ?_⟩
  cases D' with
  | cons h1 h2 => exact ⟨_, _, rfl, h.run _ _ _ _ _ (L.put h1) h2 k⟩
theorem tg_tup {ds : List PyData} {kk : Nat} {N : List Sl → Prop} (hc : X.calm = true) (h : Tgs X W es ds ρ N) (hn : (assignEach es X.env).length = ds.length := by rfl) (hst : (assignEach es X.env).findIdx? (·.1) = none := by rfl) : Tg X W (.Tuple es kk pos) (.tuple ds) ρ N := by
  refine ⟨fun v σ H B Q L D' k => (pg_tup hc pgs_w hn hst).toZ ?_⟩
  obtain ⟨p, vs, rfl, h1, h2⟩ := dp_tup D'
  exact ⟨p, vs, rfl, seqT L.gr.sub h1, dpAll_len h2, h.run _ _ _ _ _ L h2 k⟩
/-- a, b = e -/
theorem es_asg {tg : Expr} (h : Ev X W e ρ fun d => Tg X W tg d ρ D.nx) (hs : swapsWithSole [tg] e pos.line X.env = pure false := by rfl) (hw : swappedStores [tg] e X.env = pure none := by rfl)
    (h1 : (assignEach [tg] X.env).map (·.2) = [assign tg X.env] := by rfl) : Es X W (.Assign [tg] e pos) ρ D := by
  refine ⟨fun σ H B L => (ps_asg pe_w pg_w hs hw h1).toZ ?_⟩
  exact h.run σ H B _ L fun v H' B' d s L' D' r => r.run v σ H' B' _ L' D' fun σ' H' B' ρ' s' L' q => ⟨B', ρ', s.trans s', L', q⟩
/-- a, b = x, y of plain locals -/
theorem es_par (i j : Nat) {x y : Str} {px py pt : Pos} {kt k2 pt2} (h : Ea X W [a, b] ρ fun ds => match ds with | [d, e] => D.nx ((ρ.set i (.im d)).set j (.im e)) | _ => False) (hc : X.calm = true) (hN : X.N.Nodup) (hi : X.N[i]? = some x := by rfl) (hj : X.N[j]? = some y := by rfl) (hij : i ≠ j := by decide)
    (hx : X.env.scope.names.lookup x = some .local := by rfl) (hy : X.env.scope.names.lookup y = some .local := by rfl)
    (hw : swappedStores [.Tuple [.Name x px, .Name y py] kt pt] (.Tuple [a, b] k2 pt2) X.env = pure (some [x, y]) := by rfl)
    (hs : swapsWithSole [.Tuple [.Name x px, .Name y py] kt pt] (.Tuple [a, b] k2 pt2) pos.line X.env = pure false := by rfl) :
    Es X W (.Assign [.Tuple [.Name x px, .Name y py] kt pt] (.Tuple [a, b] k2 pt2) pos) ρ D := by
  refine ⟨fun σ H B L => (ps_par hc hN hi hj hij hx hy pa_w hw hs).toZ ?_⟩
  refine h.run σ H B _ L fun vs H' B' ds s L' D' r => ?_
  cases D' with
  | nil => exact r.elim
  | cons h1 h2 =>
    cases h2 with
    | nil => exact r.elim
    | cons h3 h4 =>
      cases h4 with
      | nil => exact ⟨_, _, rfl, B', _, s, (L'.put h1).put h3, r⟩
      | cons _ _ => exact r.elim

/-! ### lists of the frame's own -/
theorem Lay.own (L : Lay X.K W B H σ ρ) {i : Nat} {p : Addr} {vs : List V} {ds : List PyData} (h1 : B p = none) (h2 : W.H0 p = none) (h3 : ∀ (j : Nat) (sl : Sl), ρ[j]? = some sl → sl.ow = true → σ[j]? ≠ some (some (.ref p))) (h4 : H p = some (.lst vs)) (h5 : DqAll X.K B vs ds) :
    Lay X.K W B H (σ.set i (some (.ref p))) (ρ.set i (.own ds)) := by
  refine ⟨L.gr, by simp [L.len], fun j sl e => ?_, fun j k s t hne e1 e2 o1 o2 => ?_⟩
  · by_cases hj : i = j
    · subst hj
      have hl : i < ρ.length := by
        have := (List.getElem?_eq_some_iff.mp e).1
        simpa using this
      rw [List.getElem?_set_self hl] at e
      cases e
      rw [List.getElem?_set_self (by rw [L.len]; exact hl)]
      exact ⟨p, vs, rfl, h1, h2, h4, h5⟩
    · rw [List.getElem?_set_ne hj] at e ⊢
      exact L.at' j sl e
  · by_cases hj : i = j
    · subst hj
      have hl : i < ρ.length := by
        have := (List.getElem?_eq_some_iff.mp e1).1
        simpa using this
      rw [List.getElem?_set_self (by rw [L.len]; exact hl)]
      rw [List.getElem?_set_ne hne] at e2 ⊢
      exact fun q => h3 k t e2 o2 q.symm
    · by_cases hk : i = k
      · subst hk
        have hl : i < ρ.length := by
          have := (List.getElem?_eq_some_iff.mp e2).1
          simpa using this
        rw [List.getElem?_set_self (by rw [L.len]; exact hl)]
        rw [List.getElem?_set_ne hj] at e1 ⊢
        exact h3 j s e1 o1
      · rw [List.getElem?_set_ne hj] at e1 ⊢
        rw [List.getElem?_set_ne hk] at e2 ⊢
        exact L.dis j k s t hne e1 e2 o1 o2
/-- an own list's content changes -/
theorem Lay.chg (L : Lay X.K W B H σ ρ) {i : Nat} {p : Addr} {vs : List V} {ds ds0 : List PyData} (hρ : ρ[i]? = some (.own ds0)) (hσ : σ[i]? = some (some (.ref p))) (h5 : DqAll X.K B vs ds) : Lay X.K W B (upd H p (.lst vs)) σ (ρ.set i (.own ds)) := by
  obtain ⟨p', vs0, e1, e2, e3, e4, e5⟩ := L.at' i _ hρ
  rw [hσ] at e1
  cases e1
  have hl : i < ρ.length := (List.getElem?_eq_some_iff.mp hρ).1
  have hT : ∀ T, W.T = some T → T ≠ p := fun T h q => by
    subst q
    exact (L.gr.tp T h).1 e3
  refine ⟨⟨same_right L.gr.sub e2, L.gr.base, L.gr.new, fun a o h1 h2 => ?_, fun T h => ?_⟩, by simp [L.len], fun j sl e => ?_, fun j k s t hne f1 f2 o1 o2 => ?_⟩
  · have ha : a ≠ p := by
      rintro rfl
      rw [e3] at h1
      cases h1
    rw [upd_ne ha]
    exact L.gr.keep a o h1 h2
  · obtain ⟨t1, t2⟩ := L.gr.tp T h
    exact ⟨t1, t2.mono (Same.refl _) t2.1 fun o ho => by rw [upd_ne (hT T h)]; exact ho⟩
  · by_cases hj : i = j
    · subst hj
      rw [List.getElem?_set_self hl] at e
      cases e
      exact ⟨p, vs, hσ, e2, e3, upd_same, h5⟩
    · rw [List.getElem?_set_ne hj] at e
      refine (L.at' j sl e).grow (Same.refl _) fun a o g1 g2 g3 _ g5 => ⟨g3, ?_⟩
      have ha : a ≠ p := by
        rintro rfl
        exact L.dis i j _ sl hj hρ e rfl g2 (hσ.trans g1.symm)
      rw [upd_ne ha]
      exact g5
  · have q1 : ∃ s', ρ[j]? = some s' ∧ s'.ow = true := by
      by_cases hj : i = j
      · subst hj
        exact ⟨_, hρ, rfl⟩
      · rw [List.getElem?_set_ne hj] at f1
        exact ⟨s, f1, o1⟩
    have q2 : ∃ s', ρ[k]? = some s' ∧ s'.ow = true := by
      by_cases hj : i = k
      · subst hj
        exact ⟨_, hρ, rfl⟩
      · rw [List.getElem?_set_ne hj] at f2
        exact ⟨t, f2, o2⟩
    obtain ⟨s', g1, g2⟩ := q1
    obtain ⟨t', g3, g4⟩ := q2
    exact L.dis j k s' t' hne g1 g3 g2 g4
/-- an own list is plain from now on -/
theorem Lay.frz (L : Lay X.K W B H σ ρ) {i : Nat} {ds : List PyData} (hρ : ρ[i]? = some (.own ds)) : ∃ B', Same B B' ∧ Lay X.K W B' H σ (ρ.set i (.im (.list ds))) := by
  obtain ⟨p, vs, e1, e2, e3, e4, e5⟩ := L.at' i _ hρ
  have hl : i < ρ.length := (List.getElem?_eq_some_iff.mp hρ).1
  have s : Same B (upd B p (.lst vs)) := same_new e2
  have hT : ∀ T, W.T = some T → T ≠ p := fun T h q => by
    subst q
    exact (L.gr.tp T h).1 e3
  refine ⟨upd B p (.lst vs), s, ⟨⟨fun b o h => ?_, L.gr.base.trans s, fun a h1 h2 => ?_, L.gr.keep, fun T h => ?_⟩, by simp [L.len], fun j sl e => ?_, fun j k s t hne f1 f2 o1 o2 => ?_⟩⟩
  · by_cases hb : b = p
    · subst hb
      rw [upd_same] at h
      rw [e4]
      exact h
    · rw [upd_ne hb] at h
      exact L.gr.sub b o h
  · have ha : a ≠ p := by
      rintro rfl
      exact h1 e3
    rw [upd_ne ha]
    exact L.gr.new a h1 h2
  · obtain ⟨t1, t2⟩ := L.gr.tp T h
    exact ⟨t1, t2.mono s (by rw [upd_ne (hT T h)]; exact t2.1) fun o ho => ho⟩
  · by_cases hj : i = j
    · subst hj
      rw [List.getElem?_set_self hl] at e
      cases e
      exact ⟨.ref p, e1, .lst upd_same (dpAllMono s _ _ e5)⟩
    · rw [List.getElem?_set_ne hj] at e
      refine (L.at' j sl e).grow s fun a o g1 g2 g3 _ g5 => ?_
      have ha : a ≠ p := by
        rintro rfl
        exact L.dis i j _ sl hj hρ e rfl g2 (e1.trans g1.symm)
      rw [upd_ne ha]
      exact ⟨g3, g5⟩
  · have q1 : j ≠ i := by
      rintro rfl
      rw [List.getElem?_set_self hl] at f1
      cases f1
      cases o1
    have q2 : k ≠ i := by
      rintro rfl
      rw [List.getElem?_set_self hl] at f2
      cases f2
      cases o2
    rw [List.getElem?_set_ne q1.symm] at f1
    rw [List.getElem?_set_ne q2.symm] at f2
    exact L.dis j k s t hne f1 f2 o1 o2
/-- from here on the list in slot i is plain -/
theorem ess_frz (i : Nat) {ds : List PyData} (hρ : ρ[i]? = some (.own ds)) (h : Ess X W sts (ρ.set i (.im (.list ds))) D) : Ess X W sts ρ D := by
  refine ⟨fun σ H B L => ?_⟩
  obtain ⟨B', s, L'⟩ := L.frz hρ
  exact tWss.back s (h.run σ H B' L')
theorem es_frz (i : Nat) {ds : List PyData} (hρ : ρ[i]? = some (.own ds)) (h : Es X W st (ρ.set i (.im (.list ds))) D) : Es X W st ρ D := by
  refine ⟨fun σ H B L => ?_⟩
  obtain ⟨B', s, L'⟩ := L.frz hρ
  exact tWs.back s (h.run σ H B' L')
/-- a fresh list as a value -/
theorem ev_el {R : PyData → Prop} (h : El X W e ρ fun ds => R (.list ds)) : Ev X W e ρ R := by
  refine ⟨fun σ H B Q L k => h.run σ H B Q L fun p vs H' B' ds s L' h1 h2 h3 h4 h5 r => ?_⟩
  have s' : Same B' (upd B' p (.lst vs)) := same_new h1
  refine k _ H' (upd B' p (.lst vs)) (.list ds) (s.trans s') ⟨⟨fun b o q => ?_, L'.gr.base.trans s', fun a q1 q2 => ?_, L'.gr.keep, fun T q => ?_⟩, L'.len, fun i sl q => (L'.at' i sl q).grow s' fun a o g1 g2 g3 _ g5 => ?_, L'.dis⟩ (.lst upd_same (dpAllMono s' _ _ h5)) r
  · by_cases hb : b = p
    · subst hb
      rw [upd_same] at q
      rw [h4]
      exact q
    · rw [upd_ne hb] at q
      exact L'.gr.sub b o q
  · have ha : a ≠ p := by
      rintro rfl
      exact q1 h2
    rw [upd_ne ha]
    exact L'.gr.new a q1 q2
  · obtain ⟨t1, t2⟩ := L'.gr.tp T q
    have ht : T ≠ p := by
      rintro rfl
      exact t1 h2
    exact ⟨t1, t2.mono s' (by rw [upd_ne ht]; exact t2.1) fun o ho => ho⟩
  · have ha : a ≠ p := by
      rintro rfl
      exact h3 i sl q g2 g1
    rw [upd_ne ha]
    exact ⟨g3, g5⟩
theorem fresh_own {K : PySem.W.Frag} {B H : Hp} {σ : L2.St} (L : Lay K W B H σ ρ) {p : Addr} (hp : H p = none) (ds : List PyData) (vs : List V) (h5 : DqAll K B vs ds) :
    Lay K W B (upd H p (.lst vs)) σ ρ ∧ B p = none ∧ W.H0 p = none ∧ (∀ (j : Nat) (sl : Sl), ρ[j]? = some sl → sl.ow = true → σ[j]? ≠ some (some (.ref p))) ∧ (upd H p (.lst vs)) p = some (.lst vs) := by
  have bp : B p = none := Same.free L.gr.sub hp
  have h0 : W.H0 p = none := by
    cases q : W.H0 p with
    | none => rfl
    | some u =>
      by_cases ht : W.T = some p
      · obtain ⟨_, t⟩ := L.gr.tp p ht
        obtain ⟨_, i, c, e, _⟩ := t
        rw [e] at hp
        cases hp
      · have := L.gr.keep p u q ht
        rw [hp] at this
        cases this
  have np : ∀ a u, H a = some u → a ≠ p := fun a u e => ne_of_none e hp
  refine ⟨⟨⟨same_right L.gr.sub bp, L.gr.base, L.gr.new, fun a o h1 h2 => ?_, fun T h => ?_⟩, L.len, fun i sl e => (L.at' i sl e).grow (Same.refl _) fun a u _ _ h2 _ h4 => ?_, L.dis⟩, bp, h0, fun j sl e1 e2 q => ?_, upd_same⟩
  · have := L.gr.keep a o h1 h2
    rw [upd_ne (np a o this)]
    exact this
  · obtain ⟨t1, t2⟩ := L.gr.tp T h
    obtain ⟨_, i, c, e, _⟩ := id t2
    exact ⟨t1, t2.mono (Same.refl _) t2.1 fun o ho => by rw [upd_ne (np T _ e)]; exact ho⟩
  · rw [upd_ne (np a u h4)]
    exact ⟨h2, h4⟩
  · obtain ⟨a, o, g1, g2, g3, g4, _⟩ := (L.at' j sl e1).owner e2
    rw [q] at g1
    cases g1
    rw [hp] at g4
    cases g4
theorem el_lst {R : List PyData → Prop} (h : Ea X W es ρ fun ds => ds.length ≤ sizeLine ∧ R ds) : El X W (.List es pos) ρ R := by
  refine ⟨fun σ H B Q L k => (pe_lst pa_w).toZ ?_⟩
  refine h.run σ H B _ L fun vs H1 B1 ds s1 L1 D1 h2 => ⟨by rw [dpAll_len D1]; exact h2.1, fun p hp => ?_⟩
  obtain ⟨L', q1, q2, q3, q4⟩ := fresh_own L1 hp ds vs D1
  exact k p vs _ B1 ds s1 L' q1 q2 q3 q4 D1 h2.2
/-- x = a fresh list -/
theorem es_setL (i : Nat) {x : Str} {pos' : Pos} (h : El X W e ρ fun ds => D.nx (ρ.set i (.own ds))) (hN : X.N.Nodup) (hi : X.N[i]? = some x := by rfl) (hx : Loc X.env.scope x := by first | exact .inl rfl | exact .inr rfl) (hs : swapsWith e (some (.Name x pos')) pos.line X.env = pure false := by rfl)
    (hf : X.fn x = true ∨ X.env.scope.names.lookup x = some .local := by first | exact .inl rfl | exact .inr rfl | assumption) : Es X W (.Assign [.Name x pos'] e pos) ρ D :=
  ⟨fun σ H B L => (ps_set hN hi hx pe_w hs hf).toZ (h.run σ H B _ L fun p vs H' B' ds s L' h1 h2 h3 h4 h5 r => ⟨B', _, s, L'.own h1 h2 h3 h4 h5, r⟩)⟩
/-- x.append(e) -/
theorem es_append (i : Nat) {x : Str} {px pa cp : Pos} {ds : List PyData} (hρ : ρ[i]? = some (.own ds)) (h : Ev X W e ρ fun d => ds.length < sizeLine ∧ D.nx (ρ.set i (.own (ds ++ [d])))) (hN : X.N[i]? = some x := by rfl) (hv : Vis X.env.scope x := by first | exact Or.inl rfl | exact Or.inr (Or.inl rfl) | exact Or.inr (Or.inr rfl))
    (hs : swapsWith (.Call (.Attribute (.Name x px) "append" pa) [e] [] cp) none pos.line X.env = pure false := by rfl) (hd : (x == ("__debug__" : Str)) = false := by decide) (hcd : (x == ("__classdict__" : Str)) = false := by decide)
    (hbase : attributeBase (.Name x px) "append" X.env (eval (.Name x px) X.env) = eval (.Name x px) X.env := by rfl)
    (hfew : ((backTo cp (starEach [e] X.env)).all (fun x => !x.1) && (backToKw cp (keywordEach [] X.env)).all (fun x => x.1.isSome) && decide (([e] : List Expr).length + ([] : List Keyword).length + (if ([] : List Keyword).isEmpty then 0 else 1) < 30)) = true := by rfl)
    (hline : (pa.endLine == cp.line) = true := by rfl) (hse : starEach [e] X.env = (false, eval e X.env) :: starEach [] X.env := by rfl) (hpl : (backTo cp (starEach [] X.env)).any (·.1) = false := by rfl) :
    Es X W (.Expr (.Call (.Attribute (.Name x px) "append" pa) [e] [] cp) pos) ρ D := by
  refine ⟨fun σ H B L => (ps_expr (pe_bm PySem.F.plainAttrs_list PySem.F.slot_list_append PySem.F.type_list_append mt_append (pe_var hN hv hd hcd) (pa_cons pe_w pa_nil hse) hbase hfew hline hse hpl) hs).toZ ?_⟩
  obtain ⟨p, vs, e1, e2, e3, e4, e5⟩ := L.at' i _ hρ
  refine ⟨.ref p, e1, .inl ⟨rfl, vs, SqL.of e4⟩, ?_⟩
  refine h.run σ H B _ L fun v H2 B2 d s2 L2 D2 h3 => ?_
  obtain ⟨p', vs', f1, f2, f3, f4, f5⟩ := L2.at' i _ hρ
  rw [e1] at f1
  cases f1
  exact ⟨p, vs', v, rfl, rfl, f4, by rw [dpAll_len f5]; exact h3.1, B2, _, s2, L2.chg hρ e1 (dpAll_app f5 (.cons D2 .nil)), h3.2⟩
/-- x[k] = v of an own list -/
theorem es_sub (i : Nat) {x : Str} {px p2 : Pos} {ds : List PyData} (hρ : ρ[i]? = some (.own ds)) (h : Ev X W e ρ fun d => Ev X W b ρ fun y => match y with | .int z => ∃ j, ixN ds.length z = some j ∧ D.nx (ρ.set i (.own (ds.set j d))) | _ => False) (hN : X.N[i]? = some x := by rfl)
    (hv : Vis X.env.scope x := by first | exact Or.inl rfl | exact Or.inr (Or.inl rfl) | exact Or.inr (Or.inr rfl)) (hd : (x == ("__debug__" : Str)) = false := by decide) (hcd : (x == ("__classdict__" : Str)) = false := by decide)
    (ha : ∀ v, assign (.Subscript (.Name x px) b p2) X.env v = (do
      let ov ← holding [v] (eval (.Name x px) X.env)
      let iv ← holding [v, ov] (eval b X.env)
      standAt p2
      holding [v, ov, iv] (setItem ov iv v)
      release [v, ov, iv] []) := by intro _; rfl) (hs : swapsWithSole [.Subscript (.Name x px) b p2] e pos.line X.env = pure false := by rfl) (hw : swappedStores [.Subscript (.Name x px) b p2] e X.env = pure none := by rfl)
    (h1 : (assignEach [.Subscript (.Name x px) b p2] X.env).map (·.2) = [assign (.Subscript (.Name x px) b p2) X.env] := by rfl) : Es X W (.Assign [.Subscript (.Name x px) b p2] e pos) ρ D := by
  refine ⟨fun σ H B L => (ps_asg pe_w (pg_sub (pe_var hN hv hd hcd) pe_w set_list ha) hs hw h1).toZ ?_⟩
  refine h.run σ H B _ L fun v H1 B1 d s1 L1 D1 h2 => ?_
  obtain ⟨p, vs, e1, e2, e3, e4, e5⟩ := L1.at' i _ hρ
  refine ⟨.ref p, e1, ?_⟩
  refine h2.run σ H1 B1 _ L1 fun u H2 B2 y s2 L2 D2 h3 => ?_
  cases y <;> first | exact h3.elim | skip
  rename_i z
  obtain ⟨j, hj, hn⟩ := h3
  obtain ⟨p', vs', f1, f2, f3, f4, f5⟩ := L2.at' i _ hρ
  rw [e1] at f1
  cases f1
  exact ⟨p, vs', z, j, rfl, dp_int D2, f4, by rw [dpAll_len f5]; exact hj, B2, _, s1.trans s2, L2.chg hρ e1 (dpAll_set (dpMono s2 _ _ D1) j f5), hn⟩

/-! ### while -/
theorem es_while (P : Nat → List Sl → Prop) (m : Nat) (h0 : P m ρ) (hp : PassesOwn (model X.prog X.w) X.A X.env X.xe)
    (h : ∀ m ρ, P m ρ → Et X W c ρ fun k => (k = true → Ess X W body ρ { nx := fun r => ∃ m', m' < m ∧ P m' r, rt := D.rt, bk := D.nx, ct := fun r => ∃ m', m' < m ∧ P m' r }) ∧ (k = false → D.nx ρ)) : Es X W (.While c body [] pos) ρ D := by
  refine ⟨fun σ H B L => (ps_while hp pt_w pss_w).toZ ?_⟩
  refine ⟨fun m σ H => ∃ B' ρ, Same B B' ∧ Lay X.K W B' H σ ρ ∧ P m ρ, ⟨m, B, ρ, Same.refl _, L, h0⟩, ?_⟩
  rintro m σ H ⟨B', ρ, sB, L, hP⟩
  refine (h m ρ hP).run σ H B' _ L fun k H1 B1 s L1 q => ?_
  cases k with
  | true =>
    rw [if_pos rfl]
    refine ⟨fun σ' H' => ∃ B' ρ, Same B B' ∧ Lay X.K W B' H' σ' ρ ∧ ∃ m', m' < m ∧ P m' ρ, fun σ' H' ⟨B', ρ, s', L, m', hm, hP⟩ => ⟨m', hm, B', ρ, s', L, hP⟩, ?_⟩
    exact tWss.back (sB.trans s) ((q.1 rfl).run σ H1 B1 L1)
  | false =>
    rw [if_neg Bool.false_ne_true]
    exact ⟨B1, ρ, sB.trans s, L1, q.2 rfl⟩

/-! ### what is walked -/
structure WalkZ (K : PySem.W.Frag) (J : It) (ds : List PyData) (B : Hp) : Prop where
  go : ∀ i B' H', Same B B' → Same B' H' → i < ds.length → J.go i H'
  stop : ∀ B' H', Same B B' → Same B' H' → J.stop ds.length H'
  yld : ∀ i B' H' x H'' (W : Wd) (σ : L2.St) (ρ : List Sl), Same B B' → Lay K W B' H' σ ρ → J.yld i H' x H'' → i < ds.length → ∃ d B'', ds[i]? = some d ∧ Same B' B'' ∧ Lay K W B'' H'' σ ρ ∧ Dq K B'' x d ∧ (∀ b o, H' b = some o → H'' b = some o) ∧ ∀ b o, H' b = some o → B' b = none → B'' b = none
def iW (X : Cx) (tg iter : Expr) : TI := fun σ H R => ∀ (pins : List (Addr × Obj)) (s : Shared), Inv X pins σ H s → wpAny (model X.prog X.w) X.A (eval iter X.env) (fun v s1 => wpAny (model X.prog X.w) X.A (pyIter v) (PIE X pins σ tg R) X.xe s1) X.xe s
theorem pi_w {tg iter : Expr} : PI X tg iter (iW X tg iter) := ⟨fun pins s σ H R I h => h pins s I⟩
theorem _root_.L2.PI.toZ {tg iter : Expr} {t : TI} (h : PI X tg iter t) {σ H R} (q : t σ H R) : iW X tg iter σ H R := fun pins s I => h.run pins s σ H R I q
structure Ei (X : Cx) (W : Wd) (tg iter : Expr) (ρ : List Sl) (R : List PyData → Prop) : Prop where
  run : ∀ (σ : L2.St) (H B : Hp) (Q : It → Hp → Prop), Lay X.K W B H σ ρ → (∀ J H' B' ds, Same B B' → Lay X.K W B' H' σ ρ → WalkZ X.K J ds B' → R ds → Q J H') → iW X tg iter σ H Q
theorem walk_list {K : PySem.W.Frag} {p : Addr} {vs : List V} {ds : List PyData} {B : Hp} (h : B p = some (.lst vs)) (hd : DqAll K B vs ds) : WalkZ K (Itl K p) ds B where
  go := fun i B' H' s s' hi => by
    rw [← dpAll_len hd] at hi
    exact ⟨vs, vs[i], SqL.of (s' _ _ (s _ _ h)), by simp [hi]⟩
  stop := fun B' H' s s' => ⟨vs, SqL.of (s' _ _ (s _ _ h)), by rw [dpAll_len hd]; exact Nat.le_refl _⟩
  yld := fun i B' H' x H'' W σ ρ s L hy hi => by
    obtain ⟨e, hx⟩ := hy
    subst e
    have hx := hx vs (SqL.of (L.gr.sub _ _ (s _ _ h)))
    obtain ⟨v, h1, h2⟩ := dpAll_get hd (List.getElem?_eq_getElem hi)
    rw [hx] at h1
    cases h1
    exact ⟨_, B', List.getElem?_eq_getElem hi, Same.refl _, L, dpMono s _ _ h2, fun _ _ q => q, fun _ _ _ q => q⟩
theorem walk_tup {K : PySem.W.Frag} {p : Addr} {vs : List V} {ds : List PyData} {B : Hp} (h : SqT K B p vs) (hd : DqAll K B vs ds) : WalkZ K (Itt K p) ds B where
  go := fun i B' H' s s' hi => by
    rw [← dpAll_len hd] at hi
    exact ⟨vs, vs[i], seqT (s.trans s') h, by simp [hi]⟩
  stop := fun B' H' s s' => ⟨vs, seqT (s.trans s') h, by rw [dpAll_len hd]; exact Nat.le_refl _⟩
  yld := fun i B' H' x H'' W σ ρ s L hy hi => by
    obtain ⟨e, hx⟩ := hy
    subst e
    have hx := hx vs (seqT (s.trans L.gr.sub) h)
    obtain ⟨v, h1, h2⟩ := dpAll_get hd (List.getElem?_eq_getElem hi)
    rw [hx] at h1
    cases h1
    exact ⟨_, B', List.getElem?_eq_getElem hi, Same.refl _, L, dpMono s _ _ h2, fun _ _ q => q, fun _ _ _ q => q⟩
/-- lo, lo + 1, .. -/
def rngD (lo : Int) (n : Nat) : List PyData := (List.range n).map fun i => .int (lo + (i : Nat))
theorem rngD_len {lo : Int} {n : Nat} : (rngD lo n).length = n := by simp [rngD]
theorem rngD_get {lo : Int} {n i : Nat} (h : i < n) : (rngD lo n)[i]? = some (.int (lo + (i : Nat))) := by simp [rngD, h]
theorem walk_rng {K : PySem.W.Frag} {lo : Int} {n : Nat} {B : Hp} : WalkZ K (Itr lo n) (rngD lo n) B where
  go := fun i B' H' s s' hi => by
    rw [rngD_len] at hi
    exact hi
  stop := fun B' H' s s' => by
    show n ≤ (rngD lo n).length
    rw [rngD_len]
    exact Nat.le_refl _
  yld := fun i B' H' x H'' W σ ρ s L hy hi => by
    obtain ⟨e, hx⟩ := hy
    subst e
    rw [rngD_len] at hi
    exact ⟨_, B', rngD_get hi, Same.refl _, L, by rw [hx]; exact .int _, fun _ _ q => q, fun _ _ _ q => q⟩
theorem ei_list {tg : Expr} {R : List PyData → Prop} (h : Ev X W e ρ fun d => match d with | .list ds => R ds | _ => False) : Ei X W tg e ρ R := by
  refine ⟨fun σ H B Q L k => (pi_list pe_w).toZ ?_⟩
  refine h.run σ H B _ L fun v H1 B1 d s1 L1 D1 h2 => ?_
  cases d <;> first | exact h2.elim | skip
  obtain ⟨p, vs, rfl, h3, h4⟩ := dp_list D1
  exact ⟨p, rfl, ⟨vs, SqL.of (L1.gr.sub _ _ h3)⟩, k _ H1 B1 _ s1 L1 (walk_list h3 h4) h2⟩
theorem ei_tup {tg : Expr} {R : List PyData → Prop} (h : Ev X W e ρ fun d => match d with | .tuple ds => R ds | _ => False) : Ei X W tg e ρ R := by
  refine ⟨fun σ H B Q L k => (pi_tup pe_w).toZ ?_⟩
  refine h.run σ H B _ L fun v H1 B1 d s1 L1 D1 h2 => ?_
  cases d <;> first | exact h2.elim | skip
  obtain ⟨p, vs, rfl, h3, h4⟩ := dp_tup D1
  exact ⟨p, rfl, ⟨vs, seqT L1.gr.sub h3⟩, k _ H1 B1 _ s1 L1 (walk_tup h3 h4) h2⟩
theorem ei_range1 {tg : Expr} {p : Pos} {R : List PyData → Prop} (hm : X.mg "range" = none) (h : Ev X W a ρ fun d => match d with | .int j => -(2 ^ 62) ≤ j ∧ j < 2 ^ 62 ∧ R (rngD 0 j.toNat) | _ => False) (hg : Gl X "range" := by rfl)
    (hs : starEach [a] X.env = [(false, eval a X.env)] := by rfl) : Ei X W tg (.Call (.Name "range" p) [a] [] pos) ρ R := by
  refine ⟨fun σ H B Q L k => (pi_range1 hg hm (pa_cons pe_w pa_nil hs) hs).toZ ?_⟩
  refine h.run σ H B _ L fun v H1 B1 d s1 L1 D1 h2 => ?_
  cases d <;> first | exact h2.elim | skip
  rename_i j
  cases dp_int D1
  exact ⟨j, rfl, h2.1, h2.2.1, k _ H1 B1 _ s1 L1 walk_rng h2.2.2⟩
theorem ei_range2 {tg : Expr} {p : Pos} {R : List PyData → Prop} (hm : X.mg "range" = none)
    (h : Ev X W a ρ fun d => Ev X W b ρ fun d' => match d, d' with | .int i, .int j => (-(2 ^ 62) ≤ i ∧ i < 2 ^ 62 ∧ -(2 ^ 62) ≤ j ∧ j < 2 ^ 62) ∧ R (rngD i (j - i).toNat) | _, _ => False) (hg : Gl X "range" := by rfl)
    (hs : starEach [a, b] X.env = [(false, eval a X.env), (false, eval b X.env)] := by rfl) (hs2 : starEach [b] X.env = [(false, eval b X.env)] := by rfl) (hs3 : starEach [a, b] X.env = (false, eval a X.env) :: starEach [b] X.env := by rfl) : Ei X W tg (.Call (.Name "range" p) [a, b] [] pos) ρ R := by
  refine ⟨fun σ H B Q L k => (pi_range2 hg hm (pa_cons pe_w (pa_cons pe_w pa_nil hs2) hs3) hs hs2).toZ ?_⟩
  refine h.run σ H B _ L fun v H1 B1 d s1 L1 D1 h2 => ?_
  refine h2.run σ H1 B1 _ L1 fun u H2 B2 d' s2 L2 D2 h3 => ?_
  cases d <;> cases d' <;> first | exact h3.elim | skip
  rename_i i j
  cases dp_int D1
  cases dp_int D2
  exact ⟨i, j, rfl, h3.1, k _ H2 B2 _ (s1.trans s2) L2 walk_rng h3.2⟩
theorem es_for {tg iter : Expr} (hp : PassesOwn (model X.prog X.w) X.A X.env X.xe) (hc : X.calm = true)
    (h : Ei X W tg iter ρ fun ds => ∃ P : Nat → List Sl → Prop, P 0 ρ ∧ (∀ i d ρ1, ds[i]? = some d → P i ρ1 → Tg X W tg d ρ1 fun ρ2 => Ess X W body ρ2 { nx := P (i + 1), rt := D.rt, bk := D.nx, ct := P (i + 1) }) ∧ ∀ ρ1, P ds.length ρ1 → D.nx ρ1)
    (hs : ∀ x, foldedSetIterable iter X.env x = pure x := by intro _; rfl) : Es X W (.For tg iter body [] pos) ρ D := by
  refine ⟨fun σ H B L => (ps_for hp hc pi_w pg_w pss_w hs).toZ ?_⟩
  refine h.run σ H B _ L fun J H1 B1 ds s1 L1 wk hP => ?_
  obtain ⟨P, p0, turn, fin⟩ := hP
  refine ⟨fun i m σ H => m = ds.length - i ∧ i ≤ ds.length ∧ ∃ B' ρ, Same B1 B' ∧ Lay X.K W B' H σ ρ ∧ P i ρ, ⟨_, rfl, Nat.zero_le _, B1, ρ, Same.refl _, L1, p0⟩, ?_⟩
  rintro i m σ H ⟨rfl, hi, B', ρ1, sB, L, hPi⟩
  by_cases hlt : i < ds.length
  · refine .inr ⟨wk.go i B' H sB L.gr.sub hlt, fun σ' H' => ∃ B'' ρ', Same B B'' ∧ Lay X.K W B'' H' σ' ρ' ∧ Same B1 B'' ∧ P (i + 1) ρ', fun σ' H' ⟨B'', ρ', _, L', sB', hP'⟩ => ⟨ds.length - (i + 1), by omega, rfl, hlt, B'', ρ', sB', L', hP'⟩, fun x H' hy => ?_⟩
    obtain ⟨d, B'', hd, s'', L'', Dx, _⟩ := wk.yld i B' H x H' W σ ρ1 sB L hy hlt
    refine (turn i d ρ1 hd hPi).run x σ H' B'' _ L'' Dx fun σ2 H2 B2 ρ2 s2 L2 hb => ?_
    intro pins s0 I
    have sb : Same B1 B2 := (sB.trans s'').trans s2
    refine thn (hb.run σ2 H2 B2 L2 pins s0 I) fun f s' q => ?_
    cases f with
    | next => obtain ⟨σ', H', I', B3, ρ', s3, L3, q⟩ := q; exact ⟨σ', H', I', B3, ρ', s1.trans (sb.trans s3), L3, sb.trans s3, q⟩
    | brk => obtain ⟨σ', H', I', B3, ρ', s3, L3, q⟩ := q; exact ⟨σ', H', I', B3, ρ', s1.trans (sb.trans s3), L3, q⟩
    | cont => obtain ⟨σ', H', I', B3, ρ', s3, L3, q⟩ := q; exact ⟨σ', H', I', B3, ρ', s1.trans (sb.trans s3), L3, sb.trans s3, q⟩
    | ret u => exact q
  · have e : i = ds.length := by omega
    subst e
    exact .inl ⟨wk.stop B' H sB L.gr.sub, B', ρ1, s1.trans sB, L, fin ρ1 hPi⟩
end
end Z

namespace Z
open PySem PySem.Spec PyProof.Rows L2

/-! ### comprehensions -/
def disown (ρ : List Sl) : List Sl := ρ.map fun sl => if sl.ow then .no else sl
def setZ (ρ : List Sl) : List Nat → List PyData → List Sl
  | j :: js, d :: ds => setZ (ρ.set j (.im d)) js ds
  | _, _ => ρ
def setV (σ : L2.St) : List Nat → List V → L2.St
  | j :: js, v :: vs => setV (σ.set j (some v)) js vs
  | _, _ => σ
def wipeZ (ρ : List Sl) : List Nat → List Sl
  | [] => ρ
  | v :: vs => (wipeZ ρ vs).set v .no
theorem setV_len : ∀ (js : List Nat) (vs : List V) (σ : L2.St), (setV σ js vs).length = σ.length
  | [], _, _ => by unfold setV; rfl
  | _ :: _, [], _ => by unfold setV; rfl
  | j :: js, v :: vs, σ => by unfold setV; rw [setV_len js vs]; simp
theorem setV_out : ∀ (js : List Nat) (vs : List V) (σ : L2.St) (k : Nat), k ∉ js → (setV σ js vs)[k]? = σ[k]?
  | [], _, _, _, _ => by unfold setV; rfl
  | _ :: _, [], _, _, _ => by unfold setV; rfl
  | j :: js, v :: vs, σ, k, h => by
    unfold setV
    rw [setV_out js vs _ k (fun z => h (List.mem_cons_of_mem _ z)), List.getElem?_set_ne (fun z => h (by rw [z]; exact List.mem_cons_self))]
theorem wipe_out : ∀ (js : List Nat) (σ : L2.St) (k : Nat), k ∉ js → (wipe σ js)[k]? = σ[k]?
  | [], _, _, _ => rfl
  | j :: js, σ, k, h => by
    unfold wipe
    rw [List.getElem?_set_ne (fun z => h (by rw [z]; exact List.mem_cons_self)), wipe_out js σ k fun z => h (List.mem_cons_of_mem _ z)]
theorem wipe_in : ∀ (js : List Nat) (σ : L2.St) (k : Nat), k ∈ js → k < σ.length → (wipe σ js)[k]? = some none
  | j :: js, σ, k, h, hl => by
    unfold wipe
    by_cases e : j = k
    · subst e
      rw [List.getElem?_set_self (by rw [wipe_length]; exact hl)]
    · rw [List.getElem?_set_ne e]
      rcases List.mem_cons.mp h with z | z
      · exact absurd z.symm e
      · exact wipe_in js σ k z hl
theorem wipe_setV (js : List Nat) (vs : List V) (σ : L2.St) : wipe (setV (wipe σ js) js vs) js = wipe σ js := by
  apply List.ext_getElem?
  intro k
  have el : (setV (wipe σ js) js vs).length = σ.length := by rw [setV_len, wipe_length]
  by_cases h : k ∈ js
  · by_cases hl : k < σ.length
    · rw [wipe_in js _ k h (by rw [el]; exact hl), wipe_in js _ k h hl]
    · rw [List.getElem?_eq_none (by rw [wipe_length, el]; omega), List.getElem?_eq_none (by rw [wipe_length]; omega)]
  · rw [wipe_out js _ k h, setV_out js _ _ k h]
section
variable {K : PySem.W.Frag} {W : Wd} {B B' H H' : Hp} {σ : L2.St} {ρ : List Sl}
theorem Lay.wipes (L : Lay K W B H σ ρ) : ∀ js : List Nat, Lay K W B H (wipe σ js) (wipeZ ρ js)
  | [] => L
  | j :: js => (L.wipes js).wipe1 j
theorem Lay.sets : ∀ {js : List Nat} {ds : List PyData} {vs : List V} {σ : L2.St} {ρ : List Sl}, Lay K W B H σ ρ → DqAll K B vs ds → Lay K W B H (setV σ js vs) (setZ ρ js ds)
  | [], _, _, _, _, L, _ => by unfold setV setZ; exact L
  | j :: js, [], _, _, _, L, h => by cases h; unfold setV setZ; exact L
  | j :: js, d :: ds, _, σ, ρ, L, h => by
    cases h with
    | cons h1 h2 =>
      unfold setV setZ
      exact Lay.sets (L.put h1) h2
/-- the frame seen by code that owns nothing of it -/
theorem Lay.loan (L : Lay K W B H σ ρ) : Lay K ⟨W.T, W.ns, B, H⟩ B H σ (disown ρ) := by
  refine ⟨Gr.refl L.gr.sub fun a h => (L.gr.tp a h).2, by simp [disown, L.len], fun i sl e => ?_, fun i j s t hne e1 e2 o1 o2 => ?_⟩
  · unfold disown at e
    rw [List.getElem?_map] at e
    cases q : ρ[i]? with
    | none => rw [q] at e; cases e
    | some s0 =>
      rw [q] at e
      have e : (if s0.ow then Sl.no else s0) = sl := Option.some.inj e
      cases s0 with
      | no => subst e; trivial
      | im d => subst e; exact L.at' i _ q
      | own ds => subst e; trivial
      | dic ds => subst e; trivial
      | tape => subst e; exact L.at' i _ q
  · unfold disown at e1
    rw [List.getElem?_map] at e1
    cases q : ρ[i]? with
    | none => rw [q] at e1; cases e1
    | some s0 =>
      rw [q] at e1
      have e : (if s0.ow then Sl.no else s0) = s := Option.some.inj e1
      subst e
      cases s0 <;> cases o1
/-- an object of nobody's changes -/
theorem Lay.other (L : Lay K W B H σ ρ) {p : Addr} (o : HO) (h1 : B p = none) (h2 : W.H0 p = none) (h3 : ∀ (j : Nat) (sl : Sl), ρ[j]? = some sl → sl.ow = true → σ[j]? ≠ some (some (.ref p))) : Lay K W B (upd H p o) σ ρ := by
  refine ⟨⟨same_right L.gr.sub h1, L.gr.base, L.gr.new, fun a u q1 q2 => ?_, fun T q => ?_⟩, L.len, fun i sl e => (L.at' i sl e).grow (Same.refl _) fun a u g1 g2 g3 _ g5 => ⟨g3, ?_⟩, L.dis⟩
  · have ha : a ≠ p := by
      rintro rfl
      rw [h2] at q1
      cases q1
    rw [upd_ne ha]
    exact L.gr.keep a u q1 q2
  · obtain ⟨t1, t2⟩ := L.gr.tp T q
    have ht : T ≠ p := by
      rintro rfl
      exact t1 h2
    exact ⟨t1, t2.mono (Same.refl _) t2.1 fun o ho => by rw [upd_ne ht]; exact ho⟩
  · have ha : a ≠ p := by
      rintro rfl
      exact h3 i sl e g2 g1
    rw [upd_ne ha]
    exact g5
end
/-- readings over data, whatever the world (its tape being T) -/
def TtZ (K : PySem.W.Frag) (T : Option Addr) (tt : TT) (ρ : List Sl) (R : Bool → Prop) : Prop := ∀ W : Wd, W.T = T → ∀ (σ : L2.St) (H B : Hp) (Q : Bool → Hp → Prop), Lay K W B H σ ρ → (∀ b H' B', Same B B' → Lay K W B' H' σ ρ → R b → Q b H') → tt σ H Q
def TeZ (K : PySem.W.Frag) (T : Option Addr) (te : TE) (ρ : List Sl) (R : PyData → Prop) : Prop := ∀ W : Wd, W.T = T → ∀ (σ : L2.St) (H B : Hp) (Q : VK), Lay K W B H σ ρ → (∀ v H' B' d, Same B B' → Lay K W B' H' σ ρ → Dq K B' v d → R d → Q v H') → te σ H Q
/-- a target that takes data apart into the slots js -/
def GgZ (K : PySem.W.Frag) (g : TG) (js : List Nat) (dec : PyData → Option (List PyData)) : Prop := ∀ (B H : Hp) (σ : L2.St) (v : V) (d : PyData) (ds : List PyData) (Q : L2.St → Hp → Prop), Same B H → Dq K B v d → dec d = some ds → (∀ vs, DqAll K B vs ds → Q (setV σ js vs) H) → g v σ H Q
section
variable {X : Cx} {W : Wd} {ρ : List Sl} {D : Dz} {pos : Pos} {a b c e : Expr} {es : List Expr} {st : Stmt} {sts body : List Stmt}
theorem lc_run {tg iter : Expr} {js : List Nat} {g : TG} {tt : TT} {te : TE} {dec : PyData → Option (List PyData)} (gz : GgZ X.K g js dec) {R : List PyData → Prop}
    (h : Ei X W tg iter ρ fun ds => ds.length ≤ sizeLine ∧ ∃ P : Nat → List PyData → Prop, P 0 [] ∧ (∀ i d acc, ds[i]? = some d → P i acc → acc.length ≤ i → ∃ xs, dec d = some xs ∧
      TtZ X.K W.T tt (setZ (disown (wipeZ ρ js)) js xs) fun k => (k = true → TeZ X.K W.T te (setZ (disown (wipeZ ρ js)) js xs) fun y => P (i + 1) (acc ++ [y])) ∧ (k = false → P (i + 1) acc)) ∧ ∀ acc, P ds.length acc → acc.length ≤ ds.length → R acc)
    {σ : L2.St} {H B : Hp} {Q : VK} (L : Lay X.K W B H σ ρ)
    (k : ∀ a vs H' B' ds, Same B B' → Lay X.K W B' H' σ ρ → B' a = none → W.H0 a = none → (∀ (i : Nat) (sl : Sl), ρ[i]? = some sl → sl.ow = true → σ[i]? ≠ some (some (.ref a))) → H' a = some (.lst vs) → DqAll X.K B' vs ds → R ds → Q (.ref a) H') :
    tLc (iW X tg iter) g tt te js σ H Q := by
  refine h.run σ H B _ L fun J H1 B1 ds s1 L1 wk hP p hp => ?_
  obtain ⟨hlen, P, p0, turn, fin⟩ := hP
  obtain ⟨L2', b0, h0, own0, e0⟩ := fresh_own L1 hp [] [] .nil
  have hT : W.T ≠ some p := fun z => (L1.gr.tp p z).1 h0
  refine ⟨fun i m H => m = ds.length - i ∧ i ≤ ds.length ∧ ∃ B vs acc, Same B1 B ∧ B p = none ∧ H p = some (.lst vs) ∧ DqAll X.K B vs acc ∧ acc.length ≤ i ∧ Lay X.K W B H σ ρ ∧ P i acc,
    ⟨_, rfl, Nat.zero_le _, B1, [], [], Same.refl _, b0, e0, .nil, Nat.le_refl _, L2', p0⟩, ?_⟩
  rintro i m H ⟨rfl, hi, B2, vs, acc, sB, bp, hpv, da, hal, L, hPi⟩
  by_cases hlt : i < ds.length
  · refine .inr ⟨wk.go i B2 H sB L.gr.sub hlt, fun H' => ∃ B vs acc, Same B1 B ∧ B p = none ∧ H' p = some (.lst vs) ∧ DqAll X.K B vs acc ∧ acc.length ≤ i + 1 ∧ Lay X.K W B H' σ ρ ∧ P (i + 1) acc,
      fun H' hN => ⟨ds.length - (i + 1), by omega, rfl, hlt, hN⟩, fun x H' hy => ?_⟩
    obtain ⟨d, B3, hd, s3, L3, Dx, kp, kn⟩ := wk.yld i B2 H x H' W σ ρ sB L hy hlt
    have hp3 : H' p = some (.lst vs) := kp _ _ hpv
    have bp3 : B3 p = none := kn p _ hpv bp
    obtain ⟨xs, hdec, ht⟩ := turn i d acc hd hPi hal
    have L4 : Lay X.K ⟨W.T, W.ns, B3, H'⟩ B3 H' (wipe σ js) (disown (wipeZ ρ js)) := Lay.loan (W := W) (L3.wipes js)
    refine gz B3 H' (wipe σ js) x d xs _ L4.gr.sub Dx hdec fun us hus => ⟨wipe_setV _ _ _, ?_⟩
    have L5 := L4.sets (js := js) hus
    -- behind the block's code
    have back : ∀ {B4 H4 : Hp} {σ4 : L2.St} {ρ4 : List Sl}, Lay X.K ⟨W.T, W.ns, B3, H'⟩ B4 H4 σ4 ρ4 → Same B3 B4 ∧ Lay X.K W B4 H4 σ ρ ∧ B4 p = none ∧ H4 p = some (.lst vs) := fun {B4 H4 σ4 ρ4} L6 => by
      obtain ⟨s, L7⟩ := L3.called (.inr ⟨rfl, rfl⟩) L6.gr
      exact ⟨s, L7, L6.gr.new p (by show H' p ≠ none; rw [hp3]; exact fun z => by cases z) bp3, L6.gr.keep p _ hp3 (by show W.T ≠ some p; exact hT)⟩
    refine ht ⟨W.T, W.ns, B3, H'⟩ rfl _ _ _ _ L5 fun kk H4 B4 s4 L6 hq => ?_
    cases kk with
    | true =>
      rw [if_pos rfl]
      refine hq.1 rfl ⟨W.T, W.ns, B3, H'⟩ rfl _ _ _ _ L6 fun y H5 B5 dy s5 L7 Dy hy => ?_
      obtain ⟨s6, L8, b8, h8⟩ := back L7
      refine ⟨vs, h8, by rw [dpAll_len da]; omega, B5, vs ++ [y], acc ++ [dy], (sB.trans s3).trans s6, b8, upd_same, dpAll_app (dpAllMono (s3.trans s6) _ _ da) (.cons Dy .nil), by simp; omega, L8.other _ b8 h0 own0, hy⟩
    | false =>
      rw [if_neg Bool.false_ne_true]
      obtain ⟨s6, L8, b8, h8⟩ := back L6
      exact ⟨B4, vs, acc, (sB.trans s3).trans s6, b8, h8, dpAllMono (s3.trans s6) _ _ da, by omega, L8, hq.2 rfl⟩
  · have ei : i = ds.length := by omega
    subst ei
    exact .inl ⟨wk.stop B2 H sB L.gr.sub, k p vs H B2 acc (s1.trans sB) L bp h0 own0 hpv da (fin acc hPi hal)⟩
/-! targets -/
def dec1 : PyData → Option (List PyData) := fun d => some [d]
def decT (n : Nat) : PyData → Option (List PyData)
  | .tuple ds => if ds.length = n then some ds else none
  | _ => none
theorem gg_name {K : PySem.W.Frag} (i : Nat) : GgZ K (gName i) [i] dec1 := fun B H σ v d ds Q s Dv e k => by
  cases e
  exact k [v] (.cons Dv .nil)
def gNames : List Nat → TGs
  | [] => gNil
  | j :: js => gCons (gName j) (gNames js)
theorem gg_names {K : PySem.W.Frag} {B H : Hp} : ∀ (js : List Nat) (ds : List PyData) (vs : List V) (σ : L2.St) (Q : L2.St → Hp → Prop), js.length = ds.length → DqAll K B vs ds → Q (setV σ js vs) H → gNames js vs σ H Q
  | [], [], _, _, _, _, h, q => by cases h; exact ⟨rfl, q⟩
  | j :: js, d :: ds, _, σ, Q, hl, h, q => by
    cases h with
    | cons h1 h2 => exact ⟨_, _, rfl, gg_names js ds _ _ Q (by simpa using hl) h2 q⟩
theorem gg_tup {K : PySem.W.Frag} (js : List Nat) : GgZ K (gTup K js.length (gNames js)) js (decT js.length) := fun B H σ v d ds Q s Dv e k => by
  cases d with
  | tuple xs =>
    have e1 : (if xs.length = js.length then some xs else none) = some ds := e
    by_cases hl : xs.length = js.length
    · rw [if_pos hl] at e1
      have e2 : xs = ds := Option.some.inj e1
      subst e2
      obtain ⟨p, vs, rfl, h1, h2⟩ := dp_tup Dv
      exact ⟨p, vs, rfl, seqT s h1, by rw [dpAll_len h2]; exact hl, gg_names js xs vs σ Q hl.symm h2 (k vs h2)⟩
    · rw [if_neg hl] at e1
      exact absurd e1 (by simp)
  | none => exact absurd (show (none : Option (List PyData)) = some ds from e) (by simp)
  | bool _ => exact absurd (show (none : Option (List PyData)) = some ds from e) (by simp)
  | int _ => exact absurd (show (none : Option (List PyData)) = some ds from e) (by simp)
  | str _ => exact absurd (show (none : Option (List PyData)) = some ds from e) (by simp)
  | list _ => exact absurd (show (none : Option (List PyData)) = some ds from e) (by simp)
  | dict _ => exact absurd (show (none : Option (List PyData)) = some ds from e) (by simp)
/-- a block of the comprehension -/
abbrev Blk (X : Cx) (scope : Scope) (Y : Cx) : Prop := ∃ (s : Shared) (H : Hp) (C : Addr) (cl : List (Str × Addr)) (fp : List Addr), Y = X.blk s H scope (compEnvC scope cl C X.env) fp
def teB (X : Cx) (scope : Scope) (e : Expr) : TE := fun σ H Q => ∀ Y, Blk X scope Y → tW Y e σ H Q
def ttB (X : Cx) (scope : Scope) (e : Expr) : TT := fun σ H Q => ∀ Y, Blk X scope Y → tWt Y e σ H Q
theorem teZ {scope : Scope} {T : Option Addr} {R : PyData → Prop} (h : ∀ Y, Blk X scope Y → ∀ W : Wd, W.T = T → Ev Y W e ρ R) : TeZ X.K T (teB X scope e) ρ R := fun W hW σ H B Q L k Y hY => by
  have := h Y hY W hW
  obtain ⟨s, H0, C, cl, fp, rfl⟩ := hY
  exact this.run σ H B Q L k
theorem ttZ {scope : Scope} {T : Option Addr} {R : Bool → Prop} (h : ∀ Y, Blk X scope Y → ∀ W : Wd, W.T = T → Et Y W e ρ R) : TtZ X.K T (ttB X scope e) ρ R := fun W hW σ H B Q L k Y hY => by
  have := h Y hY W hW
  obtain ⟨s, H0, C, cl, fp, rfl⟩ := hY
  exact this.run σ H B Q L k
theorem ttYes {T : Option Addr} {K : PySem.W.Frag} {R : Bool → Prop} (h : R true) : TtZ K T tYes ρ R := fun W hW σ H B Q L k => k true H B (Same.refl _) L h
section
variable {tg iter elt : Expr} {scope : Scope} {own : List (Str × Nat)} {R : List PyData → Prop}
theorem blkE {s : Shared} {H : Hp} {C : Addr} {cl : List (Str × Addr)} {fp : List Addr} : PE (X.blk s H scope (compEnvC scope cl C X.env) fp) e (teB X scope e) := ⟨fun pins s0 _ _ _ I q => q _ ⟨s, H, C, cl, fp, rfl⟩ pins s0 I⟩
theorem blkT {s : Shared} {H : Hp} {C : Addr} {cl : List (Str × Addr)} {fp : List Addr} : PT (X.blk s H scope (compEnvC scope cl C X.env) fp) e (ttB X scope e) := ⟨fun pins s0 _ _ _ I q => q _ ⟨s, H, C, cl, fp, rfl⟩ pins s0 I⟩
/-- what the walk of a comprehension without a test asks -/
def LcA (X : Cx) (W : Wd) (tg iter elt : Expr) (scope : Scope) (ρ : List Sl) (js : List Nat) (dec : PyData → Option (List PyData)) (R : List PyData → Prop) : Prop :=
  Ei X W tg iter ρ fun ds => ds.length ≤ sizeLine ∧ ∃ P : Nat → List PyData → Prop, P 0 [] ∧ (∀ i d acc, ds[i]? = some d → P i acc → acc.length ≤ i → ∃ xs, dec d = some xs ∧
      ∀ Y, Blk X scope Y → ∀ W' : Wd, W'.T = W.T → Ev Y W' elt (setZ (disown (wipeZ ρ js)) js xs) fun y => P (i + 1) (acc ++ [y])) ∧ ∀ acc, P ds.length acc → acc.length ≤ ds.length → R acc
/-- .. with one test -/
def LcI (X : Cx) (W : Wd) (tg iter elt c : Expr) (scope : Scope) (ρ : List Sl) (js : List Nat) (dec : PyData → Option (List PyData)) (R : List PyData → Prop) : Prop :=
  Ei X W tg iter ρ fun ds => ds.length ≤ sizeLine ∧ ∃ P : Nat → List PyData → Prop, P 0 [] ∧ (∀ i d acc, ds[i]? = some d → P i acc → acc.length ≤ i → ∃ xs, dec d = some xs ∧
      ∀ Y, Blk X scope Y → ∀ W' : Wd, W'.T = W.T → Et Y W' c (setZ (disown (wipeZ ρ js)) js xs) fun k =>
        (k = true → ∀ Y, Blk X scope Y → ∀ W' : Wd, W'.T = W.T → Ev Y W' elt (setZ (disown (wipeZ ρ js)) js xs) fun y => P (i + 1) (acc ++ [y])) ∧ (k = false → P (i + 1) acc)) ∧ ∀ acc, P ds.length acc → acc.length ≤ ds.length → R acc
theorem LcA.go {g : TG} {js : List Nat} {dec : PyData → Option (List PyData)} (gz : GgZ X.K g js dec) (h : LcA X W tg iter elt scope ρ js dec R)
    {σ : L2.St} {H B : Hp} {Q : VK} (L : Lay X.K W B H σ ρ)
    (k : ∀ a vs H' B' ds, Same B B' → Lay X.K W B' H' σ ρ → B' a = none → W.H0 a = none → (∀ (i : Nat) (sl : Sl), ρ[i]? = some sl → sl.ow = true → σ[i]? ≠ some (some (.ref a))) → H' a = some (.lst vs) → DqAll X.K B' vs ds → R ds → Q (.ref a) H') :
    tLc (iW X tg iter) g tYes (teB X scope elt) js σ H Q := by
  refine lc_run gz ⟨fun σ H B Q L k => Ei.run h σ H B Q L fun J H' B' ds s L' wk ⟨hl, P, p0, turn, fin⟩ => k J H' B' ds s L' wk ⟨hl, P, p0, fun i d acc h1 h2 h3 => ?_, fin⟩⟩ L k
  obtain ⟨xs, e1, e2⟩ := turn i d acc h1 h2 h3
  exact ⟨xs, e1, ttYes ⟨fun _ => teZ e2, fun z => by cases z⟩⟩
theorem LcI.go {g : TG} {js : List Nat} {dec : PyData → Option (List PyData)} (gz : GgZ X.K g js dec) (h : LcI X W tg iter elt c scope ρ js dec R)
    {σ : L2.St} {H B : Hp} {Q : VK} (L : Lay X.K W B H σ ρ)
    (k : ∀ a vs H' B' ds, Same B B' → Lay X.K W B' H' σ ρ → B' a = none → W.H0 a = none → (∀ (i : Nat) (sl : Sl), ρ[i]? = some sl → sl.ow = true → σ[i]? ≠ some (some (.ref a))) → H' a = some (.lst vs) → DqAll X.K B' vs ds → R ds → Q (.ref a) H') :
    tLc (iW X tg iter) g (ttB X scope c) (teB X scope elt) js σ H Q := by
  refine lc_run gz ⟨fun σ H B Q L k => Ei.run h σ H B Q L fun J H' B' ds s L' wk ⟨hl, P, p0, turn, fin⟩ => k J H' B' ds s L' wk ⟨hl, P, p0, fun i d acc h1 h2 h3 => ?_, fin⟩⟩ L k
  obtain ⟨xs, e1, e2⟩ := turn i d acc h1 h2 h3
  exact ⟨xs, e1, ttZ fun Y hY W' hW => (e2 Y hY W' hW).imp fun k hk => ⟨fun z => teZ (hk.1 z), hk.2⟩⟩
/-- [elt for x in iter] -/
theorem el_lc {g : TG} {js : List Nat} {dec : PyData → Option (List PyData)} (gz : GgZ X.K g js dec) (hg : ∀ (s : Shared) (H : Hp) (C : Addr) (cl : List (Str × Addr)) (fp : List Addr), PG (X.blk s H scope (compEnvC scope cl C X.env) fp) tg g)
    (hc : X.calm = true) (nd : X.N.Nodup) (ok : BlkOk X.N X.env.scope scope own) (ej : own.map (·.2) = js) (h : LcA X W tg iter elt scope ρ js dec R)
    (hs : ∀ x, foldedSetIterable iter X.env x = pure x := by intro _; rfl) : El X W (.ListComp elt [⟨tg, iter, [], 0⟩] scope pos) ρ R := by
  subst ej
  exact ⟨fun σ H B Q L k => (pe_lc hc nd pi_w ok hg (fun _ _ _ _ _ => pts_nil) (fun _ _ _ _ _ => blkE) hs).toZ (h.go gz L k)⟩
/-- [elt for x in iter if c] -/
theorem el_lcI {g : TG} {js : List Nat} {dec : PyData → Option (List PyData)} (gz : GgZ X.K g js dec) (hg : ∀ (s : Shared) (H : Hp) (C : Addr) (cl : List (Str × Addr)) (fp : List Addr), PG (X.blk s H scope (compEnvC scope cl C X.env) fp) tg g)
    (hc : X.calm = true) (nd : X.N.Nodup) (ok : BlkOk X.N X.env.scope scope own) (ej : own.map (·.2) = js) (h : LcI X W tg iter elt c scope ρ js dec R)
    (hs : ∀ x, foldedSetIterable iter X.env x = pure x := by intro _; rfl) : El X W (.ListComp elt [⟨tg, iter, [c], 0⟩] scope pos) ρ R := by
  subst ej
  exact ⟨fun σ H B Q L k => (pe_lc hc nd pi_w ok hg (fun _ _ _ _ _ => pts_one blkT) (fun _ _ _ _ _ => blkE) hs).toZ (h.go gz L k)⟩
/-- y = [..], y a plain local -/
theorem es_lc (i : Nat) {y : Str} {py spos : Pos} {g : TG} {js : List Nat} {dec : PyData → Option (List PyData)} (gz : GgZ X.K g js dec) (hg : ∀ (s : Shared) (H : Hp) (C : Addr) (cl : List (Str × Addr)) (fp : List Addr), PG (X.blk s H scope (compEnvC scope cl C X.env) fp) tg g)
    (hc : X.calm = true) (nd : X.N.Nodup) (ok : BlkOk X.N X.env.scope scope own) (ej : own.map (·.2) = js) (h : LcA X W tg iter elt scope ρ js dec fun ds => D.nx (ρ.set i (.own ds)))
    (hsw : swapsWith (.ListComp elt [⟨tg, iter, [], 0⟩] scope pos) (some (.Name y py)) spos.line X.env = pure true) (hy : X.N[i]? = some y := by rfl) (hyl : X.env.scope.names.lookup y = some .local := by rfl)
    (hs : ∀ x, foldedSetIterable iter X.env x = pure x := by intro _; rfl) : Es X W (.Assign [.Name y py] (.ListComp elt [⟨tg, iter, [], 0⟩] scope pos) spos) ρ D := by
  subst ej
  exact ⟨fun σ H B L => (ps_setLc hc nd hy hyl hsw pi_w ok hg (fun _ _ _ _ _ => pts_nil) (fun _ _ _ _ _ => blkE) hs).toZ (h.go gz L fun p vs H' B' ds s L' h1 h2 h3 h4 h5 r => ⟨B', _, s, L'.own h1 h2 h3 h4 h5, r⟩)⟩
theorem es_lcI (i : Nat) {y : Str} {py spos : Pos} {g : TG} {js : List Nat} {dec : PyData → Option (List PyData)} (gz : GgZ X.K g js dec) (hg : ∀ (s : Shared) (H : Hp) (C : Addr) (cl : List (Str × Addr)) (fp : List Addr), PG (X.blk s H scope (compEnvC scope cl C X.env) fp) tg g)
    (hc : X.calm = true) (nd : X.N.Nodup) (ok : BlkOk X.N X.env.scope scope own) (ej : own.map (·.2) = js) (h : LcI X W tg iter elt c scope ρ js dec fun ds => D.nx (ρ.set i (.own ds)))
    (hsw : swapsWith (.ListComp elt [⟨tg, iter, [c], 0⟩] scope pos) (some (.Name y py)) spos.line X.env = pure true) (hy : X.N[i]? = some y := by rfl) (hyl : X.env.scope.names.lookup y = some .local := by rfl)
    (hs : ∀ x, foldedSetIterable iter X.env x = pure x := by intro _; rfl) : Es X W (.Assign [.Name y py] (.ListComp elt [⟨tg, iter, [c], 0⟩] scope pos) spos) ρ D := by
  subst ej
  exact ⟨fun σ H B L => (ps_setLc hc nd hy hyl hsw pi_w ok hg (fun _ _ _ _ _ => pts_one blkT) (fun _ _ _ _ _ => blkE) hs).toZ (h.go gz L fun p vs H' B' ds s L' h1 h2 h3 h4 h5 r => ⟨B', _, s, L'.own h1 h2 h3 h4 h5, r⟩)⟩
end

/-! ### built-ins -/
@[reducible] def rLen : PyData → (PyData → Prop) → Prop
  | .list ds, R => R (.int (ds.length : Int))
  | .tuple ds, R => R (.int (ds.length : Int))
  | _, _ => False
@[reducible] def rSeq : PyData → (List PyData → Prop) → Prop
  | .list ds, R => R ds
  | .tuple ds, R => R ds
  | _, _ => False
theorem ev_len {p : Pos} {R : PyData → Prop} (hm : X.mg "len" = none) (h : Ev X W e ρ fun d => rLen d R) (hg : Gl X "len" := by rfl)
    (he : starEach [e] X.env = (false, eval e X.env) :: starEach [] X.env := by rfl) (hpl : (backTo pos (starEach [] X.env)).any (·.1) = false := by rfl) : Ev X W (.Call (.Name "len" p) [e] [] pos) ρ R := by
  refine ⟨fun σ H B Q L k => (pe_callB call_len_seq hg hm PySem.boot_len (pa_cons pe_w pa_nil he) (by decide) (by decide) he hpl).toZ ?_⟩
  refine h.run σ H B _ L fun v H1 B1 d s1 L1 D1 h2 => ?_
  cases d <;> first | exact h2.elim | skip
  · obtain ⟨q, vs, rfl, h3, h4⟩ := dp_list D1
    refine ⟨q, vs, rfl, .inl (SqL.of (L1.gr.sub _ _ h3)), ?_⟩
    rw [dpAll_len h4]
    exact k _ H1 B1 _ s1 L1 (.int _) h2
  · obtain ⟨q, vs, rfl, h3, h4⟩ := dp_tup D1
    refine ⟨q, vs, rfl, .inr (seqT L1.gr.sub h3), ?_⟩
    rw [dpAll_len h4]
    exact k _ H1 B1 _ s1 L1 (.int _) h2
theorem ev_lenOwn (i : Nat) {x : Str} {px : Pos} {p : Pos} {R : PyData → Prop} {ds : List PyData} (hm : X.mg "len" = none) (hρ : ρ[i]? = some (.own ds)) (h : R (.int (ds.length : Int))) (hN : X.N[i]? = some x := by rfl) (hv : Vis X.env.scope x := by first | exact Or.inl rfl | exact Or.inr (Or.inl rfl) | exact Or.inr (Or.inr rfl)) (hg : Gl X "len" := by rfl)
    (hd : (x == ("__debug__" : Str)) = false := by decide) (hcd : (x == ("__classdict__" : Str)) = false := by decide)
    (he : starEach [.Name x px] X.env = (false, eval (.Name x px) X.env) :: starEach [] X.env := by rfl) (hpl : (backTo pos (starEach [] X.env)).any (·.1) = false := by rfl) : Ev X W (.Call (.Name "len" p) [.Name x px] [] pos) ρ R := by
  refine ⟨fun σ H B Q L k => (pe_callB call_len_seq hg hm PySem.boot_len (pa_cons (pe_var hN hv hd hcd) pa_nil he) (by decide) (by decide) he hpl).toZ ?_⟩
  obtain ⟨q, vs, e1, e2, e3, e4, e5⟩ := L.at' i _ hρ
  refine ⟨.ref q, e1, q, vs, rfl, .inl (SqL.of e4), ?_⟩
  rw [dpAll_len e5]
  exact k _ H B _ (Same.refl _) L (.int _) h
theorem boot_max : bootBuiltins "max" = some (.builtin "max") := by decide +kernel
theorem boot_min : bootBuiltins "min" = some (.builtin "min") := by decide +kernel
theorem boot_all : bootBuiltins "all" = some (.builtin "all") := by decide +kernel
theorem boot_list : bootBuiltins "list" = some (.type "list") := by decide +kernel
theorem boot_tuple : bootBuiltins "tuple" = some (.type "tuple") := by decide +kernel
theorem boot_sorted : bootBuiltins "sorted" = some (.builtin "sorted") := by decide +kernel
@[reducible] def r2I : PyData → PyData → (Int → Int → Prop) → Prop
  | .int i, .int j, K => K i j
  | _, _, _ => False
theorem ev_max2 {p : Pos} {R : PyData → Prop} (hc : X.calm = true) (hm : X.mg "max" = none) (h : Ev X W a ρ fun d => Ev X W b ρ fun d' => r2I d d' fun i j => ∀ m : Int, i ≤ m → j ≤ m → (m = i ∨ m = j) → R (.int m)) (hg : Gl X "max" := by rfl)
    (he : starEach [a, b] X.env = (false, eval a X.env) :: starEach [b] X.env := by rfl) (he2 : starEach [b] X.env = (false, eval b X.env) :: starEach [] X.env := by rfl) (hpl : (backTo pos (starEach [b] X.env)).any (·.1) = false := by rfl) : Ev X W (.Call (.Name "max" p) [a, b] [] pos) ρ R := by
  refine ⟨fun σ H B Q L k => (pe_callB (call_max2 hc) hg hm boot_max (pa_cons pe_w (pa_cons pe_w pa_nil he2) he) (by decide) (by decide) he hpl).toZ ?_⟩
  refine h.run σ H B _ L fun v H1 B1 d s1 L1 D1 h2 => ?_
  refine h2.run σ H1 B1 _ L1 fun u H2 B2 d' s2 L2 D2 h3 => ?_
  cases d <;> cases d' <;> first | exact h3.elim | skip
  rename_i i j
  cases dp_int D1
  cases dp_int D2
  exact ⟨i, j, rfl, k _ H2 B2 _ (s1.trans s2) L2 (.int _) (h3 _ (by split <;> omega) (by split <;> omega) (by split <;> simp))⟩
theorem ev_min2 {p : Pos} {R : PyData → Prop} (hc : X.calm = true) (hm : X.mg "min" = none) (h : Ev X W a ρ fun d => Ev X W b ρ fun d' => r2I d d' fun i j => ∀ m : Int, m ≤ i → m ≤ j → (m = i ∨ m = j) → R (.int m)) (hg : Gl X "min" := by rfl)
    (he : starEach [a, b] X.env = (false, eval a X.env) :: starEach [b] X.env := by rfl) (he2 : starEach [b] X.env = (false, eval b X.env) :: starEach [] X.env := by rfl) (hpl : (backTo pos (starEach [b] X.env)).any (·.1) = false := by rfl) : Ev X W (.Call (.Name "min" p) [a, b] [] pos) ρ R := by
  refine ⟨fun σ H B Q L k => (pe_callB (call_min2 hc) hg hm boot_min (pa_cons pe_w (pa_cons pe_w pa_nil he2) he) (by decide) (by decide) he hpl).toZ ?_⟩
  refine h.run σ H B _ L fun v H1 B1 d s1 L1 D1 h2 => ?_
  refine h2.run σ H1 B1 _ L1 fun u H2 B2 d' s2 L2 D2 h3 => ?_
  cases d <;> cases d' <;> first | exact h3.elim | skip
  rename_i i j
  cases dp_int D1
  cases dp_int D2
  exact ⟨i, j, rfl, k _ H2 B2 _ (s1.trans s2) L2 (.int _) (h3 _ (by split <;> omega) (by split <;> omega) (by split <;> simp))⟩
theorem dq_ints {K : PySem.W.Frag} {B : Hp} : ∀ {ns : List Int} {vs : List V}, DqAll K B vs (ns.map PyData.int) → vs = ns.map V.int
  | [], _, h => by cases h; rfl
  | n :: ns, _, h => by
    cases h with
    | cons h1 h2 => rw [dp_int h1, dq_ints h2]; rfl
theorem dq_bools {K : PySem.W.Frag} {B : Hp} : ∀ {ns : List Bool} {vs : List V}, DqAll K B vs (ns.map PyData.bool) → vs = ns.map V.bl
  | [], _, h => by cases h; rfl
  | n :: ns, _, h => by
    cases h with
    | cons h1 h2 => rw [dp_bool h1, dq_bools h2]; rfl
theorem ints_dq {K : PySem.W.Frag} {B : Hp} : ∀ ns : List Int, DqAll K B (ns.map V.int) (ns.map PyData.int)
  | [] => .nil
  | n :: ns => .cons (.int n) (ints_dq ns)
/-- min(xs) of a list of ints -/
theorem ev_minL {p : Pos} {R : PyData → Prop} (hc : X.calm = true) (hm : X.mg "min" = none) (h : Ev X W e ρ fun d => ∃ ns : List Int, d = .list (ns.map PyData.int) ∧ 0 < ns.length ∧ ∀ m, m ∈ ns → (∀ y, y ∈ ns → m ≤ y) → R (.int m)) (hg : Gl X "min" := by rfl)
    (he : starEach [e] X.env = (false, eval e X.env) :: starEach [] X.env := by rfl) (hpl : (backTo pos (starEach [] X.env)).any (·.1) = false := by rfl) : Ev X W (.Call (.Name "min" p) [e] [] pos) ρ R := by
  refine ⟨fun σ H B Q L k => (pe_callB (cr_min hc) hg hm boot_min (pa_cons pe_w pa_nil he) (by decide) (by decide) he hpl).toZ ?_⟩
  refine h.run σ H B _ L fun v H1 B1 d s1 L1 D1 h2 => ?_
  obtain ⟨ns, rfl, h3, h4⟩ := h2
  obtain ⟨q, vs, rfl, h5, h6⟩ := dp_list D1
  cases dq_ints h6
  exact ⟨q, ns, rfl, SqL.of (L1.gr.sub _ _ h5), h3, fun m h7 h8 => k _ H1 B1 _ s1 L1 (.int m) (h4 m h7 h8)⟩
/-- all(bs) of a list of bools -/
theorem ev_all {p : Pos} {R : PyData → Prop} (hc : X.calm = true) (hm : X.mg "all" = none) (h : Ev X W e ρ fun d => ∃ bs : List Bool, d = .list (bs.map PyData.bool) ∧ R (.bool (bs.all id))) (hg : Gl X "all" := by rfl)
    (he : starEach [e] X.env = (false, eval e X.env) :: starEach [] X.env := by rfl) (hpl : (backTo pos (starEach [] X.env)).any (·.1) = false := by rfl) : Ev X W (.Call (.Name "all" p) [e] [] pos) ρ R := by
  refine ⟨fun σ H B Q L k => (pe_callB (cr_all hc) hg hm boot_all (pa_cons pe_w pa_nil he) (by decide) (by decide) he hpl).toZ ?_⟩
  refine h.run σ H B _ L fun v H1 B1 d s1 L1 D1 h2 => ?_
  obtain ⟨bs, rfl, h3⟩ := h2
  obtain ⟨q, vs, rfl, h5, h6⟩ := dp_list D1
  cases dq_bools h6
  exact ⟨q, bs, rfl, SqL.of (L1.gr.sub _ _ h5), k _ H1 B1 _ s1 L1 (.bl _) h3⟩
/-- list(xs) -/
theorem el_list {p : Pos} {R : List PyData → Prop} (hm : X.mg "list" = none) (h : Ev X W e ρ fun d => rSeq d R) (hg : Gl X "list" := by rfl)
    (he : starEach [e] X.env = (false, eval e X.env) :: starEach [] X.env := by rfl) (hpl : (backTo pos (starEach [] X.env)).any (·.1) = false := by rfl) : El X W (.Call (.Name "list" p) [e] [] pos) ρ R := by
  refine ⟨fun σ H B Q L k => (pe_callTy call_list_of hg hm boot_list (pa_cons pe_w pa_nil he) (by decide) (by decide) he hpl).toZ ?_⟩
  refine h.run σ H B _ L fun v H1 B1 d s1 L1 D1 h2 => ?_
  cases d <;> first | exact h2.elim | skip
  · rename_i ds
    obtain ⟨q, vs, rfl, h3, h4⟩ := dp_list D1
    refine ⟨q, vs, rfl, .inl (SqL.of (L1.gr.sub _ _ h3)), fun l hl => ?_⟩
    obtain ⟨L', q1, q2, q3, q4⟩ := fresh_own L1 hl ds vs h4
    exact k l vs _ B1 ds s1 L' q1 q2 q3 q4 h4 h2
  · rename_i ds
    obtain ⟨q, vs, rfl, h3, h4⟩ := dp_tup D1
    refine ⟨q, vs, rfl, .inr (seqT L1.gr.sub h3), fun l hl => ?_⟩
    obtain ⟨L', q1, q2, q3, q4⟩ := fresh_own L1 hl ds vs h4
    exact k l vs _ B1 ds s1 L' q1 q2 q3 q4 h4 h2
/-- tuple(xs) -/
theorem ev_tupleOf {p : Pos} {R : PyData → Prop} (hm : X.mg "tuple" = none) (h : Ev X W e ρ fun d => match d with | .list ds => R (.tuple ds) | .tuple ds => R (.tuple ds) | _ => False) (hg : Gl X "tuple" := by rfl)
    (he : starEach [e] X.env = (false, eval e X.env) :: starEach [] X.env := by rfl) (hpl : (backTo pos (starEach [] X.env)).any (·.1) = false := by rfl) : Ev X W (.Call (.Name "tuple" p) [e] [] pos) ρ R := by
  refine ⟨fun σ H B Q L k => (pe_callTy call_tuple_of hg hm boot_tuple (pa_cons pe_w pa_nil he) (by decide) (by decide) he hpl).toZ ?_⟩
  refine h.run σ H B _ L fun v H1 B1 d s1 L1 D1 h2 => ?_
  cases d <;> first | exact h2.elim | skip
  · rename_i ds
    obtain ⟨q, vs, rfl, h3, h4⟩ := dp_list D1
    refine ⟨q, vs, rfl, .inl ⟨SqL.of (L1.gr.sub _ _ h3), fun l hl => ?_⟩⟩
    obtain ⟨s, L'⟩ := L1.fresh hl (.tup vs)
    exact k _ _ _ _ (s1.trans s) L' (.tup (SqT.of upd_same) (dpAllMono s _ _ h4)) h2
  · rename_i ds
    obtain ⟨q, vs, rfl, h3, h4⟩ := dp_tup D1
    exact ⟨q, vs, rfl, .inr ⟨seqT L1.gr.sub h3, k _ H1 B1 _ s1 L1 D1 h2⟩⟩
end

/-! ### defs -/
def startZ (N : List Str) (ds : List PyData) : List Sl := ds.map Sl.im ++ List.replicate (N.length - ds.length) Sl.no
theorem start_im {K : PySem.W.Frag} {B : Hp} : ∀ {ds : List PyData} {vs : List V}, DqAll K B vs ds → ∀ (i : Nat) (sl : Sl), (ds.map Sl.im)[i]? = some sl → ∃ v d, sl = .im d ∧ (vs.map some)[i]? = some (some v) ∧ Dq K B v d
  | [], _, _, i, sl, e => by simp at e
  | d :: ds, _, h, i, sl, e => by
    cases h with
    | cons h1 h2 =>
      cases i with
      | zero =>
        simp at e
        exact ⟨_, d, e.symm, by simp, h1⟩
      | succ i =>
        obtain ⟨v, d', a, b, c⟩ := start_im h2 i sl (by simpa using e)
        exact ⟨v, d', a, by simpa using b, c⟩
theorem start_ow {ds : List PyData} {n i : Nat} {sl : Sl} (e : (ds.map Sl.im ++ List.replicate n Sl.no)[i]? = some sl) : sl.ow = false := by
  have h := List.mem_of_getElem? e
  rcases List.mem_append.mp h with h | h
  · obtain ⟨d, _, rfl⟩ := List.mem_map.mp h
    rfl
  · rw [(List.mem_replicate.mp h).2]
    rfl
theorem start_lay {K : PySem.W.Frag} {B H : Hp} {N : List Str} {ds : List PyData} {vs : List V} {T : Option Addr} {ns : Addr × List Int} (s : Same B H) (t : ∀ a, T = some a → Tape ns B H a) (h : DqAll K B vs ds) : Lay K ⟨T, ns, B, H⟩ B H (L2.start N vs) (startZ N ds) := by
  have hl := dpAll_len h
  refine ⟨Gr.refl s t, by simp [L2.start, startZ, hl], fun i sl e => ?_, fun i j s t _ e1 _ o1 _ => by rw [start_ow e1] at o1; cases o1⟩
  unfold startZ at e
  by_cases hi : i < ds.length
  · rw [List.getElem?_append_left (by simpa using hi)] at e
    obtain ⟨v, d, rfl, e2, Dv⟩ := start_im h i sl e
    refine ⟨v, ?_, Dv⟩
    unfold L2.start
    rw [List.getElem?_append_left (by simp; omega)]
    exact e2
  · have e3 := List.mem_of_getElem? (by rw [List.getElem?_append_right (by simpa using hi)] at e; exact e)
    rw [(List.mem_replicate.mp e3).2]
    trivial
section
variable {P : Program} {w : World} {K : PySem.W.Frag} {mg : Str → Option Value} {base : Heap}
/-- the context of a def's body -/
abbrev Bx (P : Program) (w : World) (K : PySem.W.Frag) (mg : Str → Option Value) (base : Heap) (N : List Str) (qual : Str) (sc : Scope) (f : Addr) (cdv : Value) (A : Around) (outer : List Env) (s : Shared) (H : Hp) (E : XK) : Cx := (cxOf CX0 P w K mg base N qual sc f cdv A outer s H E).nox
theorem fn_con {x qual : Str} {st : Stmt} {f : Addr} {fd : FuncData} {N ps : List Str} {k : Nat} {P' : List PyData → (PyData → Prop) → Prop} (F : Fun K x qual st f fd) (S : FnScope N ps (defScope st)) (len : ∀ ds R, P' ds R → ds.length = ps.length)
    (body : ∀ (cdv : Value) (A : Around) (outer : List Env) (s : Shared) (H : Hp) (E : XK) (W : Wd) (ds : List PyData) (R : PyData → Prop), Room k (Bx P w K mg base N qual (defScope st) f cdv A outer s H E).A → P' ds R →
      Ess (Bx P w K mg base N qual (defScope st) f cdv A outer s H E) W (defBody st) (startZ N ds) { nx := fun _ => R .none, rt := R }) : FnOk P w K mg base CX0 (k + 1) f fd ps (Con K P') := by
  refine F.ok S (fun vs H Q E h => ?_) (fun cdv A outer s H vs Q E hr h => ?_)
  · obtain ⟨B, ds, R, _, h1, h2, _⟩ := h
    rw [dpAll_len h1]
    exact len ds R h2
  · obtain ⟨B, ds, R, sB, h1, h2, q⟩ := h
    refine ⟨_, pss_w, ?_⟩
    intro pins s0 I
    have L := start_lay (N := N) (T := none) (ns := (0, [])) sB (fun _ z => by cases z) h1
    refine thn ((body cdv A outer s H E ⟨none, (0, []), B, H⟩ ds R hr h2).run _ _ _ L pins s0 I) fun fl s' hs => ?_
    cases fl with
    | next => obtain ⟨σ', H', I', B', ρ', s', L', r⟩ := hs; exact ⟨σ', H', I', q .non H' B' .none L'.gr .non r⟩
    | brk => obtain ⟨σ', H', I', B', ρ', s', L', r⟩ := hs; exact r.elim
    | cont => obtain ⟨σ', H', I', B', ρ', s', L', r⟩ := hs; exact r.elim
    | ret u => obtain ⟨v, σ', H', I', r, B', d, g, Dv, rr⟩ := hs; exact ⟨v, σ', H', I', r, q v H' B' d g Dv rr⟩
/-- .. of a def that takes the tape first -/
theorem fn_conT {x qual : Str} {st : Stmt} {f : Addr} {fd : FuncData} {N ps : List Str} {k : Nat} {P' : List PyData → (PyData → Prop) → Prop} (F : Fun K x qual st f fd) (S : FnScope N ps (defScope st)) (len : ∀ ds R, P' ds R → ds.length + 1 = ps.length)
    (body : ∀ (cdv : Value) (A : Around) (outer : List Env) (s : Shared) (H : Hp) (E : XK) (W : Wd) (ds : List PyData) (R : PyData → Prop), Room k (Bx P w K mg base N qual (defScope st) f cdv A outer s H E).A → P' ds R →
      Ess (Bx P w K mg base N qual (defScope st) f cdv A outer s H E) W (defBody st) (.tape :: startZ N.tail ds) { nx := fun _ => R .none, rt := R }) (hN : N ≠ [] := by simp) : FnOk P w K mg base CX0 (k + 1) f fd ps (ConT K P') := by
  refine F.ok S (fun vs H Q E h => ?_) (fun cdv A outer s H vs Q E hr h => ?_)
  · obtain ⟨B, ds, R, T, ns, vs', rfl, _, _, h1, h2, _⟩ := h
    rw [List.length_cons, dpAll_len h1]
    exact len ds R h2
  · obtain ⟨B, ds, R, T, ns, vs', rfl, sB, tp, h1, h2, q⟩ := h
    refine ⟨_, pss_w, ?_⟩
    intro pins s0 I
    have tt : ∀ a, some T = some a → Tape ns B H a := fun a z => by cases z; exact tp
    have L0 := start_lay (N := N.tail) (T := some T) sB tt h1
    have e1 : L2.start N (V.ref T :: vs') = some (V.ref T) :: L2.start N.tail vs' := by
      cases N with
      | nil => exact absurd rfl hN
      | cons n N => simp [L2.start]
    have L : Lay K ⟨some T, ns, B, H⟩ B H (L2.start N (V.ref T :: vs')) (.tape :: startZ N.tail ds) := by
      rw [e1]
      refine ⟨L0.gr, by simp [L0.len], fun i sl e => ?_, fun i j s t hne f1 f2 o1 o2 => ?_⟩
      · cases i with
        | zero =>
          simp at e
          subst e
          exact ⟨T, rfl, by simp⟩
        | succ i => simpa using L0.at' i sl (by simpa using e)
      · cases i with
        | zero =>
          simp at f1
          subst f1
          cases o1
        | succ i =>
          have f1' : (startZ N.tail ds)[i]? = some s := by simpa using f1
          rw [start_ow f1'] at o1
          cases o1
    refine thn ((body cdv A outer s H E ⟨some T, ns, B, H⟩ ds R hr h2).run _ _ _ L pins s0 I) fun fl s' hs => ?_
    cases fl with
    | next => obtain ⟨σ', H', I', B', ρ', s', L', r⟩ := hs; exact ⟨σ', H', I', q .non H' B' .none L'.gr .non r⟩
    | brk => obtain ⟨σ', H', I', B', ρ', s', L', r⟩ := hs; exact r.elim
    | cont => obtain ⟨σ', H', I', B', ρ', s', L', r⟩ := hs; exact r.elim
    | ret u => obtain ⟨v, σ', H', I', r, B', d, g, Dv, rr⟩ := hs; exact ⟨v, σ', H', I', r, q v H' B' d g Dv rr⟩
end
end Z

namespace Z
open PySem PySem.Spec PyProof.Rows L2
theorem zu {k : Nat} {A : Around} (hr : Room k A) : A.units + 64 < cLine := by have := hr.un; omega
theorem zu5 {k : Nat} {A : Around} (hr : Room k A) : A.units + 65 < cLine := by have := hr.un; omega
theorem zu1 {k : Nat} {A : Around} (hr : Room k A) : A.units + 1 < cLine := by have := hr.un; omega
theorem dB {p A B : Prop} [Decidable p] (h1 : p → A) (h2 : ¬ p → B) : (decide p = true → A) ∧ (decide p = false → B) := ⟨fun h => h1 (of_decide_eq_true h), fun h => h2 (of_decide_eq_false h)⟩
theorem dN {p A B : Prop} [Decidable p] (h1 : ¬ p → A) (h2 : p → B) : ((!decide p) = true → A) ∧ ((!decide p) = false → B) := ⟨fun h => h1 (by simpa using h), fun h => h2 (by simpa using h)⟩
theorem divs {i j : Int} (h : 0 < j) (h2 : j < 10 ^ 60) : CDivW i j := wide_div (b := 200) h (by omega) (by decide) (by decide)
theorem mull {i j : Int} (h : -(2 ^ 63) ≤ i) (h2 : i ≤ 2 ^ 63) : CMul i j := .inl ⟨by omega, by omega⟩
theorem mulr {i j : Int} (h : -(2 ^ 63) ≤ j) (h2 : j ≤ 2 ^ 63) : CMul i j := .inr ⟨by omega, by omega⟩
/-- an item of a written list at a place within -/
theorem pick {ds : List PyData} {n : Int} {Pr : PyData → Prop} (h0 : 0 ≤ n) (h1 : n < ds.length) (h : ∀ d ∈ ds, Pr d) : ∃ d, atI ds n = some d ∧ Pr d := by
  obtain ⟨k, rfl⟩ := Int.eq_ofNat_of_zero_le h0
  have hk : k < ds.length := by omega
  exact ⟨ds[k], atI_nat (List.getElem?_eq_getElem hk), h _ (List.getElem_mem hk)⟩
section
variable {X : Cx} {W : Wd} {ρ : List Sl} {D : Dz} {R : PyData → Prop} {pos : Pos} {a b c e : Expr} {es : List Expr} {st : Stmt} {sts body : List Stmt}
theorem ev_powc {x y m : Int} {j1 j2 p1 p2} (h : R (.int m)) (hc : CPow x y := by exact ⟨by decide, by decide, by decide⟩) (hm : x ^ y.toNat = m := by decide) : Ev X W (.BinOp (.Constant (.int x) j1 p1) .Pow (.Constant (.int y) j2 p2) pos) ρ R := by
  subst hm
  exact ev_bin oz_pow (ev_int (ev_int ⟨hc, h⟩))
theorem Es.imp {D' : Dz} (h : Es X W st ρ D) (h1 : ∀ r, D.nx r → D'.nx r) (h2 : ∀ d, D.rt d → D'.rt d) (h3 : ∀ r, D.bk r → D'.bk r) (h4 : ∀ r, D.ct r → D'.ct r) : Es X W st ρ D' := by
  refine ⟨fun σ H B L pins s I => ?_⟩
  refine thn (h.run σ H B L pins s I) fun f s' q => ?_
  cases f with
  | next => obtain ⟨σ', H', I', B', ρ', s0, L', q⟩ := q; exact ⟨σ', H', I', B', ρ', s0, L', h1 _ q⟩
  | brk => obtain ⟨σ', H', I', B', ρ', s0, L', q⟩ := q; exact ⟨σ', H', I', B', ρ', s0, L', h3 _ q⟩
  | cont => obtain ⟨σ', H', I', B', ρ', s0, L', q⟩ := q; exact ⟨σ', H', I', B', ρ', s0, L', h4 _ q⟩
  | ret u => obtain ⟨v, σ', H', I', r, B', d, g, D1, q⟩ := q; exact ⟨v, σ', H', I', r, B', d, g, D1, h2 _ q⟩
/-- the ways of a statement join -/
theorem ess_cut (Mid : List Sl → Prop) (h : Es X W st ρ { D with nx := Mid }) (h2 : ∀ r, Mid r → Ess X W sts r D) : Ess X W (st :: sts) ρ D :=
  ess_cons (h.imp h2 (fun _ q => q) (fun _ q => q) fun _ q => q)
/-- a, b, c = x, y, z of plain locals -/
theorem es_par3 (i j l : Nat) {x y z : Str} {px py pz pt : Pos} {kt k2 pt2} (h : Ea X W [a, b, c] ρ fun ds => match ds with | [d, e, f] => D.nx (((ρ.set i (.im d)).set j (.im e)).set l (.im f)) | _ => False) (hc : X.calm = true) (hN : X.N.Nodup)
    (hi : X.N[i]? = some x := by rfl) (hj : X.N[j]? = some y := by rfl) (hl : X.N[l]? = some z := by rfl) (hij : i ≠ j := by decide) (hil : i ≠ l := by decide) (hjl : j ≠ l := by decide)
    (hx : X.env.scope.names.lookup x = some .local := by rfl) (hy : X.env.scope.names.lookup y = some .local := by rfl) (hz : X.env.scope.names.lookup z = some .local := by rfl)
    (hw : swappedStores [.Tuple [.Name x px, .Name y py, .Name z pz] kt pt] (.Tuple [a, b, c] k2 pt2) X.env = pure (some [x, y, z]) := by rfl)
    (hs : swapsWithSole [.Tuple [.Name x px, .Name y py, .Name z pz] kt pt] (.Tuple [a, b, c] k2 pt2) pos.line X.env = pure false := by rfl) :
    Es X W (.Assign [.Tuple [.Name x px, .Name y py, .Name z pz] kt pt] (.Tuple [a, b, c] k2 pt2) pos) ρ D := by
  refine ⟨fun σ H B L => (ps_par3 hc hN hi hj hl hij hil hjl hx hy hz pa_w hw hs).toZ ?_⟩
  refine h.run σ H B _ L fun vs H' B' ds s L' D' r => ?_
  cases D' with
  | nil => exact r.elim
  | cons h1 h2 =>
    cases h2 with
    | nil => exact r.elim
    | cons h3 h4 =>
      cases h4 with
      | nil => exact r.elim
      | cons h5 h6 =>
        cases h6 with
        | nil => exact ⟨_, _, _, rfl, B', _, s, ((L'.put h1).put h3).put h5, r⟩
        | cons _ _ => exact r.elim

/-! ### isinstance -/
def tyD : PyData → String
  | .none => "NoneType"
  | .bool _ => "bool"
  | .int _ => "int"
  | .str _ => "str"
  | .list _ => "list"
  | .tuple _ => "tuple"
  | .dict _ => "dict"
theorem tyX_of {K : PySem.W.Frag} {B H : Hp} {v : V} {d : PyData} (s : Same B H) (h : Dq K B v d) : TyX K H v (.type (tyD d)) := by
  cases h with
  | non => exact .base .non
  | bl b => exact .base (.bl b)
  | int i => exact .base (.int i)
  | str x => exact .base (.str x)
  | lst h _ => exact .base (.lst (s _ _ h))
  | tup h _ =>
    rcases seqT s h with (h | ⟨o, h⟩) | ⟨o, its, n, hk, hc, _⟩
    · exact .base (.tup h)
    · exact .fTuple h
    · exact .kTuple hk hc
/-- is d of the class T -/
def isD (T : String) (d : PyData) : Bool := (kitB (tyD d) T).getD false
theorem boot_isinstance : bootBuiltins "isinstance" = some (.builtin "isinstance") := by decide +kernel
theorem boot_ty : bootBuiltins "int" = some (.type "int") ∧ bootBuiltins "bool" = some (.type "bool") ∧ bootBuiltins "str" = some (.type "str") := by decide +kernel
theorem ev_isi {T : Str} {n : String} {p p2 : Pos} (hm : X.mg "isinstance" = none) (hT : X.mg T = none) (hb : bootBuiltins T = some (.type n)) (h : Ev X W e ρ fun d => (kitB (tyD d) n).isSome = true ∧ R (.bool (isD n d))) (hg : Gl X "isinstance" := by rfl) (hg2 : Gl X T := by rfl)
    (he : starEach [e, .Name T p2] X.env = (false, eval e X.env) :: starEach [.Name T p2] X.env := by rfl) (he2 : starEach [.Name T p2] X.env = (false, eval (.Name T p2) X.env) :: starEach [] X.env := by rfl) (hpl : (backTo pos (starEach [.Name T p2] X.env)).any (·.1) = false := by rfl)
    (hn : T ≠ "__name__" := by decide) (hd : (T == ("__debug__" : Str)) = false := by decide) : Ev X W (.Call (.Name "isinstance" p) [e, .Name T p2] [] pos) ρ R := by
  refine ⟨fun σ H B Q L k => (pe_callB call_isi hg hm boot_isinstance (pa_cons pe_w (pa_cons (pe_bltn hg2 hT hb (v := .ty n) rfl hn hd) pa_nil he2) he) (by decide) (by decide) he hpl).toZ ?_⟩
  refine h.run σ H B _ L fun v H1 B1 d s1 L1 D1 h2 => ?_
  obtain ⟨r, hr⟩ := Option.isSome_iff_exists.mp h2.1
  refine ⟨v, .ty n, _, _, r, rfl, .ty n, tyX_of L1.gr.sub D1, kit_ty hr, ?_⟩
  have e1 : isD n d = r := by unfold isD; rw [hr]; rfl
  rw [← e1]
  exact k _ H1 B1 _ s1 L1 (.bl _) h2.2
/-- isinstance(e, (list, tuple)) -/
def isLT : PyData → Bool
  | .list _ => true
  | .tuple _ => true
  | _ => false
theorem kit_tab : ∀ t ∈ ["NoneType", "bool", "int", "str", "list", "tuple", "dict"], ∀ n ∈ ["int", "bool", "str", "list", "tuple"], kitB t n = some (t == n || (t == "bool" && n == "int")) := by decide +kernel
theorem tyD_mem (d : PyData) : tyD d ∈ ["NoneType", "bool", "int", "str", "list", "tuple", "dict"] := by
  cases d <;> simp [tyD]
theorem kit_of_tab (d : PyData) {n : String} (hn : n ∈ ["int", "bool", "str", "list", "tuple"]) : kitB (tyD d) n = some (tyD d == n || (tyD d == "bool" && n == "int")) := kit_tab _ (tyD_mem d) n hn
theorem isD_of (d : PyData) {n : String} (hn : n ∈ ["int", "bool", "str", "list", "tuple"]) : isD n d = (tyD d == n || (tyD d == "bool" && n == "int")) := by
  unfold isD
  rw [kit_of_tab d hn]
  rfl
theorem isLT_kit {K : PySem.W.Frag} (d : PyData) : PySem.W.kitAny K (.type (tyD d)) [.type "list", .type "tuple"] = some (isLT d) := by
  have q : ∀ d : PyData, kitB (tyD d) "list" = some (match d with | .list _ => true | _ => false) ∧ kitB (tyD d) "tuple" = some (match d with | .tuple _ => true | _ => false) := by
    intro d
    rw [kit_of_tab d (by simp), kit_of_tab d (by simp)]
    cases d <;> exact ⟨rfl, rfl⟩
  obtain ⟨q1, q2⟩ := q d
  refine kitAny_cons (kit_ty q1) (fun z => kitAny_cons (kit_ty q2) (fun z2 => ?_) fun z2 => ?_) fun z => ?_
  · rw [kitAny_nil]
    cases d <;> first | rfl | (simp at z; done) | (simp at z2; done)
  · cases d <;> first | rfl | (simp at z2; done)
  · cases d <;> first | rfl | (simp at z; done)
theorem ev_isiLT {p p1 p2 p3 : Pos} {x1} (hm : X.mg "isinstance" = none) (h1 : X.mg "list" = none) (h2 : X.mg "tuple" = none) (h : Ev X W e ρ fun d => R (.bool (isLT d))) (hg : Gl X "isinstance" := by rfl) (hgl : Gl X "list" := by rfl) (hgt : Gl X "tuple" := by rfl)
    (he : starEach [e, .Tuple [.Name "list" p1, .Name "tuple" p2] x1 p3] X.env = (false, eval e X.env) :: starEach [.Tuple [.Name "list" p1, .Name "tuple" p2] x1 p3] X.env := by rfl)
    (he2 : starEach [.Tuple [.Name "list" p1, .Name "tuple" p2] x1 p3] X.env = (false, eval (.Tuple [.Name "list" p1, .Name "tuple" p2] x1 p3) X.env) :: starEach [] X.env := by rfl)
    (he3 : starEach [.Name "list" p1, .Name "tuple" p2] X.env = (false, eval (.Name "list" p1) X.env) :: starEach [.Name "tuple" p2] X.env := by rfl) (he4 : starEach [.Name "tuple" p2] X.env = (false, eval (.Name "tuple" p2) X.env) :: starEach [] X.env := by rfl)
    (hpl : (backTo pos (starEach [.Tuple [.Name "list" p1, .Name "tuple" p2] x1 p3] X.env)).any (·.1) = false := by rfl) : Ev X W (.Call (.Name "isinstance" p) [e, .Tuple [.Name "list" p1, .Name "tuple" p2] x1 p3] [] pos) ρ R := by
  refine ⟨fun σ H B Q L k => (pe_callB call_isiT hg hm boot_isinstance (pa_cons pe_w (pa_cons (pe_tup (pa_cons (pe_bltn hgl h1 boot_list (v := .ty "list") rfl) (pa_cons (pe_bltn hgt h2 boot_tuple (v := .ty "tuple") rfl) pa_nil he4) he3)) pa_nil he2) he) (by decide) (by decide) he hpl).toZ ?_⟩
  refine h.run σ H B _ L fun v H1 B1 d s1 L1 D1 h2 => ?_
  refine ⟨by show 2 ≤ sizeLine; decide, fun t ht => ?_⟩
  obtain ⟨s, L'⟩ := L1.fresh ht (.tup [.ty "list", .ty "tuple"])
  exact ⟨v, t, _, _, [.type "list", .type "tuple"], isLT d, rfl, upd_same, .cons (.ty _) (.cons (.ty _) .nil), tyX_of L'.gr.sub (dpMono s _ _ D1), isLT_kit d, k _ _ _ _ (s1.trans s) L' (.bl _) h2⟩

/-! ### the law's tape -/
theorem Lay.tape {K : PySem.W.Frag} {B H : Hp} {σ : L2.St} (L : Lay K W B H σ ρ) {T : Addr} (hT : W.T = some T) {vs : List V} (t : Tape W.ns B (upd H T (.lst vs)) T) : Lay K W B (upd H T (.lst vs)) σ ρ := by
  obtain ⟨t1, t2⟩ := L.gr.tp T hT
  refine ⟨⟨same_right L.gr.sub t2.1, L.gr.base, L.gr.new, fun a o h1 h2 => ?_, fun T' h => ?_⟩, L.len, fun i sl e => (L.at' i sl e).grow (Same.refl _) fun a u g1 g2 g3 g4 g5 => ⟨g3, ?_⟩, L.dis⟩
  · have ha : a ≠ T := by
      rintro rfl
      exact h2 hT
    rw [upd_ne ha]
    exact L.gr.keep a o h1 h2
  · rw [hT] at h
    cases h
    exact ⟨t1, t⟩
  · have ha : a ≠ T := by
      rintro rfl
      exact t1 g4
    rw [upd_ne ha]
    exact g5
/-- tape[0], tape[1], tape[2] -/
theorem ev_tape0 (i : Nat) {x : Str} {px p2 : Pos} {j2} (hρ : ρ[i]? = some .tape) (h : R (.list (W.ns.2.map PyData.int))) (hN : X.N[i]? = some x := by rfl) (hv : Vis X.env.scope x := by first | exact Or.inl rfl | exact Or.inr (Or.inl rfl) | exact Or.inr (Or.inr rfl))
    (hd : (x == ("__debug__" : Str)) = false := by decide) (hcd : (x == ("__classdict__" : Str)) = false := by decide) : Ev X W (.Subscript (.Name x px) (.Constant (.int 0) j2 p2) pos) ρ R := by
  refine ⟨fun σ H B Q L k => (pe_ix ix_list (pe_var hN hv hd hcd) pe_int fun _ _ => rfl).toZ ?_⟩
  obtain ⟨T, hT, e1⟩ := L.at' i _ hρ
  obtain ⟨_, _, z, c, e, _, _, q⟩ := L.gr.tp T hT
  exact ⟨.ref T, e1, T, _, 0, .ref W.ns.1, rfl, rfl, SqL.of e, rfl, k _ H B _ (Same.refl _) L (.lst q (ints_dq _)) h⟩
theorem ev_tape1 (i : Nat) {x : Str} {px p2 : Pos} {j2} (hρ : ρ[i]? = some .tape) (h : ∀ z : Int, 0 ≤ z → R (.int z)) (hN : X.N[i]? = some x := by rfl) (hv : Vis X.env.scope x := by first | exact Or.inl rfl | exact Or.inr (Or.inl rfl) | exact Or.inr (Or.inr rfl))
    (hd : (x == ("__debug__" : Str)) = false := by decide) (hcd : (x == ("__classdict__" : Str)) = false := by decide) : Ev X W (.Subscript (.Name x px) (.Constant (.int 1) j2 p2) pos) ρ R := by
  refine ⟨fun σ H B Q L k => (pe_ix ix_list (pe_var hN hv hd hcd) pe_int fun _ _ => rfl).toZ ?_⟩
  obtain ⟨T, hT, e1⟩ := L.at' i _ hρ
  obtain ⟨_, _, z, c, e, z0, _, q⟩ := L.gr.tp T hT
  exact ⟨.ref T, e1, T, _, 1, .int z, rfl, rfl, SqL.of e, rfl, k _ H B _ (Same.refl _) L (.int z) (h z z0)⟩
theorem ev_tape2 (i : Nat) {x : Str} {px p2 : Pos} {j2} (hρ : ρ[i]? = some .tape) (h : ∀ z : Int, 0 ≤ z → R (.int z)) (hN : X.N[i]? = some x := by rfl) (hv : Vis X.env.scope x := by first | exact Or.inl rfl | exact Or.inr (Or.inl rfl) | exact Or.inr (Or.inr rfl))
    (hd : (x == ("__debug__" : Str)) = false := by decide) (hcd : (x == ("__classdict__" : Str)) = false := by decide) : Ev X W (.Subscript (.Name x px) (.Constant (.int 2) j2 p2) pos) ρ R := by
  refine ⟨fun σ H B Q L k => (pe_ix ix_list (pe_var hN hv hd hcd) pe_int fun _ _ => rfl).toZ ?_⟩
  obtain ⟨T, hT, e1⟩ := L.at' i _ hρ
  obtain ⟨_, _, z, c, e, _, c0, q⟩ := L.gr.tp T hT
  exact ⟨.ref T, e1, T, _, 2, .int c, rfl, rfl, SqL.of e, rfl, k _ H B _ (Same.refl _) L (.int c) (h c c0)⟩
/-- tape[1] = e, tape[2] = e -/
theorem es_tape (i : Nat) {x : Str} {px p2 p3 : Pos} {j : Int} {j2} (hj : j = 1 ∨ j = 2) (hρ : ρ[i]? = some .tape) (h : Ev X W e ρ fun d => match d with | .int z => 0 ≤ z ∧ D.nx ρ | _ => False) (hN : X.N[i]? = some x := by rfl)
    (hv : Vis X.env.scope x := by first | exact Or.inl rfl | exact Or.inr (Or.inl rfl) | exact Or.inr (Or.inr rfl)) (hd : (x == ("__debug__" : Str)) = false := by decide) (hcd : (x == ("__classdict__" : Str)) = false := by decide)
    (ha : ∀ v, assign (.Subscript (.Name x px) (.Constant (.int j) j2 p3) p2) X.env v = (do
      let ov ← holding [v] (eval (.Name x px) X.env)
      let iv ← holding [v, ov] (eval (.Constant (.int j) j2 p3) X.env)
      standAt p2
      holding [v, ov, iv] (setItem ov iv v)
      release [v, ov, iv] []) := by intro _; rfl) (hs : swapsWithSole [.Subscript (.Name x px) (.Constant (.int j) j2 p3) p2] e pos.line X.env = pure false := by rfl) (hw : swappedStores [.Subscript (.Name x px) (.Constant (.int j) j2 p3) p2] e X.env = pure none := by rfl)
    (h1 : (assignEach [.Subscript (.Name x px) (.Constant (.int j) j2 p3) p2] X.env).map (·.2) = [assign (.Subscript (.Name x px) (.Constant (.int j) j2 p3) p2) X.env] := by rfl) : Es X W (.Assign [.Subscript (.Name x px) (.Constant (.int j) j2 p3) p2] e pos) ρ D := by
  refine ⟨fun σ H B L => (ps_asg pe_w (pg_sub (pe_var hN hv hd hcd) pe_int set_list ha) hs hw h1).toZ ?_⟩
  refine h.run σ H B _ L fun v H1 B1 d s1 L1 D1 h2 => ?_
  cases d <;> first | exact h2.elim | skip
  rename_i z
  cases dp_int D1
  obtain ⟨T, hT, e1⟩ := L1.at' i _ hρ
  obtain ⟨_, t1, z0, c, e, hz0, hc0, q⟩ := L1.gr.tp T hT
  rcases hj with rfl | rfl
  · exact ⟨.ref T, e1, T, _, 1, 1, rfl, rfl, e, rfl, B1, ρ, s1, L1.tape hT ⟨t1, z, c, upd_same, h2.1, hc0, q⟩, h2.2⟩
  · exact ⟨.ref T, e1, T, _, 2, 2, rfl, rfl, e, rfl, B1, ρ, s1, L1.tape hT ⟨t1, z0, z, upd_same, hz0, h2.1, q⟩, h2.2⟩
end
/-- the law's promise -/
def spLaw (K : PySem.W.Frag) : Sp := fun vs H Q _ => ∃ (a : Addr) (ns : List Int), vs = [.ref a] ∧ SqL K H a (ns.map V.int) ∧ ns.length ≤ 63 ∧ ∀ H', Q (.bl true) H'
section
variable {P : Program} {w : World} {K : PySem.W.Frag} {mg : Str → Option Value} {base : Heap}
theorem lay_start {K : PySem.W.Frag} {W : Wd} {B H : Hp} (g : Gr K W B H) {T : Addr} (hT : W.T = some T) {σ : L2.St} (i : Nat) (e : σ[i]? = some (some (.ref T))) : Lay K W B H σ ((List.replicate σ.length Sl.no).set i .tape) := by
  refine ⟨g, by simp, fun j sl q => ?_, fun j k s t hne q1 q2 o1 o2 => ?_⟩
  · by_cases hj : i = j
    · subst hj
      have hl := (List.getElem?_eq_some_iff.mp e).1
      rw [List.getElem?_set_self (by simpa using hl)] at q
      cases q
      exact ⟨T, hT, e⟩
    · rw [List.getElem?_set_ne hj] at q
      have := List.mem_of_getElem? q
      rw [(List.mem_replicate.mp this).2]
      trivial
  · by_cases hj : i = j
    · subst hj
      have hl := (List.getElem?_eq_some_iff.mp e).1
      rw [List.getElem?_set_self (by simpa using hl)] at q1
      cases q1
      cases o1
    · rw [List.getElem?_set_ne hj] at q1
      have := List.mem_of_getElem? q1
      rw [(List.mem_replicate.mp this).2] at o1
      cases o1
/-- the law: tape = [list(script), 0, 0], then the rest over the tape -/
theorem fn_law {st : Stmt} {f : Addr} {fd : FuncData} {N : List Str} {k : Nat} (i : Nat) (F : Fun K "law" "law" st f fd) (S : FnScope N ["script"] (defScope st)) (nl : mg "list" = none) {p1 p2 p3 p4 p5 p6 p7 p8 : Pos} {k1 k2} {rest : List Stmt}
    (hb : defBody st = .Assign [.Name "tape" p1] (.List [.Call (.Name "list" p2) [.Name "script" p3] [] p4, .Constant (.int 0) k1 p5, .Constant (.int 0) k2 p6] p7) p8 :: rest)
    (hi : N[i]? = some ("tape" : Str)) (h0 : N[0]? = some ("script" : Str)) (hx : Loc (defScope st) "tape") (hv : Vis (defScope st) "script") (hg : (defScope st).names.lookup ("list" : Str) = some .globalImplicit) (hi0 : i ≠ 0)
    (body : ∀ (cdv : Value) (A : Around) (outer : List Env) (s : Shared) (H : Hp) (E : XK) (W : Wd), Room k (Bx P w K mg base N "law" (defScope st) f cdv A outer s H E).A → W.ns.2.length ≤ 63 →
      Ess (Bx P w K mg base N "law" (defScope st) f cdv A outer s H E) W rest ((List.replicate N.length Sl.no).set i .tape) { nx := fun _ => False, rt := fun d => d = .bool true }) : FnOk P w K mg base CX0 (k + 1) f fd ["script"] (spLaw K) := by
  refine F.ok S (fun vs H Q E h => ?_) (fun cdv A outer s H vs Q E hr h => ?_)
  · obtain ⟨a, ns, rfl, _⟩ := h
    rfl
  · obtain ⟨a, ns, rfl, hS, hlen, q⟩ := h
    rw [hb]
    refine ⟨_, pss_cons (ps_set (i := i) S.nd hi hx (pe_lst (pa_cons (pe_callTy call_list_of hg nl boot_list (pa_cons (pe_var (i := 0) h0 hv) pa_nil)) (pa_cons pe_int (pa_cons pe_int pa_nil)))) (by rfl) (.inl rfl)) pss_w, ?_⟩
    have e0 : (L2.start N [V.ref a])[0]? = some (some (.ref a)) := by simp [L2.start]
    refine ⟨.ref a, e0, a, _, rfl, .inl hS, fun l hl => ⟨by show 3 ≤ sizeLine; decide, fun t ht => ?_⟩⟩
    intro pins s0 I
    have hlt : t ≠ l := by
      rintro rfl
      rw [upd_same] at ht
      cases ht
    have s1 : Same (upd H l (.lst (ns.map V.int))) (upd (upd H l (.lst (ns.map V.int))) t (.lst [.ref l, .int 0, .int 0])) := same_new ht
    have tp : ∀ x, some t = some x → Tape (l, ns) (upd H l (.lst (ns.map V.int))) (upd (upd H l (.lst (ns.map V.int))) t (.lst [.ref l, .int 0, .int 0])) x := fun x z => by
      cases z
      exact ⟨ht, 0, 0, upd_same, by decide, by decide, upd_same⟩
    have hl2 : i < (L2.start N [V.ref a]).length := by
      have := (List.getElem?_eq_some_iff.mp hi).1
      simp [L2.start]
      omega
    have L := lay_start (K := K) (Gr.refl s1 tp) (T := t) rfl (σ := (L2.start N [V.ref a]).set i (some (.ref t))) i (by rw [List.getElem?_set_self hl2])
    have el : ((L2.start N [V.ref a]).set i (some (.ref t))).length = N.length := by
      have := (List.getElem?_eq_some_iff.mp h0).1
      simp [L2.start]
      omega
    rw [el] at L
    refine thn ((body cdv A outer s H E ⟨some t, (l, ns), _, _⟩ hr hlen).run _ _ _ L pins s0 I) fun fl s' hs => ?_
    cases fl with
    | next => obtain ⟨σ', H', I', B', ρ', s', L', r⟩ := hs; exact r.elim
    | brk => obtain ⟨σ', H', I', B', ρ', s', L', r⟩ := hs; exact r.elim
    | cont => obtain ⟨σ', H', I', B', ρ', s', L', r⟩ := hs; exact r.elim
    | ret u =>
      obtain ⟨v, σ', H', I', r, B', d, g, Dv, rr⟩ := hs
      subst rr
      cases dp_bool Dv
      exact ⟨.bl true, σ', H', I', r, q H'⟩
end
end Z

namespace Z
open PySem PySem.Spec PyProof.Rows L2
def isIntD : PyData → Bool | .int _ => true | .bool _ => true | _ => false
def isBoolD : PyData → Bool | .bool _ => true | _ => false
def isListD : PyData → Bool | .list _ => true | _ => false
def isTupD : PyData → Bool | .tuple _ => true | _ => false
def isStrD : PyData → Bool | .str _ => true | _ => false
theorem boot_int' : bootBuiltins "int" = some (.type "int") := by decide +kernel
theorem boot_bool' : bootBuiltins "bool" = some (.type "bool") := by decide +kernel
theorem boot_str' : bootBuiltins "str" = some (.type "str") := by decide +kernel
theorem isD_int (d : PyData) : isD "int" d = isIntD d := by rw [isD_of d (by simp)]; cases d <;> rfl
theorem isD_bool (d : PyData) : isD "bool" d = isBoolD d := by rw [isD_of d (by simp)]; cases d <;> rfl
theorem isD_list (d : PyData) : isD "list" d = isListD d := by rw [isD_of d (by simp)]; cases d <;> rfl
theorem isD_tuple (d : PyData) : isD "tuple" d = isTupD d := by rw [isD_of d (by simp)]; cases d <;> rfl
theorem isD_str (d : PyData) : isD "str" d = isStrD d := by rw [isD_of d (by simp)]; cases d <;> rfl
section
variable {X : Cx} {W : Wd} {ρ : List Sl} {D : Dz} {R : PyData → Prop} {pos : Pos} {a b c e : Expr} {es : List Expr} {st : Stmt} {sts body : List Stmt}
theorem ev_isInt {p p2 : Pos} (hm : X.mg "isinstance" = none) (hT : X.mg "int" = none) (h : Ev X W e ρ fun d => R (.bool (isIntD d))) (hg : Gl X "isinstance" := by rfl) (hg2 : Gl X "int" := by rfl)
    (he : starEach [e, .Name "int" p2] X.env = (false, eval e X.env) :: starEach [.Name "int" p2] X.env := by rfl) (he2 : starEach [.Name "int" p2] X.env = (false, eval (.Name "int" p2) X.env) :: starEach [] X.env := by rfl) (hpl : (backTo pos (starEach [.Name "int" p2] X.env)).any (·.1) = false := by rfl) :
    Ev X W (.Call (.Name "isinstance" p) [e, .Name "int" p2] [] pos) ρ R :=
  ev_isi hm hT boot_int' (h.imp fun d q => ⟨by rw [kit_of_tab d (by simp)]; rfl, by rw [isD_int]; exact q⟩) hg hg2 he he2 hpl
theorem ev_isBool {p p2 : Pos} (hm : X.mg "isinstance" = none) (hT : X.mg "bool" = none) (h : Ev X W e ρ fun d => R (.bool (isBoolD d))) (hg : Gl X "isinstance" := by rfl) (hg2 : Gl X "bool" := by rfl)
    (he : starEach [e, .Name "bool" p2] X.env = (false, eval e X.env) :: starEach [.Name "bool" p2] X.env := by rfl) (he2 : starEach [.Name "bool" p2] X.env = (false, eval (.Name "bool" p2) X.env) :: starEach [] X.env := by rfl) (hpl : (backTo pos (starEach [.Name "bool" p2] X.env)).any (·.1) = false := by rfl) :
    Ev X W (.Call (.Name "isinstance" p) [e, .Name "bool" p2] [] pos) ρ R :=
  ev_isi hm hT boot_bool' (h.imp fun d q => ⟨by rw [kit_of_tab d (by simp)]; rfl, by rw [isD_bool]; exact q⟩) hg hg2 he he2 hpl
theorem ev_isList {p p2 : Pos} (hm : X.mg "isinstance" = none) (hT : X.mg "list" = none) (h : Ev X W e ρ fun d => R (.bool (isListD d))) (hg : Gl X "isinstance" := by rfl) (hg2 : Gl X "list" := by rfl)
    (he : starEach [e, .Name "list" p2] X.env = (false, eval e X.env) :: starEach [.Name "list" p2] X.env := by rfl) (he2 : starEach [.Name "list" p2] X.env = (false, eval (.Name "list" p2) X.env) :: starEach [] X.env := by rfl) (hpl : (backTo pos (starEach [.Name "list" p2] X.env)).any (·.1) = false := by rfl) :
    Ev X W (.Call (.Name "isinstance" p) [e, .Name "list" p2] [] pos) ρ R :=
  ev_isi hm hT boot_list (h.imp fun d q => ⟨by rw [kit_of_tab d (by simp)]; rfl, by rw [isD_list]; exact q⟩) hg hg2 he he2 hpl
theorem ev_isTup {p p2 : Pos} (hm : X.mg "isinstance" = none) (hT : X.mg "tuple" = none) (h : Ev X W e ρ fun d => R (.bool (isTupD d))) (hg : Gl X "isinstance" := by rfl) (hg2 : Gl X "tuple" := by rfl)
    (he : starEach [e, .Name "tuple" p2] X.env = (false, eval e X.env) :: starEach [.Name "tuple" p2] X.env := by rfl) (he2 : starEach [.Name "tuple" p2] X.env = (false, eval (.Name "tuple" p2) X.env) :: starEach [] X.env := by rfl) (hpl : (backTo pos (starEach [.Name "tuple" p2] X.env)).any (·.1) = false := by rfl) :
    Ev X W (.Call (.Name "isinstance" p) [e, .Name "tuple" p2] [] pos) ρ R :=
  ev_isi hm hT boot_tuple (h.imp fun d q => ⟨by rw [kit_of_tab d (by simp)]; rfl, by rw [isD_tuple]; exact q⟩) hg hg2 he he2 hpl
theorem ev_isStr {p p2 : Pos} (hm : X.mg "isinstance" = none) (hT : X.mg "str" = none) (h : Ev X W e ρ fun d => R (.bool (isStrD d))) (hg : Gl X "isinstance" := by rfl) (hg2 : Gl X "str" := by rfl)
    (he : starEach [e, .Name "str" p2] X.env = (false, eval e X.env) :: starEach [.Name "str" p2] X.env := by rfl) (he2 : starEach [.Name "str" p2] X.env = (false, eval (.Name "str" p2) X.env) :: starEach [] X.env := by rfl) (hpl : (backTo pos (starEach [.Name "str" p2] X.env)).any (·.1) = false := by rfl) :
    Ev X W (.Call (.Name "isinstance" p) [e, .Name "str" p2] [] pos) ρ R :=
  ev_isi hm hT boot_str' (h.imp fun d q => ⟨by rw [kit_of_tab d (by simp)]; rfl, by rw [isD_str]; exact q⟩) hg hg2 he he2 hpl
/-- == of two bools -/
theorem oz_eqB : OpZ X (compareOp .Eq) (fun x y R => match x, y with | .bool i, .bool j => R (.bool (decide (i = j))) | _, _ => False) := by
  refine ⟨_, op_eq, fun W σ ρ H B v u d e R Q L D1 D2 r k => ?_⟩
  cases d <;> cases e <;> first | exact r.elim | skip
  rename_i i j
  cases dp_bool D1
  cases dp_bool D2
  refine ⟨rfl, ?_⟩
  have e1 : decide (V.bl i = V.bl j) = decide (i = j) := by
    by_cases h : i = j
    · subst h; simp
    · rw [decide_eq_false h, decide_eq_false fun q => h (V.bl.inj q)]
  rw [e1]
  exact k _ H B _ (Same.refl _) L (.bl _) r
theorem oz_neB : OpZ X (compareOp .NotEq) (fun x y R => match x, y with | .bool i, .bool j => R (.bool (!decide (i = j))) | _, _ => False) := by
  refine ⟨_, op_ne, fun W σ ρ H B v u d e R Q L D1 D2 r k => ?_⟩
  cases d <;> cases e <;> first | exact r.elim | skip
  rename_i i j
  cases dp_bool D1
  cases dp_bool D2
  refine ⟨rfl, ?_⟩
  have e1 : decide (V.bl i = V.bl j) = decide (i = j) := by
    by_cases h : i = j
    · subst h; simp
    · rw [decide_eq_false h, decide_eq_false fun q => h (V.bl.inj q)]
  rw [e1]
  exact k _ H B _ (Same.refl _) L (.bl _) r
end
end Z

namespace Z
open PySem PySem.Spec PyProof.Rows L2
theorem noF {A B : Prop} (h : B) : (false = true → A) ∧ (false = false → B) := ⟨fun z => (by cases z), fun _ => h⟩
theorem yesT {A B : Prop} (h : A) : (true = true → A) ∧ (true = false → B) := ⟨fun _ => h, fun z => (by cases z)⟩
section
variable {X : Cx} {W : Wd} {ρ : List Sl} {D : Dz} {R : PyData → Prop} {pos : Pos} {a b c e : Expr} {es : List Expr} {st : Stmt} {sts body : List Stmt}
/-- is not True, of a bool -/
theorem et_notTrue {R : Bool → Prop} {j p2} (h : Ev X W e ρ (tst fun k => R (!k))) : Et X W (.Compare e [.IsNot] [.Constant (.bool true) j p2] pos) ρ R := by
  refine ⟨fun σ H B Q L k => (pt_cmpR op_isnot_bl pe_w pe_bl (nomark _)).toZ ?_⟩
  refine h.run σ H B _ L fun v H1 B1 d s1 L1 D1 h2 => ?_
  cases d <;> first | exact h2.elim | skip
  rename_i kk
  refine ⟨kk, true, dp_bool D1, rfl, _, rfl, ?_⟩
  have e1 : (!decide (kk = true)) = !kk := by cases kk <;> rfl
  rw [e1]
  exact k _ H1 B1 s1 L1 h2
/-- is True, of a bool -/
theorem ev_isTrue {j p2} (h : Ev X W e ρ (tst fun k => R (.bool k))) : Ev X W (.Compare e [.Is] [.Constant (.bool true) j p2] pos) ρ R := by
  refine ⟨fun σ H B Q L k => (pe_cmpR op_is_bl pe_w pe_bl (nomark _)).toZ ?_⟩
  refine h.run σ H B _ L fun v H1 B1 d s1 L1 D1 h2 => ?_
  cases d <;> first | exact h2.elim | skip
  rename_i kk
  refine ⟨kk, true, dp_bool D1, rfl, ?_⟩
  have e1 : (decide (kk = true)) = kk := by cases kk <;> rfl
  rw [e1]
  exact k _ H1 B1 _ s1 L1 (.bl _) h2
/-! ### slices -/
def cutD (xs : List PyData) (lo hi : Option Int) : List PyData := (xs.drop (HT.sIx xs.length 0 lo)).take (HT.sIx xs.length xs.length hi - HT.sIx xs.length 0 lo)
theorem cut_dq {K : PySem.W.Frag} {B : Hp} {ds : List PyData} {vs : List V} (h : DqAll K B vs ds) (lo hi : Option Int) : DqAll K B (cutV vs lo hi) (cutD ds lo hi) := by
  unfold cutV cutD
  rw [dpAll_len h]
  exact dpAll_take _ (dpAll_drop _ h)
def tWo (X : Cx) (o : Option Expr) : TO := match o with
  | none => tNoPart
  | some e => tPart (tW X e)
theorem po_w {o : Option Expr} : PO X o (tWo X o) := match o with
  | none => po_none
  | some _ => po_some pe_w
structure Eo (X : Cx) (W : Wd) (o : Option Expr) (ρ : List Sl) (R : Option Int → Prop) : Prop where
  run : ∀ (σ : L2.St) (H B : Hp) (Q : Option Int → Hp → Prop), Lay X.K W B H σ ρ → (∀ v H' B', Same B B' → Lay X.K W B' H' σ ρ → R v → Q v H') → tWo X o σ H Q
theorem eo_none {R : Option Int → Prop} (h : R none) : Eo X W none ρ R := ⟨fun σ H B Q L k => k none H B (Same.refl _) L h⟩
@[reducible] def rInt : PyData → (Int → Prop) → Prop
  | .int i, R => R i
  | _, _ => False
theorem eo_some {R : Option Int → Prop} (h : Ev X W e ρ fun d => rInt d fun i => R (some i)) : Eo X W (some e) ρ R := by
  refine ⟨fun σ H B Q L k => ?_⟩
  refine h.run σ H B _ L fun v H1 B1 d s1 L1 D1 h2 => ?_
  cases d <;> first | exact h2.elim | skip
  exact ⟨_, dp_int D1, k _ H1 B1 s1 L1 h2⟩
/-- t[lo:hi] of a tuple -/
theorem ev_slT {lo hi : Option Expr} {p2 : Pos} (h : Ev X W e ρ fun d => Eo X W lo ρ fun l => Eo X W hi ρ fun u => match d with | .tuple ds => R (.tuple (cutD ds l u)) | _ => False) : Ev X W (.Subscript e (.Slice lo hi none p2) pos) ρ R := by
  refine ⟨fun σ H B Q L k => (pe_slice sl_tupA pe_w po_w po_w).toZ ?_⟩
  refine h.run σ H B _ L fun v H1 B1 d s1 L1 D1 h2 => ?_
  refine h2.run σ H1 B1 _ L1 fun l H2 B2 s2 L2 h3 => ?_
  refine h3.run σ H2 B2 _ L2 fun u H3 B3 s3 L3 h4 => ?_
  cases d <;> first | exact h4.elim | skip
  rename_i ds
  obtain ⟨q, vs, rfl, h5, h6⟩ := dp_tup D1
  have h7 := dpAllMono (s2.trans s3) _ _ h6
  refine ⟨q, vs, rfl, seqT ((s2.trans s3).trans L3.gr.sub) h5, fun hw => ?_, fun _ p hp => ?_⟩
  · have e1 : cutD ds l u = ds := by
      unfold cutD
      rw [dpAll_len h6] at hw
      rw [hw.1, hw.2]
      simp
    have h4' : R (.tuple (cutD ds l u)) := h4
    rw [e1] at h4'
    exact k _ H3 B3 _ ((s1.trans s2).trans s3) L3 (dpMono (s2.trans s3) _ _ D1) h4'
  · obtain ⟨s, L'⟩ := L3.fresh hp (.tup (cutV vs l u))
    exact k _ _ _ _ (((s1.trans s2).trans s3).trans s) L' (.tup (SqT.of upd_same) (dpAllMono s _ _ (cut_dq h7 l u))) h4
/-- xs[lo:hi] of a list -/
theorem el_sl {lo hi : Option Expr} {p2 : Pos} {R : List PyData → Prop} (h : Ev X W e ρ fun d => Eo X W lo ρ fun l => Eo X W hi ρ fun u => match d with | .list ds => R (cutD ds l u) | _ => False) : El X W (.Subscript e (.Slice lo hi none p2) pos) ρ R := by
  refine ⟨fun σ H B Q L k => (pe_slice sl_list pe_w po_w po_w).toZ ?_⟩
  refine h.run σ H B _ L fun v H1 B1 d s1 L1 D1 h2 => ?_
  refine h2.run σ H1 B1 _ L1 fun l H2 B2 s2 L2 h3 => ?_
  refine h3.run σ H2 B2 _ L2 fun u H3 B3 s3 L3 h4 => ?_
  cases d <;> first | exact h4.elim | skip
  rename_i ds
  obtain ⟨q, vs, rfl, h5, h6⟩ := dp_list D1
  have h7 := cut_dq (dpAllMono (s2.trans s3) _ _ h6) l u
  refine ⟨q, vs, rfl, SqL.of (L3.gr.sub _ _ ((s2.trans s3) _ _ h5)), fun p hp => ?_⟩
  obtain ⟨L', q1, q2, q3, q4⟩ := fresh_own L3 hp (cutD ds l u) (cutV vs l u) h7
  exact k p _ _ B3 _ ((s1.trans s2).trans s3) L' q1 q2 q3 q4 h7 h4
end
end Z
namespace Z
open PySem PySem.Spec PyProof.Rows L2
section
variable {X : Cx} {W : Wd} {ρ : List Sl} {D : Dz} {pos : Pos} {a b c e : Expr} {es : List Expr} {st : Stmt} {sts body : List Stmt}
/-! ### an own list lent to a test -/
theorem Lay.lend (L : Lay X.K W B H σ ρ) {i : Nat} {ds : List PyData} (hρ : ρ[i]? = some (.own ds)) (ho : ∀ (j : Nat) (sl : Sl), j ≠ i → ρ[j]? = some sl → sl.ow = false) :
    ∃ B1, Same B B1 ∧ Lay X.K W B1 H σ (ρ.set i (.im (.list ds))) ∧ ∀ B' H', Same B1 B' → Lay X.K W B' H' σ (ρ.set i (.im (.list ds))) → ∃ B'', Same B B'' ∧ Lay X.K W B'' H' σ ρ := by
  obtain ⟨p, vs, e1, e2, e3, e4, e5⟩ := L.at' i _ hρ
  have hl : i < ρ.length := (List.getElem?_eq_some_iff.mp hρ).1
  obtain ⟨B1, s1, L1⟩ := L.frz hρ
  obtain ⟨v, q1, q2⟩ := L1.at' i (.im (.list ds)) (by rw [List.getElem?_set_self hl])
  rw [e1] at q1
  cases q1
  obtain ⟨p', us, h1, h2, h3⟩ := dp_list q2
  cases h1
  have hus : us = vs := by
    have := L1.gr.sub _ _ h2
    rw [e4] at this
    cases this
    rfl
  subst hus
  refine ⟨B1, s1, L1, fun B' H' s' L' => ?_⟩
  have hb : B' p = some (.lst us) := s' _ _ h2
  have hT : ∀ T, W.T = some T → T ≠ p := fun T h q => by
    subst q
    exact (L.gr.tp T h).1 e3
  have sB : Same B (fun x => if x = p then none else B' x) := fun x o q => by
    have hx : x ≠ p := by
      rintro rfl
      rw [e2] at q
      cases q
    show (if x = p then none else B' x) = some o
    rw [if_neg hx]
    exact s' _ _ (s1 _ _ q)
  refine ⟨fun x => if x = p then none else B' x, sB, ⟨⟨fun x o q => ?_, L.gr.base.trans sB, fun x q1 q2 => ?_, L'.gr.keep, fun T q => ?_⟩, L.len, fun j sl q => ?_, L.dis⟩⟩
  · have q : (if x = p then none else B' x) = some o := q
    by_cases hx : x = p
    · rw [if_pos hx] at q
      cases q
    · rw [if_neg hx] at q
      exact L'.gr.sub _ _ q
  · show (if x = p then none else B' x) = none
    by_cases hx : x = p
    · rw [if_pos hx]
    · rw [if_neg hx]
      exact L'.gr.new x q1 q2
  · obtain ⟨t1, t2, z, k, t3, t4, t5, t6⟩ := L'.gr.tp T q
    obtain ⟨_, _, z0, k0, u3, u4, u5, u6⟩ := L.gr.tp T q
    refine ⟨t1, ?_, z, k, t3, t4, t5, ?_⟩
    · show (if T = p then none else B' T) = none
      rw [if_neg (hT T q)]
      exact t2
    · exact sB _ _ u6
  · by_cases hj : j = i
    · subst hj
      rw [hρ] at q
      cases q
      refine ⟨p, us, e1, ?_, e3, L'.gr.sub _ _ hb, dpAllMono sB _ _ e5⟩
      show (if p = p then none else B' p) = none
      rw [if_pos rfl]
    · have hw := ho j sl hj q
      cases sl with
      | no => trivial
      | im d => obtain ⟨v, g1, g2⟩ := L.at' j _ q; exact ⟨v, g1, dpMono sB _ _ g2⟩
      | own _ => cases hw
      | dic _ => cases hw
      | tape => exact L.at' j _ q
theorem et_lend (i : Nat) {ds : List PyData} {R : Bool → Prop} (hρ : ρ[i]? = some (.own ds)) (ho : ∀ (j : Nat) (sl : Sl), j ≠ i → ρ[j]? = some sl → sl.ow = false) (h : Et X W e (ρ.set i (.im (.list ds))) R) : Et X W e ρ R := by
  refine ⟨fun σ H B Q L k => ?_⟩
  obtain ⟨B1, s1, L1, back⟩ := L.lend hρ ho
  refine h.run σ H B1 _ L1 fun b H' B' s' L' r => ?_
  obtain ⟨B'', s'', L''⟩ := back B' H' s' L'
  exact k b H' B'' s'' L'' r
/-- a def that hands back a fresh list -/
def ConL (K : PySem.W.Frag) (P : List PyData → (List PyData → Prop) → Prop) : Sp := fun vs H Q _ => ∃ B ds R, Same B H ∧ DqAll K B vs ds ∧ P ds R ∧ ∀ a us H' B' xs, Gr K ⟨none, (0, []), B, H⟩ B' H' → B' a = none → H a = none → H' a = some (.lst us) → DqAll K B' us xs → R xs → Q (.ref a) H'
theorem el_callL {f : Addr} {fd : FuncData} {ps : List Str} {k : Nat} {x : Str} {p : Pos} {R : List PyData → Prop} {P : List PyData → (List PyData → Prop) → Prop} (F : FnOk X.prog X.w X.K X.mg X.base CX0 k f fd ps (ConL X.K P)) (hr : Room k X.A) (hm : X.mg x = some (.ref f))
    (hk : PySem.W.keepIn X.K (.ref f) = true) (hb : Binds X.K fd ps []) (h : Ea X W (e :: es) ρ fun ds => P ds R) (hg : Gl X x := by rfl)
    (hs : starEach (e :: es) X.env = (false, eval e X.env) :: starEach es X.env := by rfl) (hpl : (backTo pos (starEach es X.env)).any (·.1) = false := by rfl) (hdb : (x == ("__debug__" : Str)) = false := by decide) : El X W (.Call (.Name x p) (e :: es) [] pos) ρ R := by
  refine ⟨fun σ H B Q L k => PE.toZ (t := tCall (ConL X.K P) [] E0 (tWa X (e :: es))) (pe_call F hr hg hm hk hb .nil pass0 pa_w hdb hs hpl) ?_⟩
  refine h.run σ H B _ L fun vs H1 B1 ds s1 L1 D1 h2 => ?_
  rw [List.append_nil]
  refine ⟨B1, ds, R, L1.gr.sub, D1, h2, fun a us H' B' xs g b1 b2 b3 b4 r => ?_⟩
  obtain ⟨s, L'⟩ := L1.called (.inl rfl) g
  refine k a us H' B' xs (s1.trans s) L' b1 ?_ ?_ b3 b4 r
  · cases q : W.H0 a with
    | none => rfl
    | some o =>
      by_cases ht : W.T = some a
      · obtain ⟨_, _, z, c, e, _⟩ := L1.gr.tp a ht
        rw [e] at b2
        cases b2
      · have := L1.gr.keep a o q ht
        rw [b2] at this
        cases this
  · intro j sl q1 q2 q3
    obtain ⟨a', o, g1, g2, g3, g4, _⟩ := (L1.at' j sl q1).owner q2
    rw [q3] at g1
    cases g1
    rw [b2] at g4
    cases g4
end
section
variable {P : Program} {w : World} {K : PySem.W.Frag} {mg : Str → Option Value} {base : Heap}
/-- .. whose body is one return -/
theorem fn_conL {x qual : Str} {st : Stmt} {f : Addr} {fd : FuncData} {N ps : List Str} {k : Nat} {P' : List PyData → (List PyData → Prop) → Prop} (F : Fun K x qual st f fd) (S : FnScope N ps (defScope st)) (len : ∀ ds R, P' ds R → ds.length = ps.length) {e : Expr} {pos : Pos} (hb : defBody st = [.Return (some e) pos])
    (body : ∀ (cdv : Value) (A : Around) (outer : List Env) (s : Shared) (H : Hp) (E : XK) (W : Wd) (ds : List PyData) (R : List PyData → Prop), Room k (Bx P w K mg base N qual (defScope st) f cdv A outer s H E).A → P' ds R →
      El (Bx P w K mg base N qual (defScope st) f cdv A outer s H E) W e (startZ N ds) R) : FnOk P w K mg base CX0 (k + 1) f fd ps (ConL K P') := by
  refine F.ok S (fun vs H Q E h => ?_) (fun cdv A outer s H vs Q E hr h => ?_)
  · obtain ⟨B, ds, R, _, h1, h2, _⟩ := h
    rw [dpAll_len h1]
    exact len ds R h2
  · obtain ⟨B, ds, R, sB, h1, h2, q⟩ := h
    rw [hb]
    refine ⟨_, pss_one (ps_ret pe_w), ?_⟩
    have L := start_lay (N := N) (T := none) (ns := (0, [])) sB (fun _ z => by cases z) h1
    exact (body cdv A outer s H E ⟨none, (0, []), B, H⟩ ds R hr h2).run _ _ _ _ L fun a us H' B' xs s' L' q1 q2 q3 q4 q5 r => q a us H' B' xs L'.gr q1 q2 q4 q5 r
end
end Z
namespace Z
open PySem PySem.Spec PyProof.Rows L2
/-- slots forgotten -/
inductive Wk : List Sl → List Sl → Prop
  | nil : Wk [] []
  | eq {x : Sl} {a b : List Sl} : Wk a b → Wk (x :: a) (x :: b)
  | no {x : Sl} {a b : List Sl} : Wk a b → Wk (.no :: a) (x :: b)
theorem Wk.len : ∀ {a b : List Sl}, Wk a b → a.length = b.length
  | _, _, .nil => rfl
  | _, _, .eq h => by simp [h.len]
  | _, _, .no h => by simp [h.len]
theorem Wk.at' : ∀ {a b : List Sl}, Wk a b → ∀ (i : Nat) (sl : Sl), a[i]? = some sl → sl = .no ∨ b[i]? = some sl
  | _, _, .nil, i, sl, e => by simp at e
  | _, _, .eq h, 0, sl, e => .inr e
  | _, _, .eq h, i + 1, sl, e => by simpa using h.at' i sl (by simpa using e)
  | _, _, .no h, 0, sl, e => by simp at e; exact .inl e.symm
  | _, _, .no h, i + 1, sl, e => by simpa using h.at' i sl (by simpa using e)
section
variable {X : Cx} {W : Wd} {ρ : List Sl} {D : Dz} {sts : List Stmt} {st : Stmt}
theorem Lay.weak {K : PySem.W.Frag} {B H : Hp} {σ : L2.St} (L : Lay K W B H σ ρ) {ρ' : List Sl} (w : Wk ρ' ρ) : Lay K W B H σ ρ' := by
  refine ⟨L.gr, by rw [w.len]; exact L.len, fun i sl e => ?_, fun i j s t hne e1 e2 o1 o2 => ?_⟩
  · rcases w.at' i sl e with q | q
    · subst q
      trivial
    · exact L.at' i sl q
  · rcases w.at' i s e1 with q | q
    · subst q
      cases o1
    · rcases w.at' j t e2 with q2 | q2
      · subst q2
        cases o2
      · exact L.dis i j s t hne q q2 o1 o2
theorem ess_weak (ρ' : List Sl) (w : Wk ρ' ρ) (h : Ess X W sts ρ' D) : Ess X W sts ρ D := ⟨fun σ H B L => h.run σ H B (L.weak w)⟩
theorem es_weak (ρ' : List Sl) (w : Wk ρ' ρ) (h : Es X W st ρ' D) : Es X W st ρ D := ⟨fun σ H B L => h.run σ H B (L.weak w)⟩
end
/-- no other slot is an owner -/
inductive No1 : Nat → List Sl → Prop
  | here {x : Sl} {a : List Sl} : (∀ sl ∈ a, sl.ow = false) → No1 0 (x :: a)
  | next {x : Sl} {i : Nat} {a : List Sl} : x.ow = false → No1 i a → No1 (i + 1) (x :: a)
theorem No1.at' : ∀ {i : Nat} {a : List Sl}, No1 i a → ∀ (j : Nat) (sl : Sl), j ≠ i → a[j]? = some sl → sl.ow = false
  | _, _, .here h, 0, sl, hj, e => absurd rfl hj
  | _, _, .here h, j + 1, sl, hj, e => h sl (List.mem_of_getElem? (by simpa using e))
  | _, _, .next h1 h2, 0, sl, hj, e => by simp at e; rw [← e]; exact h1
  | _, _, .next h1 h2, j + 1, sl, hj, e => h2.at' j sl (by omega) (by simpa using e)
end Z
namespace Z
open PySem PySem.Spec PyProof.Rows L2
section
variable {X : Cx} {W : Wd} {ρ : List Sl} {D : Dz} {R : PyData → Prop} {pos : Pos} {a b c e o : Expr} {es : List Expr}
/-- xs.index(e): the first place of an int -/
theorem ev_index {pa : Pos} (h : Ev X W o ρ fun d => ∃ ns : List Int, d = .list (ns.map PyData.int) ∧ Ev X W e ρ fun x => ∃ (m : Int) (j : Nat), x = .int m ∧ ns[j]? = some m ∧ (∀ k : Nat, k < j → ns[k]? ≠ some m) ∧ R (.int (j : Int)))
    (hbase : attributeBase o "index" X.env (eval o X.env) = eval o X.env := by rfl)
    (hfew : ((backTo pos (starEach [e] X.env)).all (fun x => !x.1) && (backToKw pos (keywordEach [] X.env)).all (fun x => x.1.isSome) && decide (([e] : List Expr).length + ([] : List Keyword).length + (if ([] : List Keyword).isEmpty then 0 else 1) < 30)) = true := by rfl)
    (hline : (pa.endLine == pos.line) = true := by rfl) (hse : starEach [e] X.env = (false, eval e X.env) :: starEach [] X.env := by rfl) (hpl : (backTo pos (starEach [] X.env)).any (·.1) = false := by rfl) :
    Ev X W (.Call (.Attribute o "index" pa) [e] [] pos) ρ R := by
  refine ⟨fun σ H B Q L k => (pe_bm PySem.F.plainAttrs_list PySem.F.slot_list_index PySem.F.type_list_index mt_index pe_w (pa_cons pe_w pa_nil hse) hbase hfew hline hse hpl).toZ ?_⟩
  refine h.run σ H B _ L fun v H1 B1 d s1 L1 D1 h2 => ?_
  obtain ⟨ns, rfl, h2⟩ := h2
  obtain ⟨p, vs, rfl, h3, h4⟩ := dp_list D1
  refine ⟨.inl ⟨rfl, vs, SqL.of (L1.gr.sub _ _ h3)⟩, ?_⟩
  refine h2.run σ H1 B1 _ L1 fun u H2 B2 d' s2 L2 D2 h5 => ?_
  obtain ⟨m, j, e2, e3, e4, e5⟩ := h5
  subst e2
  cases dp_int D2
  cases dq_ints h4
  refine ⟨p, ns.map V.int, .int m, j, .int m, rfl, rfl, SqL.of (L2.gr.sub _ _ (s2 _ _ h3)), rfl, ?_, ?_, ?_, fun q z hq hz => ?_, k _ H2 B2 _ (s1.trans s2) L2 (.int _) e5⟩
  · rw [List.all_eq_true]
    intro x hx
    obtain ⟨i, _, rfl⟩ := List.mem_map.mp hx
    rfl
  · rw [List.getElem?_map, e3]
    rfl
  · show (m == m) = true
    exact beq_self_eq_true m
  · rw [List.getElem?_map] at hz
    cases hq2 : ns[q]? with
    | none => rw [hq2] at hz; cases hz
    | some i =>
      rw [hq2] at hz
      cases hz
      have := e4 q hq
      rw [hq2] at this
      show (i == m) = false
      exact beq_eq_false_iff_ne.mpr fun e => this (by rw [e])
end
end Z

namespace Z
open PySem PySem.Spec PyProof.Rows L2
section
variable {X : Cx} {W : Wd} {ρ : List Sl} {D : Dz} {R : PyData → Prop} {pos : Pos} {a b c e : Expr} {es : List Expr} {st : Stmt} {sts body : List Stmt} {B H : Hp} {σ : L2.St}
/-! ### dicts with int keys -/
theorem fresh_any {K : PySem.W.Frag} {B H : Hp} {σ : L2.St} (L : Lay K W B H σ ρ) {p : Addr} (hp : H p = none) (o0 : HO) :
    Lay K W B (upd H p o0) σ ρ ∧ B p = none ∧ W.H0 p = none ∧ (∀ (j : Nat) (sl : Sl), ρ[j]? = some sl → sl.ow = true → σ[j]? ≠ some (some (.ref p))) ∧ (upd H p o0) p = some o0 := by
  have bp : B p = none := Same.free L.gr.sub hp
  have h0 : W.H0 p = none := by
    cases q : W.H0 p with
    | none => rfl
    | some u =>
      by_cases ht : W.T = some p
      · obtain ⟨_, t⟩ := L.gr.tp p ht
        obtain ⟨_, i, c, e, _⟩ := t
        rw [e] at hp
        cases hp
      · have := L.gr.keep p u q ht
        rw [hp] at this
        cases this
  have np : ∀ a u, H a = some u → a ≠ p := fun a u e => ne_of_none e hp
  refine ⟨⟨⟨same_right L.gr.sub bp, L.gr.base, L.gr.new, fun a o h1 h2 => ?_, fun T h => ?_⟩, L.len, fun i sl e => (L.at' i sl e).grow (Same.refl _) fun a u _ _ h2 _ h4 => ?_, L.dis⟩, bp, h0, fun j sl e1 e2 q => ?_, upd_same⟩
  · have := L.gr.keep a o h1 h2
    rw [upd_ne (np a o this)]
    exact this
  · obtain ⟨t1, t2⟩ := L.gr.tp T h
    obtain ⟨_, i, c, e, _⟩ := id t2
    exact ⟨t1, t2.mono (Same.refl _) t2.1 fun o ho => by rw [upd_ne (np T _ e)]; exact ho⟩
  · rw [upd_ne (np a u h4)]
    exact ⟨h2, h4⟩
  · obtain ⟨a, o, g1, g2, g3, g4, _⟩ := (L.at' j sl e1).owner e2
    rw [q] at g1
    cases g1
    rw [hp] at g4
    cases g4

theorem Lay.ownD (L : Lay X.K W B H σ ρ) {i : Nat} {p : Addr} {ws : List (Key × V)} {kvs : List (Key × PyData)} (h1 : B p = none) (h2 : W.H0 p = none) (h3 : ∀ (j : Nat) (sl : Sl), ρ[j]? = some sl → sl.ow = true → σ[j]? ≠ some (some (.ref p))) (h4 : H p = some (.dK ws)) (h5 : KvD X.K B ws kvs) :
    Lay X.K W B H (σ.set i (some (.ref p))) (ρ.set i (.dic kvs)) := by
  refine ⟨L.gr, by simp [L.len], fun j sl e => ?_, fun j k s t hne e1 e2 o1 o2 => ?_⟩
  · by_cases hj : i = j
    · subst hj
      have hl : i < ρ.length := by
        have := (List.getElem?_eq_some_iff.mp e).1
        simpa using this
      rw [List.getElem?_set_self hl] at e
      cases e
      rw [List.getElem?_set_self (by rw [L.len]; exact hl)]
      exact ⟨p, ws, rfl, h1, h2, h4, h5⟩
    · rw [List.getElem?_set_ne hj] at e ⊢
      exact L.at' j sl e
  · by_cases hj : i = j
    · subst hj
      have hl : i < ρ.length := by
        have := (List.getElem?_eq_some_iff.mp e1).1
        simpa using this
      rw [List.getElem?_set_self (by rw [L.len]; exact hl)]
      rw [List.getElem?_set_ne hne] at e2 ⊢
      exact fun q => h3 k t e2 o2 q.symm
    · by_cases hk : i = k
      · subst hk
        have hl : i < ρ.length := by
          have := (List.getElem?_eq_some_iff.mp e2).1
          simpa using this
        rw [List.getElem?_set_self (by rw [L.len]; exact hl)]
        rw [List.getElem?_set_ne hj] at e1 ⊢
        exact h3 j s e1 o1
      · rw [List.getElem?_set_ne hj] at e1 ⊢
        rw [List.getElem?_set_ne hk] at e2 ⊢
        exact L.dis j k s t hne e1 e2 o1 o2

theorem Lay.chgD (L : Lay X.K W B H σ ρ) {i : Nat} {p : Addr} {ws : List (Key × V)} {kvs kvs0 : List (Key × PyData)} (hρ : ρ[i]? = some (.dic kvs0)) (hσ : σ[i]? = some (some (.ref p))) (h5 : KvD X.K B ws kvs) : Lay X.K W B (upd H p (.dK ws)) σ (ρ.set i (.dic kvs)) := by
  obtain ⟨p', vs0, e1, e2, e3, e4, e5⟩ := L.at' i _ hρ
  rw [hσ] at e1
  cases e1
  have hl : i < ρ.length := (List.getElem?_eq_some_iff.mp hρ).1
  have hT : ∀ T, W.T = some T → T ≠ p := fun T h q => by
    subst q
    exact (L.gr.tp T h).1 e3
  refine ⟨⟨same_right L.gr.sub e2, L.gr.base, L.gr.new, fun a o h1 h2 => ?_, fun T h => ?_⟩, by simp [L.len], fun j sl e => ?_, fun j k s t hne f1 f2 o1 o2 => ?_⟩
  · have ha : a ≠ p := by
      rintro rfl
      rw [e3] at h1
      cases h1
    rw [upd_ne ha]
    exact L.gr.keep a o h1 h2
  · obtain ⟨t1, t2⟩ := L.gr.tp T h
    exact ⟨t1, t2.mono (Same.refl _) t2.1 fun o ho => by rw [upd_ne (hT T h)]; exact ho⟩
  · by_cases hj : i = j
    · subst hj
      rw [List.getElem?_set_self hl] at e
      cases e
      exact ⟨p, ws, hσ, e2, e3, upd_same, h5⟩
    · rw [List.getElem?_set_ne hj] at e
      refine (L.at' j sl e).grow (Same.refl _) fun a o g1 g2 g3 _ g5 => ⟨g3, ?_⟩
      have ha : a ≠ p := by
        rintro rfl
        exact L.dis i j _ sl hj hρ e rfl g2 (hσ.trans g1.symm)
      rw [upd_ne ha]
      exact g5
  · have q1 : ∃ s', ρ[j]? = some s' ∧ s'.ow = true := by
      by_cases hj : i = j
      · subst hj
        exact ⟨_, hρ, rfl⟩
      · rw [List.getElem?_set_ne hj] at f1
        exact ⟨s, f1, o1⟩
    have q2 : ∃ s', ρ[k]? = some s' ∧ s'.ow = true := by
      by_cases hj : i = k
      · subst hj
        exact ⟨_, hρ, rfl⟩
      · rw [List.getElem?_set_ne hj] at f2
        exact ⟨t, f2, o2⟩
    obtain ⟨s', g1, g2⟩ := q1
    obtain ⟨t', g3, g4⟩ := q2
    exact L.dis j k s' t' hne g1 g3 g2 g4

/-! what a dict holds, as data -/
def gtD (kvs : List (Key × PyData)) (k : Key) : Option PyData := (kvs.find? fun kv => decide (kv.1 = k)).map (·.2)
def ptD (kvs : List (Key × PyData)) (k : Key) (d : PyData) : List (Key × PyData) := if (gtD kvs k).isSome = true then kvs.map fun kv => if kv.1 = k then (kv.1, d) else kv else kvs ++ [(k, d)]
theorem gtD_nil {k : Key} : gtD [] k = none := rfl
theorem gtD_pos {p : Key × PyData} {r : List (Key × PyData)} {k : Key} (e : p.1 = k) : gtD (p :: r) k = some p.2 := by simp [gtD, List.find?_cons, e]
theorem gtD_neg {p : Key × PyData} {r : List (Key × PyData)} {k : Key} (e : ¬ p.1 = k) : gtD (p :: r) k = gtD r k := by simp [gtD, List.find?_cons, e]
theorem gtD_map (k j : Key) (y : PyData) : ∀ kvs : List (Key × PyData), gtD (kvs.map fun kv => if kv.1 = k then (kv.1, y) else kv) j = (gtD kvs j).map fun x => if j = k then y else x
  | [] => rfl
  | p :: r => by
    rw [List.map_cons]
    by_cases e : p.1 = k
    · rw [if_pos e]
      by_cases q : p.1 = j
      · rw [gtD_pos (p := (p.1, y)) q, gtD_pos q, Option.map_some, if_pos (q.symm.trans e)]
      · rw [gtD_neg (p := (p.1, y)) q, gtD_neg q, gtD_map]
    · rw [if_neg e]
      by_cases q : p.1 = j
      · rw [gtD_pos q, gtD_pos q, Option.map_some, if_neg (fun z => e (q.trans z))]
      · rw [gtD_neg q, gtD_neg q, gtD_map]
theorem gtD_snoc (k j : Key) (y : PyData) : ∀ kvs : List (Key × PyData), gtD kvs k = none → gtD (kvs ++ [(k, y)]) j = if j = k then some y else gtD kvs j
  | [], _ => by
    by_cases e : j = k
    · rw [if_pos e]
      exact gtD_pos e.symm
    · rw [if_neg e]
      exact gtD_neg fun z => e z.symm
  | p :: r, h => by
    by_cases e : p.1 = k
    · rw [gtD_pos e] at h
      cases h
    · rw [gtD_neg e] at h
      rw [List.cons_append]
      by_cases q : p.1 = j
      · rw [gtD_pos q, gtD_pos q, if_neg (fun z => e (q.trans z))]
      · rw [gtD_neg q, gtD_neg q, gtD_snoc k j y r h]
theorem gtD_put (kvs : List (Key × PyData)) (k j : Key) (y : PyData) : gtD (ptD kvs k y) j = if j = k then some y else gtD kvs j := by
  unfold ptD
  by_cases a : (gtD kvs k).isSome = true
  · rw [if_pos a, gtD_map]
    by_cases e : j = k
    · obtain ⟨x, hx⟩ := Option.isSome_iff_exists.mp a
      rw [if_pos e, e, hx, Option.map_some, if_pos rfl]
    · rw [if_neg e]
      cases gtD kvs j with
      | none => rfl
      | some x => rw [Option.map_some, if_neg e]
  · rw [if_neg a]
    refine gtD_snoc k j y kvs ?_
    cases q : gtD kvs k with
    | none => rfl
    | some x => rw [q] at a; exact (a rfl).elim
theorem ptD_len (kvs : List (Key × PyData)) (k : Key) (v : PyData) : (ptD kvs k v).length ≤ kvs.length + 1 := by
  unfold ptD
  split
  · rw [List.length_map]; omega
  · rw [List.length_append, List.length_cons, List.length_nil]; omega
theorem kv_val {K : PySem.W.Frag} {ws : List (Key × V)} {kvs : List (Key × PyData)} (h : KvD K B ws kvs) (k : Key) : (valV ws k = none ∧ gtD kvs k = none) ∨ ∃ v d, valV ws k = some v ∧ gtD kvs k = some d ∧ Dq K B v d := by
  unfold KvD at h
  induction h with
  | nil => exact .inl ⟨rfl, rfl⟩
  | @cons p q ps qs h t ih =>
    obtain ⟨h1, h2⟩ := h
    by_cases e : p.1 = k
    · exact .inr ⟨p.2, q.2, valV_pos e, gtD_pos (h1.symm.trans e), h2⟩
    · rw [valV_neg e, gtD_neg (fun z => e (h1.trans z))]
      exact ih
theorem kv_some {K : PySem.W.Frag} {ws : List (Key × V)} {kvs : List (Key × PyData)} (h : KvD K B ws kvs) (k : Key) : (valV ws k).isSome = (gtD kvs k).isSome := by
  rcases kv_val h k with ⟨e1, e2⟩ | ⟨v, d, e1, e2, _⟩ <;> rw [e1, e2] <;> rfl
theorem kv_put {K : PySem.W.Frag} {ws : List (Key × V)} {kvs : List (Key × PyData)} (h : KvD K B ws kvs) (k : Key) {v : V} {d : PyData} (hd : Dq K B v d) : KvD K B (putK ws k v) (ptD kvs k d) := by
  have hs := kv_some h k
  unfold putK ptD
  rw [valV_any, hs]
  by_cases q : (gtD kvs k).isSome = true
  · rw [if_pos q, if_pos q]
    unfold KvD at h ⊢
    clear q hs
    induction h with
    | nil => exact .nil
    | @cons p q ps qs h t ih =>
      rw [List.map_cons, List.map_cons]
      refine .cons ?_ ih
      obtain ⟨h1, h2⟩ := h
      by_cases e : p.1 = k
      · rw [if_pos e, if_pos (h1.symm.trans e)]; exact ⟨h1, hd⟩
      · rw [if_neg e, if_neg (fun z => e (h1.trans z))]; exact ⟨h1, h2⟩
  · rw [if_neg q, if_neg q]
    exact Paired.snoc h ⟨rfl, hd⟩
theorem kv_len {K : PySem.W.Frag} {ws : List (Key × V)} {kvs : List (Key × PyData)} (h : KvD K B ws kvs) : ws.length = kvs.length := Paired.length h
/-- a fresh, empty dict comes to a slot -/
theorem Lay.newD (L : Lay X.K W B H σ ρ) (i : Nat) {p : Addr} (hp : H p = none) : Lay X.K W B (upd H p (.dK [])) (σ.set i (some (.ref p))) (ρ.set i (.dic [])) := by
  obtain ⟨L', h1, h2, h3, h4⟩ := fresh_any L hp (.dK [])
  exact L'.ownD h1 h2 h3 h4 .nil
theorem no_put {p : Addr} {i : Nat} {v : V} {d : PyData} (h : ∀ (j : Nat) (sl : Sl), ρ[j]? = some sl → sl.ow = true → σ[j]? ≠ some (some (.ref p))) : ∀ (j : Nat) (sl : Sl), (ρ.set i (.im d))[j]? = some sl → sl.ow = true → (σ.set i (some v))[j]? ≠ some (some (.ref p)) := fun j sl e1 e2 => by
  by_cases hj : i = j
  · subst hj
    have hl : i < ρ.length := by
      have := (List.getElem?_eq_some_iff.mp e1).1
      simpa using this
    rw [List.getElem?_set_self hl] at e1
    cases e1
    cases e2
  · rw [List.getElem?_set_ne hj] at e1 ⊢
    exact h j sl e1 e2
/-- x = {} -/
theorem es_dic (i : Nat) {x : Str} {pos' dp : Pos} (h : D.nx (ρ.set i (.dic []))) (hN : X.N.Nodup) (hi : X.N[i]? = some x := by rfl) (hx : Loc X.env.scope x := by first | exact .inl rfl | exact .inr rfl) (hs : swapsWith (.Dict [] [] dp) (some (.Name x pos')) pos.line X.env = pure false := by rfl)
    (hf : X.fn x = true ∨ X.env.scope.names.lookup x = some .local := by first | exact .inl rfl | exact .inr rfl | assumption) : Es X W (.Assign [.Name x pos'] (.Dict [] [] dp) pos) ρ D :=
  ⟨fun σ H B L => (ps_set hN hi hx pe_dnewK hs hf).toZ fun p hp => ⟨B, _, Same.refl _, L.newD i hp, h⟩⟩
/-- x, y, z = {}, m, n -/
theorem es_par3D (i j l : Nat) {m n : Int} {x y z : Str} {px py pz pt dp p1 p2 : Pos} {kt k2 pt2 j1 j2} (h : D.nx (((ρ.set i (.dic [])).set j (.im (.int m))).set l (.im (.int n)))) (hc : X.calm = true) (hN : X.N.Nodup)
    (hi : X.N[i]? = some x := by rfl) (hj : X.N[j]? = some y := by rfl) (hl : X.N[l]? = some z := by rfl) (hij : i ≠ j := by decide) (hil : i ≠ l := by decide) (hjl : j ≠ l := by decide)
    (hx : X.env.scope.names.lookup x = some .local := by rfl) (hy : X.env.scope.names.lookup y = some .local := by rfl) (hz : X.env.scope.names.lookup z = some .local := by rfl)
    (hw : swappedStores [.Tuple [.Name x px, .Name y py, .Name z pz] kt pt] (.Tuple [.Dict [] [] dp, .Constant (.int m) j1 p1, .Constant (.int n) j2 p2] k2 pt2) X.env = pure (some [x, y, z]) := by rfl)
    (hs : swapsWithSole [.Tuple [.Name x px, .Name y py, .Name z pz] kt pt] (.Tuple [.Dict [] [] dp, .Constant (.int m) j1 p1, .Constant (.int n) j2 p2] k2 pt2) pos.line X.env = pure false := by rfl) :
    Es X W (.Assign [.Tuple [.Name x px, .Name y py, .Name z pz] kt pt] (.Tuple [.Dict [] [] dp, .Constant (.int m) j1 p1, .Constant (.int n) j2 p2] k2 pt2) pos) ρ D := by
  refine ⟨fun σ H B L => (ps_par3 hc hN hi hj hl hij hil hjl hx hy hz (pa_cons pe_dnewK (pa_cons pe_int (pa_cons pe_int pa_nil rfl) rfl) rfl) hw hs).toZ ?_⟩
  intro p hp
  exact ⟨_, _, _, rfl, B, _, Same.refl _, ((L.newD i hp).put (.int m)).put (.int n), h⟩
/-- x, y, z, t = a, m, n, {} -/
theorem es_par4D (i j l o : Nat) {m n : Int} {x y z t : Str} {px py pz pq pt dp p1 p2 : Pos} {kt k2 pt2 j1 j2} (h : Ev X W a ρ fun d => D.nx ((((ρ.set i (.im d)).set j (.im (.int m))).set l (.im (.int n))).set o (.dic []))) (hc : X.calm = true) (hN : X.N.Nodup)
    (hi : X.N[i]? = some x := by rfl) (hj : X.N[j]? = some y := by rfl) (hl : X.N[l]? = some z := by rfl) (ho : X.N[o]? = some t := by rfl)
    (hx : X.env.scope.names.lookup x = some .local := by rfl) (hy : X.env.scope.names.lookup y = some .local := by rfl) (hz : X.env.scope.names.lookup z = some .local := by rfl) (ht : X.env.scope.names.lookup t = some .local := by rfl)
    (hx' : Loc X.env.scope x := by first | exact .inl rfl | exact .inr rfl) (hy' : Loc X.env.scope y := by first | exact .inl rfl | exact .inr rfl) (hz' : Loc X.env.scope z := by first | exact .inl rfl | exact .inr rfl) (ht' : Loc X.env.scope t := by first | exact .inl rfl | exact .inr rfl)
    (n1 : (assignEach [.Name x px, .Name y py, .Name z pz, .Name t pq] X.env).map (·.2) = assign (.Name x px) X.env :: (assignEach [.Name y py, .Name z pz, .Name t pq] X.env).map (·.2) := by rfl)
    (n2 : (assignEach [.Name y py, .Name z pz, .Name t pq] X.env).map (·.2) = assign (.Name y py) X.env :: (assignEach [.Name z pz, .Name t pq] X.env).map (·.2) := by rfl)
    (n3 : (assignEach [.Name z pz, .Name t pq] X.env).map (·.2) = assign (.Name z pz) X.env :: (assignEach [.Name t pq] X.env).map (·.2) := by rfl)
    (n4 : (assignEach [.Name t pq] X.env).map (·.2) = assign (.Name t pq) X.env :: (assignEach [] X.env).map (·.2) := by rfl)
    (n5 : (assignEach [.Name x px, .Name y py, .Name z pz, .Name t pq] X.env).length = 4 := by rfl) (n6 : (assignEach [.Name x px, .Name y py, .Name z pz, .Name t pq] X.env).findIdx? (·.1) = none := by rfl)
    (hse : starEach [a, .Constant (.int m) j1 p1, .Constant (.int n) j2 p2, .Dict [] [] dp] X.env = (false, eval a X.env) :: starEach [.Constant (.int m) j1 p1, .Constant (.int n) j2 p2, .Dict [] [] dp] X.env := by rfl)
    (hs : swapsWithSole [.Tuple [.Name x px, .Name y py, .Name z pz, .Name t pq] kt pt] (.Tuple [a, .Constant (.int m) j1 p1, .Constant (.int n) j2 p2, .Dict [] [] dp] k2 pt2) pos.line X.env = pure false := by rfl)
    (hw : swappedStores [.Tuple [.Name x px, .Name y py, .Name z pz, .Name t pq] kt pt] (.Tuple [a, .Constant (.int m) j1 p1, .Constant (.int n) j2 p2, .Dict [] [] dp] k2 pt2) X.env = pure none := by rfl)
    (h1 : (assignEach [.Tuple [.Name x px, .Name y py, .Name z pz, .Name t pq] kt pt] X.env).map (·.2) = [assign (.Tuple [.Name x px, .Name y py, .Name z pz, .Name t pq] kt pt) X.env] := by rfl) :
    Es X W (.Assign [.Tuple [.Name x px, .Name y py, .Name z pz, .Name t pq] kt pt] (.Tuple [a, .Constant (.int m) j1 p1, .Constant (.int n) j2 p2, .Dict [] [] dp] k2 pt2) pos) ρ D := by
  refine ⟨fun σ H B L => (ps_asg (pe_tup (pa_cons pe_w (pa_cons pe_int (pa_cons pe_int (pa_cons pe_dnewK pa_nil rfl) rfl) rfl) hse))
    (pg_tup hc (pgs_cons (pg_name hN hi hx' (.inr hx)) (pgs_cons (pg_name hN hj hy' (.inr hy)) (pgs_cons (pg_name hN hl hz' (.inr hz)) (pgs_cons (pg_name hN ho ht' (.inr ht)) pgs_nil n4) n3) n2) n1) n5 n6) hs hw h1).toZ ?_⟩
  refine h.run σ H B _ L fun v H1 B1 d s1 L1 D1 h2 => ?_
  intro p hp
  refine ⟨by rw [sizeLine_eq]; exact (by decide : 4 ≤ 16777216), fun q hq => ?_⟩
  obtain ⟨L2, g1, g2, g3, g4⟩ := fresh_any L1 hp (.dK [])
  obtain ⟨L3, _⟩ := fresh_any L2 hq (.tup [v, .int m, .int n, .ref p])
  have hpq : p ≠ q := ne_of_none g4 hq
  have g5 : (upd (upd H1 p (.dK [])) q (.tup [v, .int m, .int n, .ref p])) p = some (.dK []) := by
    rw [upd_ne hpq]
    exact g4
  refine ⟨q, _, rfl, SqT.of upd_same, rfl, _, _, rfl, _, _, rfl, _, _, rfl, _, _, rfl, rfl, B1, _, s1, ?_, h2⟩
  refine Lay.ownD (((L3.put D1).put (.int m)).put (.int n)) g1 g2 (no_put (no_put (no_put g3))) g5 .nil
/-- e in d -/
theorem et_inD (i : Nat) {x : Str} {px : Pos} {kvs : List (Key × PyData)} {R : Bool → Prop} (hρ : ρ[i]? = some (.dic kvs)) (hu : X.A.units + 1 < cLine) (h : Ev X W a ρ fun y => match y with | .int z => R (gtD kvs (.inl z)).isSome | _ => False) (hN : X.N[i]? = some x := by rfl)
    (hv : Vis X.env.scope x := by first | exact Or.inl rfl | exact Or.inr (Or.inl rfl) | exact Or.inr (Or.inr rfl)) (hd : (x == ("__debug__" : Str)) = false := by decide) (hcd : (x == ("__classdict__" : Str)) = false := by decide) : Et X W (.Compare a [.In] [.Name x px] pos) ρ R := by
  refine ⟨fun σ H B Q L k => (pt_cmp (pc_din hu pe_w (pe_var hN hv hd hcd))).toZ ?_⟩
  refine h.run σ H B _ L fun v H1 B1 y s1 L1 D1 h2 => ?_
  cases y <;> first | exact h2.elim | skip
  rename_i z
  obtain ⟨p, ws, e1, e2, e3, e4, e5⟩ := L1.at' i _ hρ
  cases dp_int D1
  refine ⟨.ref p, e1, p, _, rfl, DGet.k (k := .inl z) e4, ?_⟩
  rw [kv_some e5]
  exact ⟨_, rfl, k _ H1 B1 s1 L1 h2⟩
theorem et_notInD (i : Nat) {x : Str} {px : Pos} {kvs : List (Key × PyData)} {R : Bool → Prop} (hρ : ρ[i]? = some (.dic kvs)) (hu : X.A.units + 1 < cLine) (h : Ev X W a ρ fun y => match y with | .int z => R (!(gtD kvs (.inl z)).isSome) | _ => False) (hN : X.N[i]? = some x := by rfl)
    (hv : Vis X.env.scope x := by first | exact Or.inl rfl | exact Or.inr (Or.inl rfl) | exact Or.inr (Or.inr rfl)) (hd : (x == ("__debug__" : Str)) = false := by decide) (hcd : (x == ("__classdict__" : Str)) = false := by decide) : Et X W (.Compare a [.NotIn] [.Name x px] pos) ρ R := by
  refine ⟨fun σ H B Q L k => (pt_cmp (pc_dnotin hu pe_w (pe_var hN hv hd hcd))).toZ ?_⟩
  refine h.run σ H B _ L fun v H1 B1 y s1 L1 D1 h2 => ?_
  cases y <;> first | exact h2.elim | skip
  rename_i z
  obtain ⟨p, ws, e1, e2, e3, e4, e5⟩ := L1.at' i _ hρ
  cases dp_int D1
  refine ⟨.ref p, e1, p, _, rfl, DGet.k (k := .inl z) e4, ?_⟩
  rw [kv_some e5]
  exact ⟨_, rfl, k _ H1 B1 s1 L1 h2⟩
/-- d[e] -/
theorem ev_ixD (i : Nat) {x : Str} {px : Pos} {kvs : List (Key × PyData)} (hρ : ρ[i]? = some (.dic kvs)) (hu : X.A.units + 1 < cLine) (h : Ev X W b ρ fun y => match y with | .int z => ∃ d, gtD kvs (.inl z) = some d ∧ R d | _ => False) (hN : X.N[i]? = some x := by rfl)
    (hs : NoSl b := by exact fun _ _ => rfl) (hv : Vis X.env.scope x := by first | exact Or.inl rfl | exact Or.inr (Or.inl rfl) | exact Or.inr (Or.inr rfl)) (hd : (x == ("__debug__" : Str)) = false := by decide) (hcd : (x == ("__classdict__" : Str)) = false := by decide) : Ev X W (.Subscript (.Name x px) b pos) ρ R := by
  refine ⟨fun σ H B Q L k => (pe_dget hu (pe_var hN hv hd hcd) pe_w hs).toZ ?_⟩
  obtain ⟨p, vs, e1, e2, e3, e4, e5⟩ := L.at' i _ hρ
  refine ⟨.ref p, e1, ?_⟩
  refine h.run σ H B _ L fun u H2 B2 y s2 L2 D2 h3 => ?_
  cases y <;> first | exact h3.elim | skip
  rename_i z
  obtain ⟨d, hd, r⟩ := h3
  obtain ⟨p', vs', f1, f2, f3, f4, f5⟩ := L2.at' i _ hρ
  rw [e1] at f1
  cases f1
  cases dp_int D2
  rcases kv_val f5 (.inl z) with ⟨q1, q2⟩ | ⟨v, d', q1, q2, q3⟩
  · rw [q2] at hd
    cases hd
  · rw [q2] at hd
    cases hd
    refine ⟨p, v, rfl, ?_, k v H2 B2 _ s2 L2 q3 r⟩
    rw [← q1]
    exact DGet.k (k := .inl z) f4
/-- d[b] = e -/
theorem es_putD (i : Nat) {x : Str} {px p2 : Pos} {kvs : List (Key × PyData)} (hρ : ρ[i]? = some (.dic kvs)) (hu : X.A.units + 1 < cLine) (h : Ev X W e ρ fun d => Ev X W b ρ fun y => match y with | .int z => kvs.length < sizeLine ∧ D.nx (ρ.set i (.dic (ptD kvs (.inl z) d))) | _ => False) (hN : X.N[i]? = some x := by rfl)
    (hv : Vis X.env.scope x := by first | exact Or.inl rfl | exact Or.inr (Or.inl rfl) | exact Or.inr (Or.inr rfl)) (hd : (x == ("__debug__" : Str)) = false := by decide) (hcd : (x == ("__classdict__" : Str)) = false := by decide)
    (hs : swapsWith e (some (.Subscript (.Name x px) b p2)) pos.line X.env = pure false := by rfl) : Es X W (.Assign [.Subscript (.Name x px) b p2] e pos) ρ D := by
  refine ⟨fun σ H B L => (ps_dput hu (pe_var hN hv hd hcd) pe_w pe_w hs).toZ ?_⟩
  refine h.run σ H B _ L fun v H1 B1 d s1 L1 D1 h2 => ?_
  obtain ⟨p, vs, e1, e2, e3, e4, e5⟩ := L1.at' i _ hρ
  refine ⟨.ref p, e1, ?_⟩
  refine h2.run σ H1 B1 _ L1 fun u H2 B2 y s2 L2 D2 h3 => ?_
  cases y <;> first | exact h3.elim | skip
  rename_i z
  obtain ⟨hl, hn⟩ := h3
  obtain ⟨p', vs', f1, f2, f3, f4, f5⟩ := L2.at' i _ hρ
  rw [e1] at f1
  cases f1
  cases dp_int D2
  exact ⟨p, _, rfl, DPut.k (k := .inl z) f4 (by rw [kv_len f5]; exact hl), B2, _, s1.trans s2, L2.chgD hρ e1 (kv_put f5 (.inl z) (dpMono s2 _ _ D1)), hn⟩
/-! ### len(set(xs)) -/
def tLenSetL (K : PySem.W.Frag) (ta : TE) : TE := fun σ H Q => ta σ H fun x H1 => ∃ (l : Addr) (ns : List Int), x = .ref l ∧ SqL K H1 l (ns.map V.int) ∧ ns.length ≤ 4000 ∧ Q (.int ((PyProof.Rows.firstMet (fun i => ns.getD i 0) ns.length).length : Nat)) H1
theorem pe_lenSetL {p p2 q : Pos} {ta : TE} (hg : Gl X "len") (hm : X.mg "len" = none) (hg2 : Gl X "set") (hm2 : X.mg "set" = none) (ha : PE X a ta) (hc : X.calm = true)
    (na : starEach [a] X.env = (false, eval a X.env) :: starEach [] X.env) (n2 : (starEach [.Call (.Name "set" p2) [a] [] q] X.env) = (false, eval (.Call (.Name "set" p2) [a] [] q) X.env) :: starEach [] X.env) : PE X (.Call (.Name "len" p) [.Call (.Name "set" p2) [a] [] q] [] pos) (tLenSetL X.K ta) := by
  refine ⟨fun pins s σ H Q I h => ?_⟩
  refine Call_ (ld_blt I hg hm boot_len ?_)
  refine PyProof.Rows.callWith_builtin1 (PyProof.Rows.args_cons ?_ n2) n2 rfl
  refine Call_ (ld_blt I hg2 hm2 boot_set ?_)
  refine PyProof.Rows.callWith_type1 (PyProof.Rows.args_cons (thn (ha.run pins s σ H _ I h) fun v s1 ⟨x, H1, I1, r1, q1⟩ => PyProof.Rows.args_nil ?_) na) na rfl
  obtain ⟨l, ns, rfl, hq, hl, q1⟩ := q1
  cases r1
  obtain ⟨its, r, pl, hz⟩ := I1.list hq
  have hlen : its.toArray.size = ns.length := by rw [List.size_toArray, ← r.length, List.length_map]
  refine call_set_list (I1.ok.hd hc) pl.isList (by simpa using RZ.intsAre_vals r) (by rw [hlen]; unfold scanBound; omega) fun h' tk hS hk => ?_
  refine PyProof.Rows.args_nil ?_
  rw [hlen] at hS
  obtain ⟨o, es, ep, t, ho, hex, hd, _, _, _, hf, hn⟩ := hS
  have I2 : Inv X pins σ H1 { s1 with heap := h', toks := tk } := I1.kept fun b o e => hk b o (Heap.lt_size e) e
  have hb := PyProof.Rows.firstMet_length_le (fun i => ns.getD i 0) ns.length
  exact call_len_set ho hex hd hf (by rw [hn] <;> omega) ⟨.int (PyProof.Rows.firstMet (fun i => ns.getD i 0) ns.length).length, H1, I2.tok _, ⟨_, by rw [hn]⟩, q1⟩
theorem ev_lenSetL {p p2 q : Pos} (hc : X.calm = true) (hm : X.mg "len" = none) (hm2 : X.mg "set" = none) (h : Ev X W a ρ fun d => ∃ ns : List Int, d = .list (ns.map PyData.int) ∧ ns.length ≤ 4000 ∧ R (.int ((PyProof.Rows.firstMet (fun i => ns.getD i 0) ns.length).length : Nat)))
    (hg : Gl X "len" := by rfl) (hg2 : Gl X "set" := by rfl) (na : starEach [a] X.env = (false, eval a X.env) :: starEach [] X.env := by rfl) (n2 : (starEach [.Call (.Name "set" p2) [a] [] q] X.env) = (false, eval (.Call (.Name "set" p2) [a] [] q) X.env) :: starEach [] X.env := by rfl) :
    Ev X W (.Call (.Name "len" p) [.Call (.Name "set" p2) [a] [] q] [] pos) ρ R := by
  refine ⟨fun σ H B Q L k => (pe_lenSetL hg hm hg2 hm2 pe_w hc na n2).toZ ?_⟩
  refine h.run σ H B _ L fun v H1 B1 d s1 L1 D1 h2 => ?_
  obtain ⟨ns, rfl, h3, h4⟩ := h2
  obtain ⟨q, vs, rfl, h5, h6⟩ := dp_list D1
  cases dq_ints h6
  exact ⟨q, ns, rfl, SqL.of (L1.gr.sub _ _ h5), h3, k _ H1 B1 _ s1 L1 (.int _) h4⟩
theorem setR_count {w : World} {h : Heap} {a : Addr} {ns : List Int} {c : Nat} (R : SetR w h a (fun j => decide (j ∈ ns)) c) (hn : ns.Nodup) : c = ns.length := by
  obtain ⟨o, es, ep, t, ho, hex, hd, _, hnd, hmem, _, _, hsz, _⟩ := R
  have hp : (es.toList.map keyOf).Perm ns := by
    refine (List.perm_ext_iff_of_nodup hnd hn).mpr fun k => ?_
    rw [← hmem k]
    simp
  have := hp.length_eq
  rw [List.length_map, Array.length_toList] at this
  omega
def tLenSetT (K : PySem.W.Frag) (ta : TE) : TE := fun σ H Q => ta σ H fun x H1 => ∃ (l : Addr) (ns : List Int), x = .ref l ∧ SqT K H1 l (ns.map V.int) ∧ ns.Nodup ∧ ns.length ≤ 4000 ∧ Q (.int (ns.length : Nat)) H1
theorem pe_lenSetT {p p2 q : Pos} {ta : TE} (hg : Gl X "len") (hm : X.mg "len" = none) (hg2 : Gl X "set") (hm2 : X.mg "set" = none) (ha : PE X a ta) (hc : X.calm = true)
    (na : starEach [a] X.env = (false, eval a X.env) :: starEach [] X.env) (n2 : (starEach [.Call (.Name "set" p2) [a] [] q] X.env) = (false, eval (.Call (.Name "set" p2) [a] [] q) X.env) :: starEach [] X.env) : PE X (.Call (.Name "len" p) [.Call (.Name "set" p2) [a] [] q] [] pos) (tLenSetT X.K ta) := by
  refine ⟨fun pins s σ H Q I h => ?_⟩
  refine Call_ (ld_blt I hg hm boot_len ?_)
  refine PyProof.Rows.callWith_builtin1 (PyProof.Rows.args_cons ?_ n2) n2 rfl
  refine Call_ (ld_blt I hg2 hm2 boot_set ?_)
  refine PyProof.Rows.callWith_type1 (PyProof.Rows.args_cons (thn (ha.run pins s σ H _ I h) fun v s1 ⟨x, H1, I1, r1, q1⟩ => PyProof.Rows.args_nil ?_) na) na rfl
  obtain ⟨l, ns, rfl, hq, hnd, hl, q1⟩ := q1
  cases r1
  obtain ⟨its, r, pl, hz⟩ := I1.tuple hq
  refine call_set_tupI ns (I1.ok.hd hc) pl (by simpa using RZ.intsAre_vals r) (by unfold scanBound; omega) fun h' tk c hS hc hk => ?_
  refine PyProof.Rows.args_nil ?_
  obtain rfl := setR_count hS hnd
  obtain ⟨o, es, ep, t, ho, hex, hd, _, _, _, _, hf, hn, _⟩ := hS
  have I2 : Inv X pins σ H1 { s1 with heap := h', toks := tk } := I1.kept fun b o e => hk b o e
  exact call_len_set ho hex hd hf (by rw [hn] <;> omega) ⟨.int ns.length, H1, I2.tok _, ⟨_, by rw [hn]⟩, q1⟩
theorem ev_lenSetT {p p2 q : Pos} (hc : X.calm = true) (hm : X.mg "len" = none) (hm2 : X.mg "set" = none) (h : Ev X W a ρ fun d => ∃ ns : List Int, d = .tuple (ns.map PyData.int) ∧ ns.Nodup ∧ ns.length ≤ 4000 ∧ R (.int (ns.length : Nat)))
    (hg : Gl X "len" := by rfl) (hg2 : Gl X "set" := by rfl) (na : starEach [a] X.env = (false, eval a X.env) :: starEach [] X.env := by rfl) (n2 : (starEach [.Call (.Name "set" p2) [a] [] q] X.env) = (false, eval (.Call (.Name "set" p2) [a] [] q) X.env) :: starEach [] X.env := by rfl) :
    Ev X W (.Call (.Name "len" p) [.Call (.Name "set" p2) [a] [] q] [] pos) ρ R := by
  refine ⟨fun σ H B Q L k => (pe_lenSetT hg hm hg2 hm2 pe_w hc na n2).toZ ?_⟩
  refine h.run σ H B _ L fun v H1 B1 d s1 L1 D1 h2 => ?_
  obtain ⟨ns, rfl, h3, h3', h4⟩ := h2
  obtain ⟨q, vs, rfl, h5, h6⟩ := dp_tup D1
  cases dq_ints h6
  exact ⟨q, ns, rfl, seqT L1.gr.sub h5, h3, h3', k _ H1 B1 _ s1 L1 (.int _) h4⟩
/-! ### zip of two lists -/
def zipD : List PyData → List PyData → List PyData
  | x :: xs, y :: ys => .tuple [x, y] :: zipD xs ys
  | _, _ => []
theorem zipD_len : ∀ xs ys : List PyData, (zipD xs ys).length = min xs.length ys.length
  | [], _ => by simp [zipD]
  | _ :: _, [] => by simp [zipD]
  | _ :: xs, _ :: ys => by simp [zipD, zipD_len xs ys]
theorem zipD_get : ∀ (xs ys : List PyData) (i : Nat) {x y : PyData}, xs[i]? = some x → ys[i]? = some y → (zipD xs ys)[i]? = some (.tuple [x, y])
  | [], _, i, _, _, h, _ => by simp at h
  | _ :: _, [], i, _, _, _, h => by simp at h
  | x :: xs, y :: ys, 0, _, _, h1, h2 => by
    simp at h1 h2
    simp [zipD, h1, h2]
  | x :: xs, y :: ys, i + 1, _, _, h1, h2 => by
    simp only [zipD, List.getElem?_cons_succ] at h1 h2 ⊢
    exact zipD_get xs ys i h1 h2
theorem walk_zip {K : PySem.W.Frag} {p q : Addr} {vs us : List V} {ds es : List PyData} {B : Hp} (h : B p = some (.lst vs)) (hd : DqAll K B vs ds) (h' : B q = some (.lst us)) (he : DqAll K B us es) : WalkZ K (Itz K p q) (zipD ds es) B where
  go := fun i B' H' s s' hi => by
    rw [zipD_len, ← dpAll_len hd, ← dpAll_len he] at hi
    have i1 : i < vs.length := by omega
    have i2 : i < us.length := by omega
    exact ⟨vs, us, vs[i], us[i], SqL.of (s' _ _ (s _ _ h)), SqL.of (s' _ _ (s _ _ h')), by simp [i1], by simp [i2]⟩
  stop := fun B' H' s s' => by
    refine ⟨vs, us, SqL.of (s' _ _ (s _ _ h)), SqL.of (s' _ _ (s _ _ h')), ?_⟩
    rw [zipD_len, ← dpAll_len hd, ← dpAll_len he]
    omega
  yld := fun i B' H' x H'' W σ ρ s L hy hi => by
    obtain ⟨T, x1, y1, rfl, hT, rfl, hx, hy⟩ := hy
    rw [zipD_len] at hi
    have hx := hx vs (SqL.of (L.gr.sub _ _ (s _ _ h)))
    have hy := hy us (SqL.of (L.gr.sub _ _ (s _ _ h')))
    have i1 : i < ds.length := by omega
    have i2 : i < es.length := by omega
    obtain ⟨v, h1, h2⟩ := dpAll_get hd (List.getElem?_eq_getElem i1)
    obtain ⟨u, h3, h4⟩ := dpAll_get he (List.getElem?_eq_getElem i2)
    rw [hx] at h1
    rw [hy] at h3
    cases h1
    cases h3
    obtain ⟨sB, L'⟩ := L.fresh hT (.tup [x1, y1])
    refine ⟨_, _, zipD_get ds es i (List.getElem?_eq_getElem i1) (List.getElem?_eq_getElem i2), sB, L', .tup (SqT.of upd_same) (.cons (dpMono (s.trans sB) _ _ h2) (.cons (dpMono (s.trans sB) _ _ h4) .nil)), fun b o q => ?_, fun b o q1 q2 => ?_⟩
    · rw [upd_ne (ne_of_none q hT)]
      exact q
    · rw [upd_ne (ne_of_none q1 hT)]
      exact q2
theorem ei_zip {p tpos : Pos} {elts : List Expr} {kk : Nat} {R : List PyData → Prop} (hm : X.mg "zip" = none) (h : Ev X W a ρ fun d => Ev X W b ρ fun d' => match d, d' with | .list xs, .list ys => R (zipD xs ys) | _, _ => False) (hg : Gl X "zip" := by rfl)
    (hs : starEach [a, b] X.env = (false, eval a X.env) :: starEach [b] X.env := by rfl) (hs2 : starEach [b] X.env = (false, eval b X.env) :: starEach [] X.env := by rfl) (hpl : (backTo pos (starEach [b] X.env)).any (·.1) = false := by rfl) : Ei X W (.Tuple elts kk tpos) (.Call (.Name "zip" p) [a, b] [] pos) ρ R := by
  refine ⟨fun σ H B Q L k => (RZ.pi_zipA hg hm (pa_cons pe_w (pa_cons pe_w pa_nil hs2) hs) hs hpl).toZ ?_⟩
  refine h.run σ H B _ L fun v H1 B1 d s1 L1 D1 h2 => ?_
  refine h2.run σ H1 B1 _ L1 fun u H2 B2 d' s2 L2 D2 h3 => ?_
  cases d <;> first | exact h3.elim | skip
  cases d' <;> first | exact h3.elim | skip
  obtain ⟨p, vs, rfl, h4, h5⟩ := dp_list D1
  obtain ⟨q, us, rfl, h6, h7⟩ := dp_list D2
  have h4' := s2 _ _ h4
  refine ⟨p, q, vs, us, rfl, .inl ⟨SqL.of (L2.gr.sub _ _ h4'), SqL.of (L2.gr.sub _ _ h6), k _ H2 B2 _ (s1.trans s2) L2 (walk_zip h4' (dpAllMono s2 _ _ h5) h6 h7) h3⟩⟩
/-! ### min of a list of pairs -/
def prZ (p : Int × Int) : PyData := .tuple [.int p.1, .int p.2]
def prLe (p q : Int × Int) : Prop := p.1 < q.1 ∨ (p.1 = q.1 ∧ p.2 ≤ q.2)
theorem prZ_lt (p q : Int × Int) : PySem.W.dataLt (prZ p) (prZ q) = decide (p.1 < q.1 ∨ (p.1 = q.1 ∧ p.2 < q.2)) := PySem.W.dataLt_ii _ _ _ _
theorem minD_pr (p : Int × Int) (ps : List (Int × Int)) : ∃ m, m ∈ p :: ps ∧ (∀ y ∈ p :: ps, prLe m y) ∧ PySem.W.minD (prZ p) (ps.map prZ) = prZ m := by
  unfold PySem.W.minD
  induction ps generalizing p with
  | nil => exact ⟨p, by simp, fun y hy => by simp at hy; subst hy; exact .inr ⟨rfl, Int.le_refl _⟩, rfl⟩
  | cons q qs ih =>
    rw [List.map_cons, List.foldl_cons, prZ_lt]
    by_cases h : q.1 < p.1 ∨ (q.1 = p.1 ∧ q.2 < p.2)
    · rw [decide_eq_true h, if_pos rfl]
      obtain ⟨m, h1, h2, h3⟩ := ih q
      refine ⟨m, List.mem_cons_of_mem _ h1, fun y hy => ?_, h3⟩
      rcases List.mem_cons.mp hy with rfl | hy
      · have := h2 q List.mem_cons_self
        unfold prLe at this ⊢
        omega
      · exact h2 y hy
    · rw [decide_eq_false h, if_neg (by decide)]
      obtain ⟨m, h1, h2, h3⟩ := ih p
      refine ⟨m, ?_, fun y hy => ?_, h3⟩
      · rcases List.mem_cons.mp h1 with rfl | h1
        · exact List.mem_cons_self
        · exact List.mem_cons_of_mem _ (List.mem_cons_of_mem _ h1)
      · rcases List.mem_cons.mp hy with rfl | hy
        · exact h2 y List.mem_cons_self
        · rcases List.mem_cons.mp hy with rfl | hy
          · have := h2 p List.mem_cons_self
            unfold prLe at this ⊢
            omega
          · exact h2 y (List.mem_cons_of_mem _ hy)
def rMinPr (K : PySem.W.Frag) : List V → Hp → VK → Prop := fun vs H Q => ∃ (a : Addr) (us : List V) (p : Int × Int) (ps : List (Int × Int)), vs = [V.ref a] ∧ SqL K H a us ∧ DpAll K H us ((p :: ps).map prZ) ∧ ∀ (i : Nat) m u, us[i]? = some u → ((p :: ps).map prZ)[i]? = some (prZ m) → (∀ y ∈ p :: ps, prLe m y) → Q u H
theorem prZ_inj {p q : Int × Int} (h : prZ p = prZ q) : p = q := by
  unfold prZ at h
  injection h with h
  injection h with h1 h
  injection h with h2 h
  injection h1 with h1
  injection h2 with h2
  exact Prod.ext h1 h2
theorem prZ_alike (p q : Int × Int) : PySem.W.alike (prZ p) (prZ q) = true := by
  unfold prZ
  first | rfl | decide | simp [PySem.W.alike, PySem.W.alikeAll]
theorem prZ_depth : ∀ ps : List (Int × Int), PyData.depthAll (ps.map prZ) ≤ 3
  | [] => by simp [PyData.depthAll]
  | p :: ps => by
    have h := prZ_depth ps
    rw [List.map_cons]
    simp only [PyData.depthAll, prZ, PyData.depth]
    omega
theorem prZ_alikeAll (ps : List (Int × Int)) : PySem.W.AlikeAll (ps.map prZ) := by
  refine ⟨fun x hx y hy => ?_, fun x hx => ?_⟩
  · obtain ⟨p, _, rfl⟩ := List.mem_map.mp hx
    obtain ⟨q, _, rfl⟩ := List.mem_map.mp hy
    exact prZ_alike p q
  · obtain ⟨p, _, rfl⟩ := List.mem_map.mp hx
    exact fun z => nomatch z
theorem cr_minPr (hc : X.calm = true) (hu : X.A.units + 64 < cLine) : CallR X (.builtin "min") (rMinPr X.K) := by
  intro pins s σ H vs us Q I r h
  obtain ⟨a, xs, p, ps, rfl, hs, hd, q⟩ := h
  obtain ⟨its, rv, hl, _⟩ := I.list hs
  rw [Vals.ref1 r]
  obtain ⟨as, rd⟩ := Dp.readsAll I _ _ _ hd rv
  have hdep := prZ_depth (p :: ps)
  rw [List.map_cons] at rd hdep
  refine PySem.W.min_list_data (I.ok.hd hc) hl.isList (by simpa using rd) (by rw [← List.map_cons]; exact prZ_alikeAll (p :: ps)) (by omega) fun i v h' tk bs hi r' hk => ?_
  obtain ⟨m, m1, m2, m3⟩ := minD_pr p ps
  rw [m3] at r'
  have hi' : its[i]? = some v := by simpa using hi
  obtain ⟨cs, rc, il, _⟩ := PySem.W.readsAll_at rd i v hi'
  have hln : i < xs.length := by
    have := (List.getElem?_eq_some_iff.mp hi').1
    rw [← rv.length] at this
    exact this
  obtain ⟨v', e1, e2⟩ := Vals.get rv (List.getElem?_eq_getElem hln)
  rw [hi'] at e1
  cases e1
  obtain ⟨e3, _⟩ := Reads.unique (Reads.keeps hk rc) _ _ r'
  refine ⟨xs[i], H, I.kept hk, e2, q i m _ (List.getElem?_eq_getElem hln) ?_ m2⟩
  rw [← e3, List.map_cons, List.getD_eq_getElem?_getD, List.getElem?_eq_getElem il]
  rfl
theorem ev_minPr {p : Pos} (hc : X.calm = true) (hu : X.A.units + 64 < cLine) (hm : X.mg "min" = none) (h : Ev X W e ρ fun d => ∃ (q : Int × Int) (ps : List (Int × Int)), d = .list ((q :: ps).map prZ) ∧ ∀ m ∈ q :: ps, (∀ y ∈ q :: ps, prLe m y) → R (prZ m)) (hg : Gl X "min" := by rfl)
    (he : starEach [e] X.env = (false, eval e X.env) :: starEach [] X.env := by rfl) (hpl : (backTo pos (starEach [] X.env)).any (·.1) = false := by rfl) : Ev X W (.Call (.Name "min" p) [e] [] pos) ρ R := by
  refine ⟨fun σ H B Q L k => (pe_callB (cr_minPr hc hu) hg hm boot_min (pa_cons pe_w pa_nil he) (by decide) (by decide) he hpl).toZ ?_⟩
  refine h.run σ H B _ L fun v H1 B1 d s1 L1 D1 h2 => ?_
  obtain ⟨m0, ps, rfl, h3⟩ := h2
  obtain ⟨q, vs, rfl, h5, h6⟩ := dp_list D1
  refine ⟨q, vs, m0, ps, rfl, SqL.of (L1.gr.sub _ _ h5), dqDpAll _ _ (dpAllMono L1.gr.sub _ _ h6), fun i m u hu hd hle => ?_⟩
  obtain ⟨v, e1, e2⟩ := dpAll_get h6 hd
  rw [hu] at e1
  cases e1
  have hm : m ∈ m0 :: ps := by
    obtain ⟨m', h1, h2⟩ := List.mem_map.mp (List.mem_of_getElem? hd)
    rw [← prZ_inj h2]
    exact h1
  exact k _ H1 B1 _ s1 L1 e2 (h3 m hm hle)
/-- x.extend(e), e a list -/
theorem es_extend (i : Nat) {x : Str} {px pa cp : Pos} {ds : List PyData} (hρ : ρ[i]? = some (.own ds)) (h : Ev X W e ρ fun d => match d with | .list ys => ds.length + ys.length ≤ sizeLine ∧ D.nx (ρ.set i (.own (ds ++ ys))) | _ => False) (hN : X.N[i]? = some x := by rfl) (hv : Vis X.env.scope x := by first | exact Or.inl rfl | exact Or.inr (Or.inl rfl) | exact Or.inr (Or.inr rfl))
    (hs : swapsWith (.Call (.Attribute (.Name x px) "extend" pa) [e] [] cp) none pos.line X.env = pure false := by rfl) (hd : (x == ("__debug__" : Str)) = false := by decide) (hcd : (x == ("__classdict__" : Str)) = false := by decide)
    (hbase : attributeBase (.Name x px) "extend" X.env (eval (.Name x px) X.env) = eval (.Name x px) X.env := by rfl)
    (hfew : ((backTo cp (starEach [e] X.env)).all (fun x => !x.1) && (backToKw cp (keywordEach [] X.env)).all (fun x => x.1.isSome) && decide (([e] : List Expr).length + ([] : List Keyword).length + (if ([] : List Keyword).isEmpty then 0 else 1) < 30)) = true := by rfl)
    (hline : (pa.endLine == cp.line) = true := by rfl) (hse : starEach [e] X.env = (false, eval e X.env) :: starEach [] X.env := by rfl) (hpl : (backTo cp (starEach [] X.env)).any (·.1) = false := by rfl) :
    Es X W (.Expr (.Call (.Attribute (.Name x px) "extend" pa) [e] [] cp) pos) ρ D := by
  refine ⟨fun σ H B L => (ps_expr (pe_bm PySem.F.plainAttrs_list PySem.F.slot_list_extend PySem.F.type_list_extend mt_extend (pe_var hN hv hd hcd) (pa_cons pe_w pa_nil hse) hbase hfew hline hse hpl) hs).toZ ?_⟩
  obtain ⟨p, vs, e1, e2, e3, e4, e5⟩ := L.at' i _ hρ
  refine ⟨.ref p, e1, .inl ⟨rfl, vs, SqL.of e4⟩, ?_⟩
  refine h.run σ H B _ L fun v H2 B2 d s2 L2 D2 h3 => ?_
  cases d <;> first | exact h3.elim | skip
  rename_i ys
  obtain ⟨p', vs', f1, f2, f3, f4, f5⟩ := L2.at' i _ hρ
  rw [e1] at f1
  cases f1
  obtain ⟨q, us, rfl, g1, g2⟩ := dp_list D2
  exact ⟨p, q, vs', us, rfl, rfl, f4, L2.gr.sub _ _ g1, by rw [dpAll_len f5, dpAll_len g2]; exact h3.1, B2, _, s2, L2.chg hρ e1 (dpAll_app f5 g2), h3.2⟩
/-- x, y = [], n -/
theorem es_parL (i j : Nat) {n : Int} {x y : Str} {px py pt p1 p2 : Pos} {kt k2 pt2 j2} (h : D.nx ((ρ.set i (.own [])).set j (.im (.int n)))) (hc : X.calm = true) (hN : X.N.Nodup) (hi : X.N[i]? = some x := by rfl) (hj : X.N[j]? = some y := by rfl) (hij : i ≠ j := by decide)
    (hx : X.env.scope.names.lookup x = some .local := by rfl) (hy : X.env.scope.names.lookup y = some .local := by rfl)
    (hw : swappedStores [.Tuple [.Name x px, .Name y py] kt pt] (.Tuple [.List [] p1, .Constant (.int n) j2 p2] k2 pt2) X.env = pure (some [x, y]) := by rfl)
    (hs : swapsWithSole [.Tuple [.Name x px, .Name y py] kt pt] (.Tuple [.List [] p1, .Constant (.int n) j2 p2] k2 pt2) pos.line X.env = pure false := by rfl) :
    Es X W (.Assign [.Tuple [.Name x px, .Name y py] kt pt] (.Tuple [.List [] p1, .Constant (.int n) j2 p2] k2 pt2) pos) ρ D := by
  refine ⟨fun σ H B L => (ps_par hc hN hi hj hij hx hy (pa_cons (pe_lst pa_nil) (pa_cons pe_int pa_nil rfl) rfl) hw hs).toZ ?_⟩
  refine ⟨Nat.zero_le _, fun p hp => ?_⟩
  obtain ⟨L', q1, q2, q3, q4⟩ := fresh_own L hp [] [] .nil
  exact ⟨_, _, rfl, B, _, Same.refl _, (L'.own q1 q2 q3 q4 .nil).put (.int n), h⟩
/-- lo, lo + k, .. -/
def rng3D (i k : Int) (n : Nat) : List PyData := (List.range n).map fun j => PyData.int (i + (j : Nat) * k)
theorem rng3D_len {i k : Int} {n : Nat} : (rng3D i k n).length = n := by simp [rng3D]
theorem rng3D_get {i k : Int} {n j : Nat} (h : j < n) : (rng3D i k n)[j]? = some (.int (i + (j : Nat) * k)) := by simp [rng3D, h]
theorem rgC_up {i j k : Int} (hi : 0 ≤ i) (hi2 : i ≤ 2 ^ 40) (hj : 0 ≤ j) (hj2 : j ≤ 2 ^ 40) (hk : 0 < k) (hk2 : k ≤ 1000000) : RgC i j k (if i < j then (j - i - 1) / k + 1 else 0).toNat := by
  have h0 : 0 ≤ (if i < j then (j - i - 1) / k + 1 else 0) ∧ (if i < j then (j - i - 1) / k + 1 else 0) ≤ 2 ^ 40 := by
    split
    · have h1 := Int.ediv_nonneg (a := j - i - 1) (b := k) (by omega) (by omega)
      have h2 := Int.ediv_le_self k (show (0 : Int) ≤ j - i - 1 by omega)
      omega
    · omega
  have hs : Builtin.Range.rangeSize i j k = (if i < j then (j - i - 1) / k + 1 else 0) := by
    unfold Builtin.Range.rangeSize
    rw [if_pos hk]
  refine ⟨by omega, by omega, ?_, by rw [hs]; omega⟩
  unfold Builtin.Range.small
  rw [hs]
  simp only [Builtin.Range.rangeFitsLong, Bool.and_eq_true, Bool.or_eq_true, decide_eq_true_eq, beq_iff_eq]
  rw [if_pos hk]
  generalize (if i < j then (j - i - 1) / k + 1 else 0) = n at h0
  refine ⟨⟨⟨⟨by omega, by omega⟩, by omega⟩, by omega⟩, .inr ?_⟩
  rw [Bool.and_eq_true, decide_eq_true_eq, decide_eq_true_eq]
  omega
theorem walk_rng3 {K : PySem.W.Frag} {lo k : Int} {n : Nat} {B : Hp} : WalkZ K (Itc lo k n) (rng3D lo k n) B where
  go := fun i B' H' s s' hi => by
    rw [rng3D_len] at hi
    exact hi
  stop := fun B' H' s s' => by
    show n ≤ (rng3D lo k n).length
    rw [rng3D_len]
    exact Nat.le_refl _
  yld := fun i B' H' x H'' W σ ρ s L hy hi => by
    obtain ⟨e, hx⟩ := hy
    subst e
    rw [rng3D_len] at hi
    exact ⟨_, B', rng3D_get hi, Same.refl _, L, by rw [hx]; exact .int _, fun _ _ q => q, fun _ _ _ q => q⟩
/-- the size of a range up -/
def rgN (i j k : Int) : Nat := (if i < j then (j - i - 1) / k + 1 else 0).toNat
theorem ei_range3 {tg : Expr} {p : Pos} {R : List PyData → Prop} (hm : X.mg "range" = none)
    (h : Ea X W [a, b, c] ρ fun ds => match ds with | [.int i, .int j, .int k] => (0 ≤ i ∧ i ≤ 2 ^ 40 ∧ 0 ≤ j ∧ j ≤ 2 ^ 40 ∧ 0 < k ∧ k ≤ 1000000) ∧ R (rng3D i k (rgN i j k)) | _ => False) (hg : Gl X "range" := by rfl)
    (hs : starEach [a, b, c] X.env = (false, eval a X.env) :: starEach [b, c] X.env := by rfl) (hpl : (backTo pos (starEach [b, c] X.env)).any (·.1) = false := by rfl) : Ei X W tg (.Call (.Name "range" p) [a, b, c] [] pos) ρ R := by
  refine ⟨fun σ H B Q L k => (pi_range3 hg hm pa_w hs hpl).toZ ?_⟩
  refine h.run σ H B _ L fun vs H1 B1 ds s1 L1 D1 h2 => ?_
  match ds, D1, h2 with
  | [.int i, .int j, .int l], .cons d1 (.cons d2 (.cons d3 .nil)), ⟨⟨h1, h2, h3, h4, h5, h6⟩, h7⟩ =>
    cases dp_int d1
    cases dp_int d2
    cases dp_int d3
    exact ⟨i, j, l, _, rfl, rgC_up h1 h2 h3 h4 h5 h6, k _ H1 B1 _ s1 L1 walk_rng3 h7⟩
/-- list(range(a, b, c)) -/
def rng3V (i k : Int) (n : Nat) : List V := (List.range n).map fun j => V.int (i + (j : Nat) * k)
theorem rng3_dq {K : PySem.W.Frag} {B : Hp} (i k : Int) (n : Nat) : DqAll K B (rng3V i k n) (rng3D i k n) := by
  have e1 : rng3V i k n = ((List.range n).map fun j => i + ((j : Nat) : Int) * k).map V.int := by rw [List.map_map]; rfl
  have e2 : rng3D i k n = ((List.range n).map fun j => i + ((j : Nat) : Int) * k).map PyData.int := by rw [List.map_map]; rfl
  rw [e1, e2]
  exact ints_dq _
theorem vals_rg3 {a k : Int} {n : Nat} {acc : Array Value} (h : ItemsOf (fun i v => ∃ t, v = .int (a + i * k) t) acc n) : Vals (rng3V a k n) acc.toList := by
  have e : acc.toList.length = n := by rw [Array.length_toList]; exact h.1
  unfold rng3V
  rw [← e]
  refine vals_of_get acc.toList _ fun j u hj => ?_
  obtain ⟨t, rfl⟩ := h.2 j u (by rw [← hj, Array.getElem?_toList])
  exact ⟨t, rfl⟩
def tListR3 (ta : TA) : TE := fun σ H Q => ta σ H fun vs H1 => ∃ (i j k : Int) (n : Nat), vs = [.int i, .int j, .int k] ∧ RgC i j k n ∧ n ≤ 2 ^ 24 ∧ ∀ q, H1 q = none → Q (.ref q) (upd H1 q (.lst (rng3V i k n)))
theorem pe_listR3 {p p2 q : Pos} {ta : TA} (hg : Gl X "list") (hm : X.mg "list" = none) (hg2 : Gl X "range") (hm2 : X.mg "range" = none) (ha : PA X [a, b, c] ta) (hc : X.calm = true)
    (hs : starEach [a, b, c] X.env = (false, eval a X.env) :: starEach [b, c] X.env) (hpl : (backTo q (starEach [b, c] X.env)).any (·.1) = false)
    (n2 : (starEach [.Call (.Name "range" p2) [a, b, c] [] q] X.env) = (false, eval (.Call (.Name "range" p2) [a, b, c] [] q) X.env) :: starEach [] X.env) : PE X (.Call (.Name "list" p) [.Call (.Name "range" p2) [a, b, c] [] q] [] pos) (tListR3 ta) := by
  refine ⟨fun pins s σ H Q I h => ?_⟩
  refine Call_ (ld_blt I hg hm boot_list ?_)
  refine PyProof.Rows.callWith_type1 (PyProof.Rows.args_cons ?_ n2) n2 rfl
  refine Call_ (ld_blt I hg2 hm2 boot_range (PyProof.Rows.callWith_type1 (thn (ha.run q pins s σ H _ I h) fun us s1 ⟨vs, H1, I1, r1, q1⟩ => ?_) hs hpl))
  obtain ⟨i, j, k, n, e, ⟨c0, c1, c2, c3⟩, hn, q1⟩ := q1
  subst e
  cases r1 with
  | cons r rr =>
  cases rr with
  | cons r' rr =>
  cases rr with
  | cons r'' rr =>
    cases rr
    obtain ⟨t1, rfl⟩ := r
    obtain ⟨t2, rfl⟩ := r'
    obtain ⟨t3, rfl⟩ := r''
    refine call_range_3 c0 ?_ (.inl (PyProof.noPylong_small c1))
    refine PyProof.Rows.args_nil ?_
    obtain ⟨s2, e2⟩ : ∃ s2 : Shared, s2 = { s1 with heap := s1.heap.push { cls := .type "range", data := .fields #[.int i t1, .int j t2, .int k t3] } } := ⟨_, rfl⟩
    have I2 : Inv X pins σ H1 s2 := by
      rw [e2]
      exact I1.kept (t' := s1.toks) fun b o e => Heap.get?_push_of_some _ e
    have hr : IsRange s2.heap s1.heap.objs.size i j k t1 t2 t3 := by
      rw [e2]
      exact IsRange.new ..
    rw [← e2]
    refine call_list_range (n := n) (I2.ok.hd hc) hr c2 c3 hn fun h' tk acc c' hk e' hi => ?_
    have hlen : (rng3V i k n).length = n := by simp [rng3V]
    refine ⟨.ref s2.heap.objs.size, upd H1 s2.heap.objs.size (.lst (rng3V i k n)), I2.laid hk (Nat.le_refl _) (show ObjOk X.prog X.w _ _ _ (.lst (rng3V i k n)) from ⟨?_, acc.toList, c', vals_rg3 hi, ?_⟩), rfl, q1 _ (I2.hok.fresh (Nat.le_refl _))⟩
    · rw [hlen, sizeLine_eq]
      omega
    · rw [Array.toArray_toList]; exact e'
theorem el_listR3 {p p2 q : Pos} {R : List PyData → Prop} (hc : X.calm = true) (hm : X.mg "list" = none) (hm2 : X.mg "range" = none)
    (h : Ea X W [a, b, c] ρ fun ds => match ds with | [.int i, .int j, .int k] => (0 ≤ i ∧ i ≤ 2 ^ 40 ∧ 0 ≤ j ∧ j ≤ 2 ^ 40 ∧ 0 < k ∧ k ≤ 1000000) ∧ rgN i j k ≤ 1000000 ∧ R (rng3D i k (rgN i j k)) | _ => False) (hg : Gl X "list" := by rfl) (hg2 : Gl X "range" := by rfl)
    (hs : starEach [a, b, c] X.env = (false, eval a X.env) :: starEach [b, c] X.env := by rfl) (hpl : (backTo q (starEach [b, c] X.env)).any (·.1) = false := by rfl)
    (n2 : (starEach [.Call (.Name "range" p2) [a, b, c] [] q] X.env) = (false, eval (.Call (.Name "range" p2) [a, b, c] [] q) X.env) :: starEach [] X.env := by rfl) :
    El X W (.Call (.Name "list" p) [.Call (.Name "range" p2) [a, b, c] [] q] [] pos) ρ R := by
  refine ⟨fun σ H B Q L k => (pe_listR3 hg hm hg2 hm2 pa_w hc hs hpl n2).toZ ?_⟩
  refine h.run σ H B _ L fun vs H1 B1 ds s1 L1 D1 h2 => ?_
  match ds, D1, h2 with
  | [.int i, .int j, .int l], .cons d1 (.cons d2 (.cons d3 .nil)), ⟨⟨h1, h2, h3, h4, h5, h6⟩, h7, h8⟩ =>
    cases dp_int d1
    cases dp_int d2
    cases dp_int d3
    refine ⟨i, j, l, _, rfl, rgC_up h1 h2 h3 h4 h5 h6, Nat.le_trans h7 (by decide), fun p hp => ?_⟩
    obtain ⟨L', q1, q2, q3, q4⟩ := fresh_own L1 hp (rng3D i l (rgN i j l)) (rng3V i l (rgN i j l)) (rng3_dq _ _ _)
    exact k p _ _ B1 _ s1 L' q1 q2 q3 q4 (rng3_dq _ _ _) h8
section
variable {X : Cx} {W : Wd} {ρ : List Sl} {D : Dz} {R : PyData → Prop} {pos : Pos} {a b c e : Expr} {es : List Expr} {st : Stmt} {sts body : List Stmt}
theorem dpAll_eraseIdx {K : PySem.W.Frag} {B : Hp} : ∀ {vs : List V} {ds : List PyData} (k : Nat), DqAll K B vs ds → DqAll K B (vs.eraseIdx k) (ds.eraseIdx k)
  | _, _, _, .nil => .nil
  | _, _, 0, .cons _ t => t
  | _, _, k + 1, .cons h t => .cons h (dpAll_eraseIdx k t)
theorem dpAll_rev {K : PySem.W.Frag} {B : Hp} : ∀ {vs : List V} {ds : List PyData}, DqAll K B vs ds → DqAll K B vs.reverse ds.reverse
  | _, _, .nil => .nil
  | _, _, .cons h t => by
    rw [List.reverse_cons, List.reverse_cons]
    exact dpAll_app (dpAll_rev t) (.cons h .nil)
/-- x.pop(e), its value thrown away -/
theorem es_popAt (i : Nat) {x : Str} {px pa cp : Pos} {ds : List PyData} (hρ : ρ[i]? = some (.own ds)) (h : Ev X W e ρ fun d => match d with | .int k => (0 ≤ k ∧ k < ds.length ∧ ds.length ≤ 1000000) ∧ D.nx (ρ.set i (.own (ds.eraseIdx k.toNat))) | _ => False) (hN : X.N[i]? = some x := by rfl) (hv : Vis X.env.scope x := by first | exact Or.inl rfl | exact Or.inr (Or.inl rfl) | exact Or.inr (Or.inr rfl))
    (hs : swapsWith (.Call (.Attribute (.Name x px) "pop" pa) [e] [] cp) none pos.line X.env = pure false := by rfl) (hd : (x == ("__debug__" : Str)) = false := by decide) (hcd : (x == ("__classdict__" : Str)) = false := by decide)
    (hbase : attributeBase (.Name x px) "pop" X.env (eval (.Name x px) X.env) = eval (.Name x px) X.env := by rfl)
    (hfew : ((backTo cp (starEach [e] X.env)).all (fun x => !x.1) && (backToKw cp (keywordEach [] X.env)).all (fun x => x.1.isSome) && decide (([e] : List Expr).length + ([] : List Keyword).length + (if ([] : List Keyword).isEmpty then 0 else 1) < 30)) = true := by rfl)
    (hline : (pa.endLine == cp.line) = true := by rfl) (hse : starEach [e] X.env = (false, eval e X.env) :: starEach [] X.env := by rfl) (hpl : (backTo cp (starEach [] X.env)).any (·.1) = false := by rfl) :
    Es X W (.Expr (.Call (.Attribute (.Name x px) "pop" pa) [e] [] cp) pos) ρ D := by
  refine ⟨fun σ H B L => (ps_expr (pe_bm PySem.F.plainAttrs_list PySem.F.slot_list_pop PySem.F.type_list_pop mt_popAt (pe_var hN hv hd hcd) (pa_cons pe_w pa_nil hse) hbase hfew hline hse hpl) hs).toZ ?_⟩
  obtain ⟨p, vs, e1, e2, e3, e4, e5⟩ := L.at' i _ hρ
  refine ⟨.ref p, e1, .inl ⟨rfl, vs, SqL.of e4⟩, ?_⟩
  refine h.run σ H B _ L fun v H2 B2 d s2 L2 D2 h3 => ?_
  cases d <;> first | exact h3.elim | skip
  rename_i k
  obtain ⟨⟨k0, k1, k2⟩, h4⟩ := h3
  obtain ⟨p', vs', f1, f2, f3, f4, f5⟩ := L2.at' i _ hρ
  rw [e1] at f1
  cases f1
  cases dp_int D2
  have hl := dpAll_len f5
  have hk : k.toNat < vs'.length := by omega
  exact ⟨p, vs', k, k.toNat, vs'[k.toNat], rfl, rfl, f4, by omega, by omega, seqIndex_of k0 (by omega), List.getElem?_eq_getElem hk, B2, _, s2, L2.chg hρ e1 (dpAll_eraseIdx _ f5), h4⟩
/-- x.insert(b, e) -/
theorem es_insert (i : Nat) {x : Str} {px pa cp : Pos} {ds : List PyData} (hρ : ρ[i]? = some (.own ds)) (h : Ea X W [b, e] ρ fun us => match us with | [.int k, d] => (0 ≤ k ∧ k < 2 ^ 63 ∧ ds.length < sizeLine) ∧ D.nx (ρ.set i (.own (ds.take k.toNat ++ [d] ++ ds.drop k.toNat))) | _ => False) (hN : X.N[i]? = some x := by rfl) (hv : Vis X.env.scope x := by first | exact Or.inl rfl | exact Or.inr (Or.inl rfl) | exact Or.inr (Or.inr rfl))
    (hs : swapsWith (.Call (.Attribute (.Name x px) "insert" pa) [b, e] [] cp) none pos.line X.env = pure false := by rfl) (hd : (x == ("__debug__" : Str)) = false := by decide) (hcd : (x == ("__classdict__" : Str)) = false := by decide)
    (hbase : attributeBase (.Name x px) "insert" X.env (eval (.Name x px) X.env) = eval (.Name x px) X.env := by rfl)
    (hfew : ((backTo cp (starEach [b, e] X.env)).all (fun x => !x.1) && (backToKw cp (keywordEach [] X.env)).all (fun x => x.1.isSome) && decide (([b, e] : List Expr).length + ([] : List Keyword).length + (if ([] : List Keyword).isEmpty then 0 else 1) < 30)) = true := by rfl)
    (hline : (pa.endLine == cp.line) = true := by rfl) (hse : starEach [b, e] X.env = (false, eval b X.env) :: starEach [e] X.env := by rfl) (hpl : (backTo cp (starEach [e] X.env)).any (·.1) = false := by rfl) :
    Es X W (.Expr (.Call (.Attribute (.Name x px) "insert" pa) [b, e] [] cp) pos) ρ D := by
  refine ⟨fun σ H B L => (ps_expr (pe_bm PySem.F.plainAttrs_list PySem.F.slot_list_insert PySem.F.type_list_insert mt_insert (pe_var hN hv hd hcd) pa_w hbase hfew hline hse hpl) hs).toZ ?_⟩
  obtain ⟨p, vs, e1, e2, e3, e4, e5⟩ := L.at' i _ hρ
  refine ⟨.ref p, e1, .inl ⟨rfl, vs, SqL.of e4⟩, ?_⟩
  refine h.run σ H B _ L fun us H2 B2 ds2 s2 L2 D2 h3 => ?_
  match ds2, D2, h3 with
  | [.int k, d], .cons d1 (.cons d2 .nil), ⟨⟨k0, k1, k2⟩, h4⟩ =>
    obtain ⟨p', vs', f1, f2, f3, f4, f5⟩ := L2.at' i _ hρ
    rw [e1] at f1
    cases f1
    cases dp_int d1
    have hl := dpAll_len f5
    exact ⟨p, vs', k, _, rfl, rfl, f4, by omega, k0, k1, B2, _, s2, L2.chg hρ e1 (dpAll_app (dpAll_app (dpAll_take _ f5) (.cons d2 .nil)) (dpAll_drop _ f5)), h4⟩
/-- x[::-1] of an own list -/
theorem el_revOwn (i : Nat) {x : Str} {ds : List PyData} {px p1 p2 p3 : Pos} {kk : Nat} {R : List PyData → Prop} (hρ : ρ[i]? = some (.own ds)) (h : R ds.reverse) (hN : X.N[i]? = some x := by rfl) (hv : Vis X.env.scope x := by first | exact Or.inl rfl | exact Or.inr (Or.inl rfl) | exact Or.inr (Or.inr rfl))
    (hd : (x == ("__debug__" : Str)) = false := by decide) (hcd : (x == ("__classdict__" : Str)) = false := by decide) : El X W (.Subscript (.Name x px) (.Slice none none (some (.UnaryOp .USub (.Constant (.int 1) kk p1) p2)) p3) pos) ρ R := by
  refine ⟨fun σ H B Q L k => (pe_revL (pe_var hN hv hd hcd)).toZ ?_⟩
  obtain ⟨p, vs, e1, e2, e3, e4, e5⟩ := L.at' i _ hρ
  refine ⟨.ref p, e1, p, vs, rfl, SqL.of e4, fun q hq => ?_⟩
  obtain ⟨L', q1, q2, q3, q4⟩ := fresh_own L hq ds.reverse vs.reverse (dpAll_rev e5)
  exact k q _ _ B _ (Same.refl _) L' q1 q2 q3 q4 (dpAll_rev e5) h
/-- z[lo:hi] of a text -/
theorem ev_slS {lo hi : Option Expr} {p2 : Pos} (h : Ev X W e ρ fun d => Eo X W lo ρ fun l => Eo X W hi ρ fun u => match d with | .str z => z.length ≤ sizeLine ∧ R (.str (cutS z l u)) | _ => False) : Ev X W (.Subscript e (.Slice lo hi none p2) pos) ρ R := by
  refine ⟨fun σ H B Q L k => (pe_slice sl_str pe_w po_w po_w).toZ ?_⟩
  refine h.run σ H B _ L fun v H1 B1 d s1 L1 D1 h2 => ?_
  refine h2.run σ H1 B1 _ L1 fun l H2 B2 s2 L2 h3 => ?_
  refine h3.run σ H2 B2 _ L2 fun u H3 B3 s3 L3 h4 => ?_
  cases d <;> first | exact h4.elim | skip
  rename_i z
  cases dp_str D1
  exact ⟨z, rfl, h4.1, k _ H3 B3 _ ((s1.trans s2).trans s3) L3 (.str _) h4.2⟩
theorem isTL_kit {K : PySem.W.Frag} (d : PyData) : PySem.W.kitAny K (.type (tyD d)) [.type "tuple", .type "list"] = some (isLT d) := by
  have q : ∀ d : PyData, kitB (tyD d) "list" = some (match d with | .list _ => true | _ => false) ∧ kitB (tyD d) "tuple" = some (match d with | .tuple _ => true | _ => false) := by
    intro d
    rw [kit_of_tab d (by simp), kit_of_tab d (by simp)]
    cases d <;> exact ⟨rfl, rfl⟩
  obtain ⟨q1, q2⟩ := q d
  refine kitAny_cons (kit_ty q2) (fun z => kitAny_cons (kit_ty q1) (fun z2 => ?_) fun z2 => ?_) fun z => ?_
  · rw [kitAny_nil]
    cases d <;> first | rfl | (simp at z; done) | (simp at z2; done)
  · cases d <;> first | rfl | (simp at z2; done)
  · cases d <;> first | rfl | (simp at z; done)
/-- isinstance(e, (tuple, list)) -/
theorem ev_isiTL {p p1 p2 p3 : Pos} {x1} (hm : X.mg "isinstance" = none) (h1 : X.mg "list" = none) (h2 : X.mg "tuple" = none) (h : Ev X W e ρ fun d => R (.bool (isLT d))) (hg : Gl X "isinstance" := by rfl) (hgl : Gl X "list" := by rfl) (hgt : Gl X "tuple" := by rfl)
    (he : starEach [e, .Tuple [.Name "tuple" p1, .Name "list" p2] x1 p3] X.env = (false, eval e X.env) :: starEach [.Tuple [.Name "tuple" p1, .Name "list" p2] x1 p3] X.env := by rfl)
    (he2 : starEach [.Tuple [.Name "tuple" p1, .Name "list" p2] x1 p3] X.env = (false, eval (.Tuple [.Name "tuple" p1, .Name "list" p2] x1 p3) X.env) :: starEach [] X.env := by rfl)
    (he3 : starEach [.Name "tuple" p1, .Name "list" p2] X.env = (false, eval (.Name "tuple" p1) X.env) :: starEach [.Name "list" p2] X.env := by rfl) (he4 : starEach [.Name "list" p2] X.env = (false, eval (.Name "list" p2) X.env) :: starEach [] X.env := by rfl)
    (hpl : (backTo pos (starEach [.Tuple [.Name "tuple" p1, .Name "list" p2] x1 p3] X.env)).any (·.1) = false := by rfl) : Ev X W (.Call (.Name "isinstance" p) [e, .Tuple [.Name "tuple" p1, .Name "list" p2] x1 p3] [] pos) ρ R := by
  refine ⟨fun σ H B Q L k => (pe_callB call_isiT hg hm boot_isinstance (pa_cons pe_w (pa_cons (pe_tup (pa_cons (pe_bltn hgt h2 boot_tuple (v := .ty "tuple") rfl) (pa_cons (pe_bltn hgl h1 boot_list (v := .ty "list") rfl) pa_nil he4) he3)) pa_nil he2) he) (by decide) (by decide) he hpl).toZ ?_⟩
  refine h.run σ H B _ L fun v H1 B1 d s1 L1 D1 h2 => ?_
  refine ⟨by show 2 ≤ sizeLine; decide, fun t ht => ?_⟩
  obtain ⟨s, L'⟩ := L1.fresh ht (.tup [.ty "tuple", .ty "list"])
  exact ⟨v, t, _, _, [.type "tuple", .type "list"], isLT d, rfl, upd_same, .cons (.ty _) (.cons (.ty _) .nil), tyX_of L'.gr.sub (dpMono s _ _ D1), isTL_kit d, k _ _ _ _ (s1.trans s) L' (.bl _) h2⟩
end
/-- len(z) of a text -/
theorem ev_lenS {X : Cx} {W : Wd} {ρ : List Sl} {pos : Pos} {e : Expr} {p : Pos} {R : PyData → Prop} (hm : X.mg "len" = none) (h : Ev X W e ρ fun d => match d with | .str z => z.length ≤ sizeLine ∧ R (.int (z.length : Int)) | _ => False) (hg : Gl X "len" := by rfl)
    (he : starEach [e] X.env = (false, eval e X.env) :: starEach [] X.env := by rfl) (hpl : (backTo pos (starEach [] X.env)).any (·.1) = false := by rfl) : Ev X W (.Call (.Name "len" p) [e] [] pos) ρ R := by
  refine ⟨fun σ H B Q L k => (pe_callB call_len_str hg hm PySem.boot_len (pa_cons pe_w pa_nil he) (by decide) (by decide) he hpl).toZ ?_⟩
  refine h.run σ H B _ L fun v H1 B1 d s1 L1 D1 h2 => ?_
  cases d <;> first | exact h2.elim | skip
  rename_i z
  cases dp_str D1
  exact ⟨z, rfl, h2.1, k _ H1 B1 _ s1 L1 (.int _) h2.2⟩
/-- a + b of two lists, a fresh one -/
theorem el_add {X : Cx} {W : Wd} {ρ : List Sl} {pos : Pos} {a b : Expr} {R : List PyData → Prop} (h : Ev X W a ρ fun d => Ev X W b ρ fun d' => match d, d' with | .list xs, .list ys => xs.length + ys.length ≤ sizeLine ∧ R (xs ++ ys) | _, _ => False) : El X W (.BinOp a .Add b pos) ρ R := by
  refine ⟨fun σ H B Q L k => (pe_op op_cat pe_w pe_w).toZ ?_⟩
  refine h.run σ H B _ L fun v H1 B1 d s1 L1 D1 h2 => ?_
  refine h2.run σ H1 B1 _ L1 fun u H2 B2 d' s2 L2 D2 h3 => ?_
  cases d <;> first | exact h3.elim | skip
  cases d' <;> first | exact h3.elim | skip
  rename_i xs ys
  obtain ⟨p, vs, rfl, g1, g2⟩ := dp_list D1
  obtain ⟨q, us, rfl, g3, g4⟩ := dp_list D2
  have g2' := dpAllMono s2 _ _ g2
  refine ⟨p, q, vs, us, rfl, rfl, L2.gr.sub _ _ (s2 _ _ g1), L2.gr.sub _ _ g3, by rw [dpAll_len g2, dpAll_len g4]; exact h3.1, fun t ht => ?_⟩
  obtain ⟨L', q1, q2, q3, q4⟩ := fresh_own L2 ht (xs ++ ys) (vs ++ us) (dpAll_app g2' g4)
  exact k t _ _ B2 _ (s1.trans s2) L' q1 q2 q3 q4 (dpAll_app g2' g4) h3.2
end
end Z

local macro_rules | `(tactic| walk_at "zs") => `(tactic| first | assumption | omega | exact Z.divs (by omega) (by omega) | exact Z.mull (by omega) (by omega) | exact Z.mulr (by omega) (by omega) | decide)
local macro_rules | `(tactic| walk_at "sh") => `(tactic| first | rfl | assumption | decide)
local macro_rules | `(tactic| walk_at "pre") => `(tactic| first | assumption | omega | (refine ⟨⟨?_, ?_⟩, ⟨?_, ?_⟩, ?_, ?_⟩ <;> omega) | decide)
local macro_rules | `(tactic| walk_at "wk") => `(tactic| repeat (first | exact Z.Wk.nil | apply Z.Wk.eq | apply Z.Wk.no))
local macro_rules | `(tactic| walk_at "sz") => `(tactic| first | (simp only [List.length_cons, List.length_nil]; decide) | decide)
namespace Law
open PySem PySem.Spec PyProof.Rows L2 Z
def topS (i : Nat) : Stmt := PySem.Challenge.pw_wallrolls_k01_paper_values.main.body.getD i (.Pass ⟨0, 0, 0, 0⟩)
abbrev s_is_integer : Stmt := topS 3
abbrev s_is_paper : Stmt := topS 4
abbrev s__law_draw : Stmt := topS 6
abbrev s__law_whole : Stmt := topS 7
abbrev s__law_within : Stmt := topS 8
abbrev s__law_like : Stmt := topS 9
abbrev s__law_spoilt : Stmt := topS 10
abbrev s__law_any : Stmt := topS 11
abbrev s__law_numbers : Stmt := topS 12
abbrev s_law : Stmt := topS 13
theorem sc_is_integer : FnScope ["value", "low", "high"] ["value", "low", "high"] (defScope s_is_integer) := ⟨rfl, rfl, rfl, by decide +kernel, rfl, by decide +kernel, by decide +kernel⟩
theorem sc_is_paper : FnScope ["value"] ["value"] (defScope s_is_paper) := ⟨rfl, rfl, rfl, by decide +kernel, rfl, by decide +kernel, by decide +kernel⟩
theorem sc__law_draw : FnScope ["tape", "many", "prime", "cell", "found"] ["tape", "many"] (defScope s__law_draw) := ⟨rfl, rfl, rfl, by decide +kernel, rfl, by decide +kernel, by decide +kernel⟩
theorem sc__law_whole : FnScope ["item"] ["item"] (defScope s__law_whole) := ⟨rfl, rfl, rfl, by decide +kernel, rfl, by decide +kernel, by decide +kernel⟩
theorem sc__law_within : FnScope ["item", "low", "high"] ["item", "low", "high"] (defScope s__law_within) := ⟨rfl, rfl, rfl, by decide +kernel, rfl, by decide +kernel, by decide +kernel⟩
theorem sc__law_like : FnScope ["one", "two", "k"] ["one", "two"] (defScope s__law_like) := ⟨rfl, rfl, rfl, by decide +kernel, rfl, by decide +kernel, by decide +kernel⟩
theorem sc__law_spoilt : FnScope ["tape", "item", "k", "rest", "course", "at"] ["tape", "item"] (defScope s__law_spoilt) := ⟨rfl, rfl, rfl, by decide +kernel, rfl, by decide +kernel, by decide +kernel⟩
theorem sc__law_any : FnScope ["tape", "deep", "course", "some", "k"] ["tape", "deep"] (defScope s__law_any) := ⟨rfl, rfl, rfl, by decide +kernel, rfl, by decide +kernel, by decide +kernel⟩
theorem sc__law_numbers : FnScope ["tape", "most", "far", "repeat", "some"] ["tape", "most", "far"] (defScope s__law_numbers) := ⟨rfl, rfl, rfl, by decide +kernel, rfl, by decide +kernel, by decide +kernel⟩
theorem sc_law : FnScope ["script", "tape", "turn", "kind", "things", "k", "thing", "good"] ["script"] (defScope s_law) := ⟨rfl, rfl, rfl, by decide +kernel, rfl, by decide +kernel, by decide +kernel⟩
structure En (K : PySem.W.Frag) (mg : Str → Option Value) where
  f_is_integer : Addr
  fd_is_integer : FuncData
  F_is_integer : Fun K "is_integer" "is_integer" s_is_integer f_is_integer fd_is_integer
  b_is_integer : Binds K fd_is_integer ["value", "low", "high"] []
  g_is_integer : mg "is_integer" = some (.ref f_is_integer)
  f_is_paper : Addr
  fd_is_paper : FuncData
  F_is_paper : Fun K "is_paper" "is_paper" s_is_paper f_is_paper fd_is_paper
  b_is_paper : Binds K fd_is_paper ["value"] []
  g_is_paper : mg "is_paper" = some (.ref f_is_paper)
  f__law_draw : Addr
  fd__law_draw : FuncData
  F__law_draw : Fun K "_law_draw" "_law_draw" s__law_draw f__law_draw fd__law_draw
  b__law_draw : Binds K fd__law_draw ["tape", "many"] []
  g__law_draw : mg "_law_draw" = some (.ref f__law_draw)
  f__law_whole : Addr
  fd__law_whole : FuncData
  F__law_whole : Fun K "_law_whole" "_law_whole" s__law_whole f__law_whole fd__law_whole
  b__law_whole : Binds K fd__law_whole ["item"] []
  g__law_whole : mg "_law_whole" = some (.ref f__law_whole)
  f__law_within : Addr
  fd__law_within : FuncData
  F__law_within : Fun K "_law_within" "_law_within" s__law_within f__law_within fd__law_within
  b__law_within : Binds K fd__law_within ["item", "low", "high"] []
  g__law_within : mg "_law_within" = some (.ref f__law_within)
  f__law_like : Addr
  fd__law_like : FuncData
  F__law_like : Fun K "_law_like" "_law_like" s__law_like f__law_like fd__law_like
  b__law_like : Binds K fd__law_like ["one", "two"] []
  g__law_like : mg "_law_like" = some (.ref f__law_like)
  f__law_spoilt : Addr
  fd__law_spoilt : FuncData
  F__law_spoilt : Fun K "_law_spoilt" "_law_spoilt" s__law_spoilt f__law_spoilt fd__law_spoilt
  b__law_spoilt : Binds K fd__law_spoilt ["tape", "item"] []
  g__law_spoilt : mg "_law_spoilt" = some (.ref f__law_spoilt)
  f__law_any : Addr
  fd__law_any : FuncData
  F__law_any : Fun K "_law_any" "_law_any" s__law_any f__law_any fd__law_any
  b__law_any : Binds K fd__law_any ["tape", "deep"] []
  g__law_any : mg "_law_any" = some (.ref f__law_any)
  f__law_numbers : Addr
  fd__law_numbers : FuncData
  F__law_numbers : Fun K "_law_numbers" "_law_numbers" s__law_numbers f__law_numbers fd__law_numbers
  b__law_numbers : Binds K fd__law_numbers ["tape", "most", "far"] []
  g__law_numbers : mg "_law_numbers" = some (.ref f__law_numbers)
  n_bool : mg "bool" = none
  n_int : mg "int" = none
  n_isinstance : mg "isinstance" = none
  n_len : mg "len" = none
  n_list : mg "list" = none
  n_max : mg "max" = none
  n_range : mg "range" = none
  n_str : mg "str" = none
  n_tuple : mg "tuple" = none
  c_MOST_REPEAT : ∃ t, mg "MOST_REPEAT" = some (.int 200 t)
  c_MOST_ROLL : ∃ t, mg "MOST_ROLL" = some (.int 10000 t)
def wholeD : PyData → Bool
  | .int _ => true
  | _ => false
def within : PyData → Int → Int → Bool
  | .int i, lo, hi => decide (lo ≤ i) && decide (i ≤ hi)
  | _, _, _ => false
def valI : PyData → Int
  | .int i => i
  | _ => 0
def papB : PyData → Bool
  | .tuple [a, b, c] => within a 1 200 && within b 0 (valI a - 1) && within c 1 10000
  | _ => false

/-! ### papers -/
abbrev pap (r d l : Int) : PyData := .tuple [.int r, .int d, .int l]
def POk (r d l : Int) : Prop := (1 ≤ r ∧ r ≤ 200) ∧ (0 ≤ d ∧ d < r) ∧ (1 ≤ l ∧ l ≤ 10000)

/-! ### plain data of bounded depth -/
def Sim : Nat → PyData → Prop
  | _, .none => True
  | _, .bool _ => True
  | _, .int _ => True
  | _, .str x => PyData.strOk x = true
  | n + 1, .list ds => ds.length ≤ 1000000 ∧ ∀ d ∈ ds, Sim n d
  | n + 1, .tuple ds => ds.length ≤ 1000000 ∧ ∀ d ∈ ds, Sim n d
  | 0, .list _ => False
  | 0, .tuple _ => False
  | _, .dict _ => False
theorem canLayAll_of : ∀ {ds : List PyData}, (∀ d ∈ ds, d.canLay0 = true) → PyData.canLayAll0 ds = true
  | [], _ => by simp [PyData.canLayAll0]
  | d :: ds, h => by
    simp only [PyData.canLayAll0, Bool.and_eq_true]
    exact ⟨h d (by simp), canLayAll_of fun e he => h e (by simp [he])⟩
theorem depthAll_of {n : Nat} : ∀ {ds : List PyData}, (∀ d ∈ ds, d.depth ≤ n) → PyData.depthAll ds ≤ n
  | [], _ => by simp [PyData.depthAll]
  | d :: ds, h => by
    simp only [PyData.depthAll]
    have h1 := h d (by simp)
    have h2 := depthAll_of (ds := ds) fun e he => h e (by simp [he])
    omega
theorem Sim.lay : ∀ {n : Nat} {d : PyData}, Sim n d → d.canLay0 = true ∧ d.depth ≤ n
  | n, .none, _ => by simp [PyData.canLay0, PyData.depth]
  | n, .bool _, _ => by simp [PyData.canLay0, PyData.depth]
  | n, .int _, _ => by simp [PyData.canLay0, PyData.depth]
  | n, .str x, h => by
    have h : PyData.strOk x = true := by cases n <;> exact h
    simp [PyData.canLay0, PyData.depth, h]
  | n + 1, .list ds, h => by
    simp only [PyData.canLay0, PyData.depth]
    refine ⟨canLayAll_of fun d hd => (Sim.lay (h.2 d hd)).1, ?_⟩
    have := depthAll_of (n := n) (ds := ds) fun d hd => (Sim.lay (h.2 d hd)).2
    omega
  | n + 1, .tuple ds, h => by
    simp only [PyData.canLay0, PyData.depth]
    refine ⟨canLayAll_of fun d hd => (Sim.lay (h.2 d hd)).1, ?_⟩
    have := depthAll_of (n := n) (ds := ds) fun d hd => (Sim.lay (h.2 d hd)).2
    omega
  | 0, .list _, h => h.elim
  | 0, .tuple _, h => h.elim
  | n, .dict _, h => by cases n <;> exact h.elim
theorem Sim.shaped {n : Nat} {d : PyData} (h : Sim n d) (hn : n ≤ 64) : SeqAt.shaped d = true := by
  unfold SeqAt.shaped
  rw [Bool.and_eq_true]
  exact ⟨h.lay.1, decide_eq_true (Nat.le_trans h.lay.2 hn)⟩
theorem eqvAll_self : ∀ {ds : List PyData}, (∀ d ∈ ds, PyData.eqv d d = true) → PyData.eqvAll ds ds = true
  | [], _ => by simp [PyData.eqvAll]
  | d :: ds, h => by
    simp only [PyData.eqvAll, Bool.and_eq_true]
    exact ⟨h d (by simp), eqvAll_self fun e he => h e (by simp [he])⟩
theorem Sim.self : ∀ {n : Nat} {d : PyData}, Sim n d → PyData.eqv d d = true
  | n, .none, _ => by simp [PyData.eqv]
  | n, .bool _, _ => by simp [PyData.eqv]
  | n, .int _, _ => by simp [PyData.eqv]
  | n, .str x, h => by simp [PyData.eqv]
  | n + 1, .list ds, h => by
    simp only [PyData.eqv]
    exact eqvAll_self fun d hd => Sim.self (h.2 d hd)
  | n + 1, .tuple ds, h => by
    simp only [PyData.eqv]
    exact eqvAll_self fun d hd => Sim.self (h.2 d hd)
  | 0, .list _, h => h.elim
  | 0, .tuple _, h => h.elim
  | n, .dict _, h => by cases n <;> exact h.elim
theorem Sim.up : ∀ {n m : Nat} {d : PyData}, Sim n d → n ≤ m → Sim m d
  | n, m, .none, _, _ => by cases m <;> trivial
  | n, m, .bool _, _, _ => by cases m <;> trivial
  | n, m, .int _, _, _ => by cases m <;> trivial
  | n, m, .str x, h, _ => by
    have h : PyData.strOk x = true := by cases n <;> exact h
    cases m <;> exact h
  | n + 1, 0, .list ds, h, e => by omega
  | n + 1, m + 1, .list ds, h, e => ⟨h.1, fun d hd => (h.2 d hd).up (by omega)⟩
  | n + 1, 0, .tuple ds, h, e => by omega
  | n + 1, m + 1, .tuple ds, h, e => ⟨h.1, fun d hd => (h.2 d hd).up (by omega)⟩
  | 0, _, .list _, h, _ => h.elim
  | 0, _, .tuple _, h, _ => h.elim
  | n, _, .dict _, h, _ => by cases n <;> exact h.elim
theorem sim_dict {n : Nat} {k : List (PyData × PyData)} (h : Sim n (.dict k)) : False := by cases n <;> exact h
theorem sim_int {n : Nat} {i : Int} : Sim n (.int i) := by cases n <;> trivial
theorem sim_bool {n : Nat} {i : Bool} : Sim n (.bool i) := by cases n <;> trivial
theorem sim_none {n : Nat} : Sim n .none := by cases n <;> trivial
theorem sim_ints {n : Nat} {ns : List Int} (h : ns.length ≤ 1000000) : Sim (n + 1) (.list (ns.map PyData.int)) := ⟨by rw [List.length_map]; exact h, fun d hd => by
  obtain ⟨i, _, rfl⟩ := List.mem_map.mp hd
  exact sim_int⟩
theorem sim_intsT {n : Nat} {ns : List Int} (h : ns.length ≤ 1000000) : Sim (n + 1) (.tuple (ns.map PyData.int)) := ⟨by rw [List.length_map]; exact h, fun d hd => by
  obtain ⟨i, _, rfl⟩ := List.mem_map.mp hd
  exact sim_int⟩
/-- == of ints' data is equality -/
theorem eqvAll_ints : ∀ {ns ms : List Int}, PyData.eqvAll (ns.map PyData.int) (ms.map PyData.int) = decide (ns = ms)
  | [], [] => by simp [PyData.eqvAll]
  | [], m :: ms => by simp [PyData.eqvAll]
  | n :: ns, [] => by simp [PyData.eqvAll]
  | n :: ns, m :: ms => by
    simp only [List.map_cons, PyData.eqvAll, PyData.eqv]
    rw [eqvAll_ints]
    by_cases h1 : n = m
    · by_cases h2 : ns = ms
      · simp [h1, h2]
      · simp [h1, h2]
    · simp [h1]
theorem eqv_ints {ns ms : List Int} : PyData.eqv (.list (ns.map PyData.int)) (.list (ms.map PyData.int)) = decide (ns = ms) := by
  simp only [PyData.eqv]
  exact eqvAll_ints
theorem eqv_intsT {ns ms : List Int} : PyData.eqv (.tuple (ns.map PyData.int)) (.tuple (ms.map PyData.int)) = decide (ns = ms) := by
  simp only [PyData.eqv]
  exact eqvAll_ints

/-! arbitrary plain data: depth at most n, lists and texts no longer than L -/
def An : Nat → Nat → PyData → Prop
  | _, _, .none => True
  | _, _, .bool _ => True
  | _, _, .int _ => True
  | _, L, .str x => x.length ≤ L
  | n + 1, L, .list ds => ds.length ≤ L ∧ ∀ d ∈ ds, An n L d
  | n + 1, L, .tuple ds => ds.length ≤ L ∧ ∀ d ∈ ds, An n L d
  | 0, _, .list _ => False
  | 0, _, .tuple _ => False
  | _, _, .dict _ => False
theorem an_int {n L : Nat} {i : Int} : An n L (.int i) := by cases n <;> trivial
theorem an_bool {n L : Nat} {i : Bool} : An n L (.bool i) := by cases n <;> trivial
theorem an_none {n L : Nat} : An n L .none := by cases n <;> trivial
theorem an_str {n L : Nat} {x : Str} : An n L (.str x) ↔ x.length ≤ L := by cases n <;> exact Iff.rfl
theorem An.up : ∀ {n m L M : Nat} {d : PyData}, An n L d → n ≤ m → L ≤ M → An m M d
  | n, m, L, M, .none, _, _, _ => an_none
  | n, m, L, M, .bool _, _, _, _ => an_bool
  | n, m, L, M, .int _, _, _, _ => an_int
  | n, m, L, M, .str x, h, _, h2 => an_str.mpr (Nat.le_trans (an_str.mp h) h2)
  | n + 1, m + 1, L, M, .list ds, h, h1, h2 => ⟨Nat.le_trans h.1 h2, fun d hd => (h.2 d hd).up (by omega) h2⟩
  | n + 1, m + 1, L, M, .tuple ds, h, h1, h2 => ⟨Nat.le_trans h.1 h2, fun d hd => (h.2 d hd).up (by omega) h2⟩
  | n + 1, 0, L, M, .list ds, _, h1, _ => by omega
  | n + 1, 0, L, M, .tuple ds, _, h1, _ => by omega
  | 0, _, _, _, .list _, h, _, _ => h.elim
  | 0, _, _, _, .tuple _, h, _, _ => h.elim
  | n, _, _, _, .dict _, h, _, _ => by cases n <;> exact h.elim
theorem an_dict {n L : Nat} {x} (h : An n L (.dict x)) : False := by cases n <;> exact h

section
variable {P : Program} {w : World} {K : PySem.W.Frag} {mg : Str → Option Value} {base : Heap}
-- NEEDS within
-- FILL: ⟨_, _, _, rfl, ?_⟩
def p_is_integer : List PyData → (PyData → Prop) → Prop := fun ds R => ∃ d lo hi, ds = [d, .int lo, .int hi] ∧ R (.bool (within d lo hi))
theorem ok_is_integer (T : En K mg) : FnOk P w K mg base CX0 1 T.f_is_integer T.fd_is_integer ["value", "low", "high"] (Con K p_is_integer) := by
  refine fn_con T.F_is_integer sc_is_integer (fun ds R h => ?_) (fun cdv A outer s H E W ds R hr h => ?_)
  · obtain ⟨d, lo, hi, rfl, _⟩ := h
    rfl
  · obtain ⟨d, lo, hi, rfl, hR⟩ := h
    refine ess_one (es_ret ?_)
    refine ev_and ?_
    refine ev_isInt T.n_isinstance T.n_int ?_
    refine ev_name 0 rfl ?_
    refine ⟨fun h1 => ?_, fun h1 => ?_⟩
    · refine ev_and ?_
      refine ev_not ?_
      refine ev_isBool T.n_isinstance T.n_bool ?_
      refine ev_name 0 rfl ?_
      cases d <;> first | (cases h1; done) | skip
      · exact ⟨fun z => (by cases z), fun _ => hR⟩
      · rename_i i
        refine ⟨fun _ => ?_, fun z => (by cases z)⟩
        refine ev_one ?_
        refine ev_chain oz_le oz_le ?_
        refine ev_name 1 rfl ?_
        refine ev_name 0 rfl ?_
        have hR : R (.bool (decide (lo ≤ i) && decide (i ≤ hi))) := hR
        refine dB (fun h2 => ?_) fun h2 => ?_
        · refine ev_name 2 rfl ?_
          rw [decide_eq_true h2, Bool.true_and] at hR
          exact hR
        · rw [decide_eq_false h2, Bool.false_and] at hR
          exact hR
    · cases d <;> first | exact hR | cases h1

-- NEEDS within
-- FILL: ⟨_, rfl, ?_⟩
def p_is_paper : List PyData → (PyData → Prop) → Prop := fun ds R => ∃ d, ds = [d] ∧ R (.bool (papB d))
theorem ok_is_paper (T : En K mg) : FnOk P w K mg base CX0 2 T.f_is_paper T.fd_is_paper ["value"] (Con K p_is_paper) := by
  refine fn_con T.F_is_paper sc_is_paper (fun ds R h => ?_) (fun cdv A outer s H E W ds R hr h => ?_)
  · obtain ⟨d, rfl, _⟩ := h
    rfl
  · obtain ⟨d, rfl, hR⟩ := h
    have nottup : isTupD d = false → papB d = false := fun h => by cases d <;> first | rfl | cases h
    refine ess_cons (es_if ?_)
    refine et_ew (ew_or ?_)
    refine et_not (et_val ?_)
    refine ev_isTup T.n_isinstance T.n_tuple ?_
    refine ev_name 0 rfl ?_
    cases ht : isTupD d with
    | false =>
      rw [nottup ht] at hR
      refine yesT (yesT ?_)
      refine ess_one (es_ret ?_)
      refine ev_bool ?_
      exact hR
    | true =>
      obtain ⟨ds, rfl⟩ : ∃ ds, d = .tuple ds := by cases d <;> first | exact ⟨_, rfl⟩ | cases ht
      refine noF ?_
      refine ew_or ?_
      refine et_cmp oz_ne ?_
      refine ev_len T.n_len ?_
      refine ev_name 0 rfl ?_
      refine ev_int ?_
      refine dN (fun hne => ?_) fun heq => ?_
      · have e : papB (.tuple ds) = false := by
          match ds, hne with
          | [], _ => rfl
          | [_], _ => rfl
          | [_, _], _ => rfl
          | [_, _, _], h => exact absurd rfl h
          | _ :: _ :: _ :: _ :: _, _ => rfl
        rw [e] at hR
        refine yesT ?_
        refine ess_one (es_ret ?_)
        refine ev_bool ?_
        exact hR
      obtain ⟨a, b, c, rfl⟩ : ∃ a b c, ds = [a, b, c] := by
        match ds, heq with
        | [], h => simp at h
        | [_], h => simp at h
        | [_, _], h => simp at h
        | [a, b, c], _ => exact ⟨a, b, c, rfl⟩
        | _ :: _ :: _ :: _ :: _, h => simp at h; omega
      refine ew_or1 ?_
      refine et_not (et_val ?_)
      refine ev_call (ok_is_integer T) hr T.g_is_integer T.F_is_integer.kp T.b_is_integer ?_
      refine ea_cons ?_
      refine ev_ix ?_
      refine ev_name 0 rfl ?_
      refine ev_int ?_
      refine ⟨_, rfl, ?_⟩
      refine ea_cons ?_
      refine ev_int ?_
      refine ea_cons ?_
      refine ev_glob T.c_MOST_REPEAT ?_
      refine ea_nil ⟨_, _, _, rfl, ?_⟩
      have ep : papB (.tuple [a, b, c]) = (within a 1 200 && within b 0 (valI a - 1) && within c 1 10000) := rfl
      rw [ep] at hR
      cases hw : within a 1 200 with
      | false =>
        rw [hw] at hR
        refine yesT ?_
        refine ess_one (es_ret ?_)
        refine ev_bool ?_
        exact hR
      | true =>
        rw [hw] at hR
        obtain ⟨i, rfl⟩ : ∃ i, a = .int i := by cases a <;> first | exact ⟨_, rfl⟩ | cases hw
        refine noF (ess_nil ?_)
        refine ess_one (es_ret ?_)
        refine ev_and ?_
        refine ev_call (ok_is_integer T) hr T.g_is_integer T.F_is_integer.kp T.b_is_integer ?_
        refine ea_cons ?_
        refine ev_ix ?_
        refine ev_name 0 rfl ?_
        refine ev_int ?_
        refine ⟨_, rfl, ?_⟩
        refine ea_cons ?_
        refine ev_int ?_
        refine ea_cons ?_
        refine ev_bin oz_sub ?_
        refine ev_ix ?_
        refine ev_name 0 rfl ?_
        refine ev_int ?_
        refine ⟨_, rfl, ?_⟩
        refine ev_int ?_
        refine ea_nil ⟨_, _, _, rfl, ?_⟩
        cases hw2 : within b 0 (i - 1) with
        | false =>
          have e2 : within b 0 (valI (.int i) - 1) = false := hw2
          rw [e2] at hR
          exact noF hR
        | true =>
          have e2 : within b 0 (valI (.int i) - 1) = true := hw2
          rw [e2] at hR
          refine yesT ?_
          refine ev_one ?_
          refine ev_call (ok_is_integer T) hr T.g_is_integer T.F_is_integer.kp T.b_is_integer ?_
          refine ea_cons ?_
          refine ev_ix ?_
          refine ev_name 0 rfl ?_
          refine ev_int ?_
          refine ⟨_, rfl, ?_⟩
          refine ea_cons ?_
          refine ev_int ?_
          refine ea_cons ?_
          refine ev_glob T.c_MOST_ROLL ?_
          exact ea_nil ⟨_, _, _, rfl, hR⟩

-- FILL: ⟨_, rfl, by walk_at "zs", by walk_at "zs", fun $1 $1a $1b => ?_⟩
/-- a draw: any number below -/
def p__law_draw : List PyData → (PyData → Prop) → Prop := fun ds R => ∃ m : Int, ds = [.int m] ∧ 0 < m ∧ m ≤ 10 ^ 15 ∧ ∀ n : Int, 0 ≤ n → n < m → R (.int n)
theorem ok__law_draw (T : En K mg) : FnOk P w K mg base CX0 1 T.f__law_draw T.fd__law_draw ["tape", "many"] (ConT K p__law_draw) := by
  refine fn_conT T.F__law_draw sc__law_draw (fun ds R h => ?_) (fun cdv A outer s H E W ds R hr h => ?_)
  · obtain ⟨m, rfl, _⟩ := h
    rfl
  · obtain ⟨m, rfl, h0, h1, hR⟩ := h
    have md : ∀ x : Int, 0 ≤ x % 2305843009213693951 ∧ x % 2305843009213693951 < 2305843009213693951 := fun x => ⟨Int.emod_nonneg _ (by decide), Int.emod_lt_of_pos _ (by decide)⟩
    refine ess_cons (es_set 2 ?_ sc__law_draw.nd)
    refine ev_int ?_
    refine ess_cut (fun r => r = [.tape, .im (.int m), .im (.int 2305843009213693951), r.getD 3 .no, .no]) (es_if ?_) fun r hr3 => ?_
    · refine et_cmp oz_lt ?_
      refine ev_tape2 0 rfl fun c c0 => ?_
      refine ev_name 1 rfl ?_
      refine dB (fun h2 => ?_) fun h2 => ?_
      · refine ess_cons (es_set 3 ?_ sc__law_draw.nd)
        refine ev_int ?_
        refine ess_cut (fun r => ∃ z : Int, r = [.tape, .im (.int m), .im (.int 2305843009213693951), .im (.int z), .no]) (es_if ?_) fun r hz => ?_
        · refine et_cmp oz_gt ?_
          refine ev_len T.n_len ?_
          refine ev_tape0 0 rfl ?_
          refine ev_int ?_
          refine dB (fun h3 => ?_) fun h3 => ?_
          · rw [List.length_map] at h3
            refine ess_one (es_set 3 ?_ sc__law_draw.nd)
            refine ev_ix ?_
            refine ev_tape0 0 rfl ?_
            refine ev_bin oz_mod ?_
            refine ev_tape1 0 rfl fun z z0 => ?_
            refine ev_len T.n_len ?_
            refine ev_tape0 0 rfl ?_
            have hl : (0 : Int) < ((W.ns.2.map PyData.int).length : Nat) := by rw [List.length_map]; omega
            refine ⟨hl, ?_⟩
            obtain ⟨x, hx, y, rfl⟩ := pick (ds := W.ns.2.map PyData.int) (n := z % ((W.ns.2.map PyData.int).length : Nat)) (Pr := fun d => ∃ y : Int, d = .int y) (Int.emod_nonneg _ (by omega)) (Int.emod_lt_of_pos _ hl) (fun d hd => by
              obtain ⟨y, _, rfl⟩ := List.mem_map.mp hd
              exact ⟨y, rfl⟩)
            exact ⟨_, hx, y, rfl⟩
          · exact ess_nil ⟨0, rfl⟩
        · obtain ⟨z, rfl⟩ := hz
          refine ess_cut (fun r => ∃ z : Int, 0 ≤ z ∧ r = [.tape, .im (.int m), .im (.int 2305843009213693951), .im (.int z), .no]) (es_if ?_) fun r hz => ?_
          · have big : ∀ z : Int, Ess (Bx P w K mg base ["tape", "many", "prime", "cell", "found"] "_law_draw" (defScope s__law_draw) T.f__law_draw cdv A outer s H E) W (defBody s__law_draw |>.getD 1 (.Pass ⟨0, 0, 0, 0⟩) |> fun st => match st with
                | .If _ b _ _ => (match b.getD 2 (.Pass ⟨0, 0, 0, 0⟩) with | .If _ b _ _ => b | _ => []) | _ => []) [.tape, .im (.int m), .im (.int 2305843009213693951), .im (.int z), .no]
                { nx := fun r => ∃ z : Int, 0 ≤ z ∧ r = [.tape, .im (.int m), .im (.int 2305843009213693951), .im (.int z), .no], rt := R } := fun z => by
              refine ess_cons (es_set 3 ?_ sc__law_draw.nd)
              refine ev_bin oz_mod ?_
              refine ev_bin oz_add ?_
              refine ev_name 3 rfl ?_
              refine ev_bin oz_mul ?_
              refine ev_int ?_
              refine ev_tape1 0 rfl fun i i0 => ?_
              refine ⟨by walk_at "zs", ?_⟩
              refine ev_name 2 rfl ?_
              refine ⟨(show (0 : Int) < 2305843009213693951 by decide), ?_⟩
              obtain ⟨a0, a1⟩ := md (z + 1000003 * i)
              refine ess_cons (es_set 3 ?_ sc__law_draw.nd)
              refine ev_bin oz_mod ?_
              refine ev_bin oz_add ?_
              refine ev_bin oz_add ?_
              refine ev_bin oz_mul ?_
              refine ev_name 3 rfl ?_
              refine ev_name 3 rfl ?_
              refine ⟨mull (by omega) (by omega), ?_⟩
              refine ev_bin oz_mul ?_
              refine ev_int ?_
              refine ev_name 3 rfl ?_
              refine ⟨mull (by omega) (by omega), ?_⟩
              refine ev_int ?_
              refine ev_name 2 rfl ?_
              refine ⟨(show (0 : Int) < 2305843009213693951 by decide), ?_⟩
              refine ess_one (es_set 3 ?_ sc__law_draw.nd)
              refine ev_bin oz_mod ?_
              refine ev_bin oz_add ?_
              refine ev_bin oz_mul ?_
              refine ev_name 3 rfl ?_
              refine ev_name 3 rfl ?_
              refine ⟨mull (Int.le_trans (by decide) (md _).1) (Int.le_trans (Int.le_of_lt (md _).2) (by decide)), ?_⟩
              refine ev_int ?_
              refine ev_name 2 rfl ?_
              refine ⟨(show (0 : Int) < 2305843009213693951 by decide), ?_⟩
              exact ⟨_, (md _).1, rfl⟩
            refine et_ew (ew_or ?_)
            refine et_cmp oz_ge ?_
            refine ev_tape1 0 rfl fun i i0 => ?_
            refine ev_len T.n_len ?_
            refine ev_tape0 0 rfl ?_
            refine ⟨fun _ => ⟨fun _ => big z, fun h => by cases h⟩, fun _ => ?_⟩
            refine ew_or1 ?_
            refine et_cmp oz_lt ?_
            refine ev_name 3 rfl ?_
            refine ev_powc (m := 1000000000000000000) ?_
            refine dB (fun _ => big z) fun h4 => ?_
            exact ess_nil ⟨z, by omega, rfl⟩
          · obtain ⟨z, z0, rfl⟩ := hz
            refine ess_cons (es_tape 0 (.inl rfl) rfl ?_)
            refine ev_bin oz_add ?_
            refine ev_tape1 0 rfl fun i i0 => ?_
            refine ev_int ?_
            refine ⟨by omega, ?_⟩
            refine ess_one (es_tape 0 (.inr rfl) rfl ?_)
            refine ev_name 3 rfl ?_
            exact ⟨z0, rfl⟩
      · exact ess_nil rfl
    · rw [hr3]
      refine ess_cons (es_set 4 ?_ sc__law_draw.nd)
      refine ev_bin oz_mod ?_
      refine ev_tape2 0 rfl fun c c0 => ?_
      refine ev_name 1 rfl ?_
      refine ⟨h0, ?_⟩
      refine ess_cons (es_tape 0 (.inr rfl) rfl ?_)
      refine ev_bin oz_div ?_
      refine ev_tape2 0 rfl fun c2 c20 => ?_
      refine ev_name 1 rfl ?_
      refine ⟨divs h0 (by omega), ?_⟩
      refine ⟨Int.ediv_nonneg c20 (by omega), ?_⟩
      refine ess_one (es_ret ?_)
      refine ev_name 4 rfl ?_
      exact hR _ (Int.emod_nonneg _ (by omega)) (Int.emod_lt_of_pos _ h0)

-- NEEDS within
-- FILL: ⟨_, rfl, ?_⟩
def p__law_whole : List PyData → (PyData → Prop) → Prop := fun ds R => ∃ d, ds = [d] ∧ R (.bool (wholeD d))
theorem ok__law_whole (T : En K mg) : FnOk P w K mg base CX0 1 T.f__law_whole T.fd__law_whole ["item"] (Con K p__law_whole) := by
  refine fn_con T.F__law_whole sc__law_whole (fun ds R h => ?_) (fun cdv A outer s H E W ds R hr h => ?_)
  · obtain ⟨d, rfl, _⟩ := h
    rfl
  · obtain ⟨d, rfl, hR⟩ := h
    refine ess_one (es_ret ?_)
    refine ev_and ?_
    refine ev_isInt T.n_isinstance T.n_int ?_
    refine ev_name 0 rfl ?_
    refine ⟨fun h1 => ?_, fun h1 => ?_⟩
    · refine ev_one ?_
      refine ev_not ?_
      refine ev_isBool T.n_isinstance T.n_bool ?_
      refine ev_name 0 rfl ?_
      cases d <;> first | exact hR | cases h1
    · cases d <;> first | exact hR | cases h1

-- NEEDS within
-- FILL: ⟨_, _, _, rfl, ?_⟩
def p__law_within : List PyData → (PyData → Prop) → Prop := fun ds R => ∃ d lo hi, ds = [d, .int lo, .int hi] ∧ R (.bool (within d lo hi))
theorem ok__law_within (T : En K mg) : FnOk P w K mg base CX0 2 T.f__law_within T.fd__law_within ["item", "low", "high"] (Con K p__law_within) := by
  refine fn_con T.F__law_within sc__law_within (fun ds R h => ?_) (fun cdv A outer s H E W ds R hr h => ?_)
  · obtain ⟨d, lo, hi, rfl, _⟩ := h
    rfl
  · obtain ⟨d, lo, hi, rfl, hR⟩ := h
    refine ess_one (es_ret ?_)
    refine ev_and ?_
    refine ev_call (ok__law_whole T) hr T.g__law_whole T.F__law_whole.kp T.b__law_whole ?_
    refine ea_cons ?_
    refine ev_name 0 rfl ?_
    refine ea_nil ⟨_, rfl, ?_⟩
    refine ⟨fun h1 => ?_, fun h1 => ?_⟩
    · refine ev_one ?_
      cases d <;> first | (cases h1; done) | skip
      rename_i i
      refine ev_chain oz_le oz_le ?_
      refine ev_name 1 rfl ?_
      refine ev_name 0 rfl ?_
      have hR : R (.bool (decide (lo ≤ i) && decide (i ≤ hi))) := hR
      refine dB (fun h2 => ?_) fun h2 => ?_
      · refine ev_name 2 rfl ?_
        rw [decide_eq_true h2, Bool.true_and] at hR
        exact hR
      · rw [decide_eq_false h2, Bool.false_and] at hR
        exact hR
    · cases d <;> first | exact hR | cases h1

-- FILL: ⟨_, rfl, by walk_at "sim", ?_⟩
-- NEEDS base
-- NEEDS sim
/-- the law's deep likeness, asked of equal data -/
def p__law_like (n : Nat) : List PyData → (PyData → Prop) → Prop := fun ds R => ∃ d, ds = [d, d] ∧ Sim n d ∧ R (.bool true)
theorem like_seq (T : En K mg) {n : Nat} (ih : ∀ m, n = m + 1 → FnOk P w K mg base CX0 n T.f__law_like T.fd__law_like ["one", "two"] (Con K (p__law_like m))) {cdv : Value} {A : Around} {outer : List Env} {s : Shared} {H : Hp} {E : XK} {W : Wd} {R : PyData → Prop}
    (hr : Room n (Bx P w K mg base ["one", "two", "k"] "_law_like" (defScope s__law_like) T.f__law_like cdv A outer s H E).A) {d : PyData} {ds : List PyData} (hd : d = .list ds ∨ d = .tuple ds) (hs : Sim n d) (hR : R (.bool true)) :
    Ess (Bx P w K mg base ["one", "two", "k"] "_law_like" (defScope s__law_like) T.f__law_like cdv A outer s H E) W (match (defBody s__law_like).getD 0 (.Pass ⟨0, 0, 0, 0⟩) with | .If _ b _ _ => b | _ => []) [.im d, .im d, .no] { nx := fun _ => False, rt := R } := by
  have hl1 : isListD d = isListD d := rfl
  have ixd : ∀ {i : Nat} {x : PyData} {Q : PyData → Prop}, ds[i]? = some x → Q x → rIxZ d (.int (0 + (i : Nat))) Q := fun {i x Q} e q => by
    have e2 : atI ds (0 + (i : Nat)) = some x := by rw [Int.zero_add]; exact atI_nat e
    rcases hd with rfl | rfl
    · exact ⟨x, e2, q⟩
    · exact ⟨x, e2, q⟩
  obtain ⟨m, rfl, hsz, hin⟩ : ∃ m, n = m + 1 ∧ ds.length ≤ 1000000 ∧ ∀ x ∈ ds, Sim m x := by
    rcases hd with rfl | rfl
    · cases n with
      | zero => exact hs.elim
      | succ m => exact ⟨m, rfl, hs.1, hs.2⟩
    · cases n with
      | zero => exact hs.elim
      | succ m => exact ⟨m, rfl, hs.1, hs.2⟩
  have lenD : ∀ {Q : PyData → Prop}, Q (.int (ds.length : Int)) → rLen d Q := fun q => by
    rcases hd with rfl | rfl
    · exact q
    · exact q
  refine ess_cons (es_if ?_)
  refine et_ew (ew_or ?_)
  refine et_cmp oz_neB ?_
  refine ev_isList T.n_isinstance T.n_list ?_
  refine ev_name 0 rfl ?_
  refine ev_isList T.n_isinstance T.n_list ?_
  refine ev_name 1 rfl ?_
  refine dN (fun z => absurd rfl z) fun _ => ?_
  refine ew_or1 ?_
  refine et_cmp oz_neB ?_
  refine ev_isTup T.n_isinstance T.n_tuple ?_
  refine ev_name 0 rfl ?_
  refine ev_isTup T.n_isinstance T.n_tuple ?_
  refine ev_name 1 rfl ?_
  refine dN (fun z => absurd rfl z) fun _ => ?_
  refine ess_nil ?_
  refine ess_cons (es_if ?_)
  refine et_cmp oz_ne ?_
  refine ev_len T.n_len ?_
  refine ev_name 0 rfl ?_
  refine lenD ?_
  refine ev_len T.n_len ?_
  refine ev_name 1 rfl ?_
  refine lenD ?_
  refine dN (fun z => absurd rfl z) fun _ => ?_
  refine ess_nil ?_
  refine ess_one (es_ret ?_)
  refine ev_cmp (oz_eqD (zu hr)) ?_
  refine ev_el (el_lcI (own := [("k", 2)]) (gg_name 2) (fun _ _ _ _ _ => pg_name sc__law_like.nd rfl (.inl rfl)) rfl sc__law_like.nd (blkOk_by (N := ["one", "two", "k"]) (sc := defScope s__law_like) (by decide +kernel)) rfl ?_)
  refine ei_range1 T.n_range ?_
  refine ev_len T.n_len ?_
  refine ev_name 0 rfl ?_
  refine lenD ?_
  refine ⟨by omega, by omega, ?_⟩
  rw [show ((ds.length : Nat) : Int).toNat = ds.length from Int.toNat_natCast _]
  refine ⟨by rw [rngD_len]; exact Nat.le_trans hsz (by decide), fun _ acc => acc = [], rfl, fun i x acc hx ha hl => ⟨[x], rfl, ?_⟩, fun acc ha _ => ?_⟩
  · have hi : i < ds.length := by
      have := (List.getElem?_eq_some_iff.mp hx).1
      rwa [rngD_len] at this
    rw [rngD_get hi] at hx
    cases hx
    have hx2 := List.getElem?_eq_getElem hi
    have hin2 := hin _ (List.getElem_mem hi)
    rintro _ ⟨s', H', C, cl, fp, rfl⟩ W' _
    refine et_not (et_val ?_)
    refine ev_call (ih m rfl) hr T.g__law_like T.F__law_like.kp T.b__law_like ?_
    refine ea_cons ?_
    refine ev_ix ?_
    refine ev_name 0 rfl ?_
    refine ev_name 2 rfl ?_
    refine ixd hx2 ?_
    refine ea_cons ?_
    refine ev_ix ?_
    refine ev_name 1 rfl ?_
    refine ev_name 2 rfl ?_
    refine ixd hx2 ?_
    refine ea_nil ⟨_, rfl, hin2, ?_⟩
    exact ⟨fun z => (by cases z), fun _ => ha⟩
  · subst ha
    refine ev_el (el_lst (ea_nil ⟨by walk_at "sz", ?_⟩))
    exact ⟨by decide, by decide, hR⟩
theorem like_ok (T : En K mg) : ∀ n : Nat, FnOk P w K mg base CX0 (n + 1) T.f__law_like T.fd__law_like ["one", "two"] (Con K (p__law_like n))
  | n => by
    refine fn_con T.F__law_like sc__law_like (fun ds R h => ?_) (fun cdv A outer s H E W ds R hr h => ?_)
    · obtain ⟨d, rfl, _⟩ := h
      rfl
    · obtain ⟨d, rfl, hs, hR⟩ := h
      have seq : ∀ ds, (d = .list ds ∨ d = .tuple ds) → _ := fun ds hd => like_seq (W := W) T (fun m e => by subst e; exact like_ok T m) hr hd hs hR
      refine ess_cons (es_if ?_)
      refine et_val ?_
      refine ev_isiLT T.n_isinstance T.n_list T.n_tuple ?_
      refine ev_name 0 rfl ?_
      have flat : isLT d = false → PyData.eqv d d = true := fun _ => hs.self
      have sh : isLT d = false → SeqAt.shaped d = true := fun e => by
        unfold SeqAt.shaped
        rw [Bool.and_eq_true]
        refine ⟨hs.lay.1, decide_eq_true ?_⟩
        cases d with
        | list _ => cases e
        | tuple _ => cases e
        | dict _ => exact (sim_dict hs).elim
        | none => simp [PyData.depth]
        | bool _ => simp [PyData.depth]
        | int _ => simp [PyData.depth]
        | str _ => simp [PyData.depth]
      refine ⟨fun h1 => ?_, fun h1 => ?_⟩
      · cases d with
        | list ds => exact (seq ds (.inl rfl)).imp (fun _ q => q.elim) (fun _ q => q) (fun _ q => q) (fun _ q => q)
        | tuple ds => exact (seq ds (.inr rfl)).imp (fun _ q => q.elim) (fun _ q => q) (fun _ q => q) (fun _ q => q)
        | none => cases h1
        | bool _ => cases h1
        | int _ => cases h1
        | str _ => cases h1
        | dict _ => cases h1
      · refine ess_nil ?_
        refine ess_cons (es_if ?_)
        refine et_val ?_
        refine ev_isiLT T.n_isinstance T.n_list T.n_tuple ?_
        refine ev_name 1 rfl ?_
        refine ⟨fun h2 => absurd (h1.symm.trans h2) (by simp), fun _ => ?_⟩
        refine ess_nil ?_
        refine ess_one (es_ret ?_)
        refine ev_and ?_
        refine ev_cmp oz_eqB ?_
        refine ev_isBool T.n_isinstance T.n_bool ?_
        refine ev_name 0 rfl ?_
        refine ev_isBool T.n_isinstance T.n_bool ?_
        refine ev_name 1 rfl ?_
        refine dB (fun _ => ?_) fun z => absurd rfl z
        refine ev_one ?_
        refine ev_cmp (oz_eqD (zu hr)) ?_
        refine ev_name 0 rfl ?_
        refine ev_name 1 rfl ?_
        refine ⟨sh h1, sh h1, ?_⟩
        rw [hs.self]
        exact hR
theorem ok__law_like (T : En K mg) : FnOk P w K mg base CX0 6 T.f__law_like T.fd__law_like ["one", "two"] (Con K (p__law_like 5)) := like_ok T 5

-- NEEDS anyd
-- FILL: ⟨_, rfl, by walk_at "zs", by walk_at "zs", fun $1 $1a => ?_⟩
def pa__law_any (n : Nat) : List PyData → (PyData → Prop) → Prop := fun ds R => ∃ k : Int, ds = [.int k] ∧ 0 ≤ k ∧ k ≤ n ∧ ∀ d, An (n + 1) 10 d → R d
theorem any_rest (T : En K mg) {n m : Nat} {cdv : Value} {A : Around} {outer : List Env} {s : Shared} {H : Hp} {E : XK} {W : Wd} {R : PyData → Prop} {k c : Int}
    (hr : Room (m + 1) (Bx P w K mg base ["tape", "deep", "course", "some", "k"] "_law_any" (defScope s__law_any) T.f__law_any cdv A outer s H E).A) (c0 : 0 ≤ c) (c1 : c < 13) (hR : ∀ d, An (n + 1) 10 d → R d) :
    Ess (Bx P w K mg base ["tape", "deep", "course", "some", "k"] "_law_any" (defScope s__law_any) T.f__law_any cdv A outer s H E) W ((defBody s__law_any).drop 2) [.tape, .im (.int k), .im (.int c), .no, .no] { nx := fun _ => R .none, rt := R } := by
  refine ess_cons (es_if ?_)
  refine et_cmp oz_lt ?_
  refine ev_name 2 rfl ?_
  refine ev_int ?_
  refine dB (fun h8 => ?_) fun h8 => ess_nil ?_
  · refine ess_one (es_ret ?_)
    refine ev_ix ?_
    refine ev_el (el_lst ?_)
    refine ea_cons ?_
    refine ev_bin oz_sub ?_
    refine ev_callT 0 rfl (ok__law_draw T) (hr.mono (by omega)) T.g__law_draw T.F__law_draw.kp T.b__law_draw ?_
    refine ea_cons ?_
    refine ev_int ?_
    refine ea_nil ⟨12, rfl, by decide, by decide, fun a a0 a1 => ?_⟩
    refine ev_int ?_
    refine ea_cons ?_
    refine ev_callT 0 rfl (ok__law_draw T) (hr.mono (by omega)) T.g__law_draw T.F__law_draw.kp T.b__law_draw ?_
    refine ea_cons ?_
    refine ev_powc (m := 1000000000000) ?_
    refine ea_nil ⟨1000000000000, rfl, by decide, by decide, fun b b0 b1 => ?_⟩
    refine ea_cons ?_
    refine ev_int ?_
    refine ea_cons ?_
    refine ev_int ?_
    refine ea_nil ⟨by walk_at "sz", ?_⟩
    refine ev_max2 rfl T.n_max ?_
    refine ev_int ?_
    refine ev_bin oz_sub ?_
    refine ev_name 2 rfl ?_
    refine ev_int ?_
    intro y ya yb yc
    obtain ⟨x, hx, hn⟩ := pick (ds := [.int (a - 2), .int b, .int 0, .int 3]) (Pr := fun e => An (n + 1) 10 e) (n := y) (by omega) (by show y < 4; omega) (by
      intro e he
      simp only [List.mem_cons, List.not_mem_nil, or_false] at he
      rcases he with rfl | rfl | rfl | rfl <;> exact an_int)
    exact ⟨_, hx, hR x hn⟩
  · refine ess_cons (es_set 3 ?_ sc__law_any.nd)
    refine ev_el (el_lst ?_)
    refine ea_cons ?_
    refine ev_str ?_
    refine ea_cons ?_
    refine ev_str ?_
    refine ea_cons ?_
    refine ev_str ?_
    refine ea_cons ?_
    refine ev_str ?_
    refine ea_cons ?_
    refine ev_str ?_
    refine ea_cons ?_
    refine ev_str ?_
    refine ea_cons ?_
    refine ev_str ?_
    refine ea_nil ⟨by walk_at "sz", ?_⟩
    refine ess_one (es_ret ?_)
    refine ev_ix ?_
    refine ev_el (el_lst ?_)
    refine ea_cons ?_
    refine ev_bool ?_
    refine ea_cons ?_
    refine ev_bool ?_
    refine ea_cons ?_
    refine ev_none ?_
    refine ea_cons ?_
    refine ev_ix ?_
    refine ev_name 3 rfl ?_
    refine ev_callT 0 rfl (ok__law_draw T) (hr.mono (by omega)) T.g__law_draw T.F__law_draw.kp T.b__law_draw ?_
    refine ea_cons ?_
    refine ev_int ?_
    refine ea_nil ⟨7, rfl, by decide, by decide, fun a a0 a1 => ?_⟩
    obtain ⟨x, hx, hn⟩ := pick (ds := [.str "", .str " ", .str "64", .str "paper", .str "roll", .str "A", .str "6\n4"]) (Pr := fun e => An (n + 1) 10 e) a0 a1 (by
      intro e he
      simp only [List.mem_cons, List.not_mem_nil, or_false] at he
      rcases he with rfl | rfl | rfl | rfl | rfl | rfl | rfl <;> exact an_str.mpr (by decide))
    refine ⟨_, hx, ?_⟩
    refine ea_cons ?_
    refine ev_tup ?_
    refine ea_cons ?_
    refine ev_int ?_
    refine ea_cons ?_
    refine ev_int ?_
    refine ea_nil ⟨by walk_at "sz", ?_⟩
    refine ea_nil ⟨by walk_at "sz", ?_⟩
    refine ev_bin oz_sub ?_
    refine ev_name 2 rfl ?_
    refine ev_int ?_
    obtain ⟨y, hy, hn2⟩ := pick (ds := [.bool true, .bool false, .none, x, .tuple [.int 1, .int 2]]) (Pr := fun e => An (n + 1) 10 e) (n := c - 8) (by omega) (by show c - 8 < 5; omega) (by
      intro e he
      simp only [List.mem_cons, List.not_mem_nil, or_false] at he
      rcases he with rfl | rfl | rfl | rfl | rfl
      · exact an_bool
      · exact an_bool
      · exact an_none
      · exact hn
      · refine ⟨by decide, fun e he => ?_⟩
        simp at he
        rcases he with rfl | rfl <;> exact an_int)
    exact ⟨_, hy, hR y hn2⟩
theorem any_step (T : En K mg) (n : Nat) (ih : ∀ m : Nat, n = m + 1 → FnOk P w K mg base CX0 (m + 2) T.f__law_any T.fd__law_any ["tape", "deep"] (ConT K (pa__law_any m))) : FnOk P w K mg base CX0 (n + 2) T.f__law_any T.fd__law_any ["tape", "deep"] (ConT K (pa__law_any n)) := by
    refine fn_conT T.F__law_any sc__law_any (fun ds R h => ?_) (fun cdv A outer s H E W ds R hr h => ?_)
    · obtain ⟨k, rfl, _⟩ := h
      rfl
    · obtain ⟨k, rfl, k0, k1, hR⟩ := h
      refine ess_cons (es_set 2 ?_ sc__law_any.nd)
      refine ev_callT 0 rfl (ok__law_draw T) (hr.mono (by omega)) T.g__law_draw T.F__law_draw.kp T.b__law_draw ?_
      refine ea_cons ?_
      refine ev_int ?_
      refine ea_nil ⟨13, rfl, by decide, by decide, fun c c0 c1 => ?_⟩
      refine ess_cons (es_if ?_)
      refine et_ew ?_
      refine ew_and ?_
      refine et_cmp oz_lt ?_
      refine ev_name 2 rfl ?_
      refine ev_int ?_
      refine dB (fun h4 => ?_) fun h4 => noF (ess_nil ?_)
      · refine ew_and1 ?_
        refine et_cmp oz_gt ?_
        refine ev_name 1 rfl ?_
        refine ev_int ?_
        refine dB (fun hd => ?_) fun hd => ess_nil ?_
        · cases n with
          | zero => omega
          | succ n =>
            refine ess_cons (es_lc 3 (own := [("k", 4)]) (gg_name 4) (fun _ _ _ _ _ => pg_name sc__law_any.nd rfl (.inl rfl)) rfl sc__law_any.nd (blkOk_by (N := ["tape", "deep", "course", "some", "k"]) (sc := defScope s__law_any) (by decide +kernel)) rfl ?_ (sw_true rfl rfl rfl (by decide +kernel)))
            refine ei_range1 T.n_range ?_
            refine ev_callT 0 rfl (ok__law_draw T) (hr.mono (by omega)) T.g__law_draw T.F__law_draw.kp T.b__law_draw ?_
            refine ea_cons ?_
            refine ev_int ?_
            refine ea_nil ⟨4, rfl, by decide, by decide, fun m m0 m1 => ?_⟩
            refine ⟨by omega, by omega, ?_⟩
            refine ⟨by rw [rngD_len]; exact Nat.le_trans (show m.toNat ≤ 10000 by omega) (by decide), fun i acc => ∀ d ∈ acc, An (n + 1) 10 d, fun d hd => by simp at hd, fun i x acc hx ha _ => ⟨[x], rfl, ?_⟩, fun acc ha hlen => ?_⟩
            · rintro _ ⟨s', H', C, cl, fp, rfl⟩ W' hW
              refine ev_callT 0 rfl (ih n rfl) (hr.mono (by omega)) T.g__law_any T.F__law_any.kp T.b__law_any ?_
              refine ea_cons ?_
              refine ev_bin oz_sub ?_
              refine ev_name 1 rfl ?_
              refine ev_int ?_
              refine ea_nil ⟨_, rfl, by omega, by omega, fun d hd => ?_⟩
              intro e he
              rcases List.mem_append.mp he with he | he
              · exact ha e he
              · simp at he
                subst he
                exact hd
            rw [rngD_len] at hlen
            refine ess_frz 3 rfl ?_
            refine ess_one (es_ret ?_)
            refine ev_ix ?_
            refine ev_el (el_lst ?_)
            refine ea_cons ?_
            refine ev_name 3 rfl ?_
            refine ea_cons ?_
            refine ev_tupleOf T.n_tuple ?_
            refine ev_name 3 rfl ?_
            refine ea_cons ?_
            refine ev_tupleOf T.n_tuple ?_
            refine ev_name 3 rfl ?_
            refine ea_cons ?_
            refine ev_tupleOf T.n_tuple ?_
            refine ev_name 3 rfl ?_
            refine ea_nil ⟨by walk_at "sz", ?_⟩
            refine ev_name 2 rfl ?_
            obtain ⟨x, hx, hn⟩ := pick (ds := [.list acc, .tuple acc, .tuple acc, .tuple acc]) (Pr := fun e => An (n + 1 + 1) 10 e) c0 h4 (by
              intro e he
              simp only [List.mem_cons, List.not_mem_nil, or_false] at he
              rcases he with rfl | rfl | rfl | rfl <;> exact ⟨by omega, ha⟩)
            exact ⟨_, hx, hR x hn⟩
        · exact any_rest T hr c0 (by omega) hR
      · exact any_rest T hr c0 c1 hR
theorem any_ok (T : En K mg) : ∀ n : Nat, FnOk P w K mg base CX0 (n + 2) T.f__law_any T.fd__law_any ["tape", "deep"] (ConT K (pa__law_any n))
  | 0 => any_step T 0 fun m e => by omega
  | n + 1 => any_step T (n + 1) fun m e => by
    have e2 : n = m := by omega
    subst e2
    exact any_ok T n
def p__law_any : List PyData → (PyData → Prop) → Prop := pa__law_any 2
theorem ok__law_any (T : En K mg) : FnOk P w K mg base CX0 4 T.f__law_any T.fd__law_any ["tape", "deep"] (ConT K p__law_any) := any_ok T 2

-- NEEDS anyd
-- NEEDS within
-- FILL: ⟨_, _, rfl, ?_, by walk_at "zs", fun $1 $1a => ?_⟩
def pa__law_spoilt (n : Nat) : List PyData → (PyData → Prop) → Prop := fun ds R => ∃ (d : PyData) (L : Nat), ds = [d] ∧ An n L d ∧ (10 ≤ L ∧ L ≤ 100000) ∧ ∀ e, An (n + 3) (L + 10) e → R e
theorem cutS_le (z : Str) (lo hi : Option Int) : (cutS z lo hi).length ≤ z.length := cutS_length z lo hi
theorem str_app_len (a b : Str) : (a ++ b).length = a.length + b.length := by
  show (a.cps ++ b.cps).size = a.cps.size + b.cps.size
  simp
theorem at_in {ds : List PyData} {k : Int} (h0 : 0 ≤ k) (h : k.toNat < ds.length) : atI ds k = some ds[k.toNat] := by
  obtain ⟨n, rfl⟩ := Int.eq_ofNat_of_zero_le h0
  exact atI_nat (List.getElem?_eq_getElem h)
theorem spoilt_seq (T : En K mg) {n : Nat} (ih : ∀ m : Nat, n = m + 1 → FnOk P w K mg base CX0 (m + 5) T.f__law_spoilt T.fd__law_spoilt ["tape", "item"] (ConT K (pa__law_spoilt m))) {cdv : Value} {A : Around} {outer : List Env} {s : Shared} {H : Hp} {E : XK} {W : Wd} {R : PyData → Prop} {d : PyData} {ds : List PyData} {L : Nat}
    (hr : Room (n + 4) (Bx P w K mg base ["tape", "item", "k", "rest", "course", "at"] "_law_spoilt" (defScope s__law_spoilt) T.f__law_spoilt cdv A outer s H E).A) (hd : d = .list ds ∨ d = .tuple ds) (h0 : 0 < ds.length) (hs : An n L d) (hL : 10 ≤ L ∧ L ≤ 100000) (hR : ∀ e, An (n + 3) (L + 10) e → R e) :
    Ess (Bx P w K mg base ["tape", "item", "k", "rest", "course", "at"] "_law_spoilt" (defScope s__law_spoilt) T.f__law_spoilt cdv A outer s H E) W (match (defBody s__law_spoilt).getD 0 (.Pass ⟨0, 0, 0, 0⟩) with | .If _ b _ _ => b | _ => []) [.tape, .im d, .no, .no, .no, .no] { nx := fun _ => False, rt := R } := by
  obtain ⟨m, rfl, hsz, hin⟩ : ∃ m, n = m + 1 ∧ ds.length ≤ L ∧ ∀ x ∈ ds, An m L x := by
    rcases hd with rfl | rfl
    · cases n with
      | zero => exact hs.elim
      | succ m => exact ⟨m, rfl, hs.1, hs.2⟩
    · cases n with
      | zero => exact hs.elim
      | succ m => exact ⟨m, rfl, hs.1, hs.2⟩
  have lenD : ∀ {Q : PyData → Prop}, Q (.int (ds.length : Int)) → rLen d Q := fun q => by
    rcases hd with rfl | rfl
    · exact q
    · exact q
  have seqD : ∀ {Q : List PyData → Prop}, Q ds → rSeq d Q := fun q => by
    rcases hd with rfl | rfl
    · exact q
    · exact q
  have hin3 : ∀ x ∈ ds, An (m + 3) (L + 10) x := fun x hx => (hin x hx).up (by omega) (by omega)
  refine ess_cons (es_set 2 ?_ sc__law_spoilt.nd)
  refine ev_callT 0 rfl (ok__law_draw T) (hr.mono (by omega)) T.g__law_draw T.F__law_draw.kp T.b__law_draw ?_
  refine ea_cons ?_
  refine ev_len T.n_len ?_
  refine ev_name 1 rfl ?_
  refine lenD ?_
  refine ea_nil ⟨_, rfl, by omega, by omega, fun k k0 k1 => ?_⟩
  refine ess_cons (es_setL 3 ?_ sc__law_spoilt.nd)
  refine el_list T.n_list ?_
  refine ev_name 1 rfl ?_
  refine seqD ?_
  refine ess_cons (es_set 4 ?_ sc__law_spoilt.nd)
  refine ev_callT 0 rfl (ok__law_draw T) (hr.mono (by omega)) T.g__law_draw T.F__law_draw.kp T.b__law_draw ?_
  refine ea_cons ?_
  refine ev_int ?_
  refine ea_nil ⟨12, rfl, by decide, by decide, fun c c0 c1 => ?_⟩
  refine ess_cut (fun ρ => ∃ es : List PyData, es.length ≤ L + 10 ∧ (∀ x ∈ es, An (m + 3) (L + 10) x) ∧ ρ = [.tape, .im d, .im (.int k), .own es, .im (.int c), .no]) (es_if ?_) ?_
  · refine et_cmp oz_lt ?_
    refine ev_name 4 rfl ?_
    refine ev_int ?_
    refine dB (fun h8 => ?_) fun h8 => ?_
    · refine ess_one (es_sub 3 rfl ?_)
      refine ev_callT 0 rfl (ih m rfl) (hr.mono (by omega)) T.g__law_spoilt T.F__law_spoilt.kp T.b__law_spoilt ?_
      refine ea_cons ?_
      refine ev_ixOwn 3 rfl ?_
      refine ev_name 2 rfl ?_
      have hk : k.toNat < ds.length := by omega
      refine ⟨ds[k.toNat], at_in k0 hk, ?_⟩
      refine ea_nil ⟨_, L, rfl, hin _ (List.getElem_mem hk), hL, fun e he => ?_⟩
      refine ev_name 2 rfl ?_
      refine ⟨k.toNat, ?_, ds.set k.toNat e, by rw [List.length_set]; omega, fun x hx => ?_, rfl⟩
      · unfold ixN
        rw [if_pos k0, if_pos k1]
      · rcases List.mem_or_eq_of_mem_set hx with hx | rfl
        · exact hin3 x hx
        · exact he
    · refine ess_one (es_if ?_)
      refine et_cmp oz_eq ?_
      refine ev_name 4 rfl ?_
      refine ev_int ?_
      refine dB (fun h9 => ?_) fun h9 => ?_
      · refine ess_one (es_popAt 3 rfl ?_)
        refine ev_name 2 rfl ?_
        refine ⟨⟨k0, by omega, by omega⟩, _, ?_, fun x hx => hin3 x (List.mem_of_mem_eraseIdx hx), rfl⟩
        have := List.length_eraseIdx_le ds k.toNat
        omega
      · refine ess_one (es_if ?_)
        refine et_cmp oz_eq ?_
        refine ev_name 4 rfl ?_
        refine ev_int ?_
        refine dB (fun h10 => ?_) fun h10 => ?_
        · refine ess_one (es_insert 3 rfl ?_)
          refine ea_cons ?_
          refine ev_name 2 rfl ?_
          refine ea_cons ?_
          refine ev_ixOwn 3 rfl ?_
          refine ev_callT 0 rfl (ok__law_draw T) (hr.mono (by omega)) T.g__law_draw T.F__law_draw.kp T.b__law_draw ?_
          refine ea_cons ?_
          refine ev_lenOwn 3 T.n_len rfl ?_
          refine ea_nil ⟨_, rfl, by omega, by omega, fun q q0 q1 => ?_⟩
          have hk : q.toNat < ds.length := by omega
          refine ⟨ds[q.toNat], at_in q0 hk, ?_⟩
          refine ea_nil ?_
          refine ⟨⟨k0, by omega, Nat.lt_of_le_of_lt (show ds.length ≤ 100000 by omega) (by decide)⟩, _, ?_, fun x hx => ?_, rfl⟩
          · simp only [List.length_append, List.length_take, List.length_drop, List.length_cons, List.length_nil]
            omega
          · rcases List.mem_append.mp hx with hx | hx
            · rcases List.mem_append.mp hx with hx | hx
              · exact hin3 x (List.mem_of_mem_take hx)
              · simp at hx
                subst hx
                exact hin3 _ (List.getElem_mem hk)
            · exact hin3 x (List.mem_of_mem_drop hx)
        · refine ess_one (es_if ?_)
          refine et_cmp oz_eq ?_
          refine ev_name 4 rfl ?_
          refine ev_int ?_
          refine dB (fun h11 => ?_) fun h11 => ?_
          · refine ess_one (es_setL 3 (el_revOwn 3 rfl ?_) sc__law_spoilt.nd)
            exact ⟨_, by rw [List.length_reverse]; omega, fun x hx => hin3 x (List.mem_reverse.mp hx), rfl⟩
          · refine ess_one (es_insert 3 rfl ?_)
            refine ea_cons ?_
            refine ev_name 2 rfl ?_
            refine ea_cons ?_
            refine ev_callT 0 rfl (ok__law_any T) (hr.mono (by omega)) T.g__law_any T.F__law_any.kp T.b__law_any ?_
            refine ea_cons ?_
            refine ev_int ?_
            refine ea_nil ⟨_, rfl, by decide, by decide, fun e he => ?_⟩
            refine ea_nil ?_
            refine ⟨⟨k0, by omega, Nat.lt_of_le_of_lt (show ds.length ≤ 100000 by omega) (by decide)⟩, _, ?_, fun x hx => ?_, rfl⟩
            · simp only [List.length_append, List.length_take, List.length_drop, List.length_cons, List.length_nil]
              omega
            · rcases List.mem_append.mp hx with hx | hx
              · rcases List.mem_append.mp hx with hx | hx
                · exact hin3 x (List.mem_of_mem_take hx)
                · simp at hx
                  subst hx
                  exact he.up (by omega) (by omega)
              · exact hin3 x (List.mem_of_mem_drop hx)
  rintro _ ⟨es, e1, e2, rfl⟩
  refine ess_frz 3 rfl ?_
  refine ess_one (es_ret ?_)
  refine ev_if ?_
  refine et_val ?_
  refine ev_isTup T.n_isinstance T.n_tuple ?_
  refine ev_name 1 rfl ?_
  refine ⟨fun _ => ?_, fun _ => ?_⟩
  · refine ev_tupleOf T.n_tuple ?_
    refine ev_name 3 rfl ?_
    exact hR _ ⟨e1, e2⟩
  · refine ev_name 3 rfl ?_
    exact hR _ ⟨e1, e2⟩
theorem spoilt_step (T : En K mg) (n : Nat) (ih : ∀ m : Nat, n = m + 1 → FnOk P w K mg base CX0 (m + 5) T.f__law_spoilt T.fd__law_spoilt ["tape", "item"] (ConT K (pa__law_spoilt m))) : FnOk P w K mg base CX0 (n + 5) T.f__law_spoilt T.fd__law_spoilt ["tape", "item"] (ConT K (pa__law_spoilt n)) := by
  refine fn_conT T.F__law_spoilt sc__law_spoilt (fun ds R h => ?_) (fun cdv A outer s H E W ds R hr h => ?_)
  · obtain ⟨d, L, rfl, _⟩ := h
    rfl
  · obtain ⟨d, L, rfl, hs, hL, hR⟩ := h
    have hany : ∀ e, An 3 10 e → An (n + 3) (L + 10) e := fun e he => he.up (by omega) (by omega)
    have seq : ∀ ds, (d = .list ds ∨ d = .tuple ds) → 0 < ds.length → _ := fun ds hd h0 => spoilt_seq (W := W) T ih hr hd h0 hs hL hR
    refine ess_cut (fun ρ => ρ = [.tape, .im d, .no, .no, .no, .no]) (es_if ?_) ?_
    · refine et_ew (ew_and ?_)
      refine et_val ?_
      refine ev_isiTL T.n_isinstance T.n_list T.n_tuple ?_
      refine ev_name 1 rfl ?_
      refine ⟨fun h1 => ?_, fun h1 => noF (ess_nil rfl)⟩
      obtain ⟨ds, hd⟩ : ∃ ds, d = .list ds ∨ d = .tuple ds := by
        cases d <;> first | exact ⟨_, .inl rfl⟩ | exact ⟨_, .inr rfl⟩ | cases h1
      refine ew_and ?_
      refine et_cmp oz_gt ?_
      refine ev_len T.n_len ?_
      refine ev_name 1 rfl ?_
      have lenD : ∀ {Q : PyData → Prop}, Q (.int (ds.length : Int)) → rLen d Q := fun q => by
        rcases hd with rfl | rfl
        · exact q
        · exact q
      refine lenD ?_
      refine ev_int ?_
      refine dB (fun h2 => ?_) fun h2 => noF (ess_nil rfl)
      refine ew_and1 ?_
      refine et_cmp oz_gt ?_
      refine ev_callT 0 rfl (ok__law_draw T) (hr.mono (by omega)) T.g__law_draw T.F__law_draw.kp T.b__law_draw ?_
      refine ea_cons ?_
      refine ev_int ?_
      refine ea_nil ⟨7, rfl, by decide, by decide, fun q q0 q1 => ?_⟩
      refine ev_int ?_
      refine dB (fun h3 => ?_) fun h3 => ess_nil rfl
      exact (seq ds hd (by omega)).imp (fun _ q => q.elim) (fun _ q => q) (fun _ q => q) (fun _ q => q)
    rintro _ rfl
    refine ess_cut (fun ρ => ρ = [.tape, .im d, .no, .no, .no, .no]) (es_if ?_) ?_
    · refine et_ew (ew_and ?_)
      refine et_val ?_
      refine ev_call (ok__law_whole T) (hr.mono (by omega)) T.g__law_whole T.F__law_whole.kp T.b__law_whole ?_
      refine ea_cons ?_
      refine ev_name 1 rfl ?_
      refine ea_nil ⟨_, rfl, ?_⟩
      refine ⟨fun h1 => ?_, fun h1 => noF (ess_nil rfl)⟩
      obtain ⟨i, rfl⟩ : ∃ i, d = .int i := by cases d <;> first | exact ⟨_, rfl⟩ | cases h1
      refine ew_and1 ?_
      refine et_cmp oz_gt ?_
      refine ev_callT 0 rfl (ok__law_draw T) (hr.mono (by omega)) T.g__law_draw T.F__law_draw.kp T.b__law_draw ?_
      refine ea_cons ?_
      refine ev_int ?_
      refine ea_nil ⟨6, rfl, by decide, by decide, fun q q0 q1 => ?_⟩
      refine ev_int ?_
      refine dB (fun h3 => ?_) fun h3 => ess_nil rfl
      refine ess_one (es_ret ?_)
      refine ev_bin oz_add ?_
      refine ev_name 1 rfl ?_
      refine ev_ix ?_
      refine ev_el (el_lst ?_)
      refine ea_cons ?_
      refine ev_int ?_
      refine ea_cons ?_
      refine ev_neg ?_
      refine ev_int ?_
      refine ea_cons ?_
      refine ev_int ?_
      refine ea_cons ?_
      refine ev_neg ?_
      refine ev_int ?_
      refine ea_cons ?_
      refine ev_int ?_
      refine ea_cons ?_
      refine ev_int ?_
      refine ea_nil ⟨by walk_at "sz", ?_⟩
      refine ev_callT 0 rfl (ok__law_draw T) (hr.mono (by omega)) T.g__law_draw T.F__law_draw.kp T.b__law_draw ?_
      refine ea_cons ?_
      refine ev_int ?_
      refine ea_nil ⟨6, rfl, by decide, by decide, fun u u0 u1 => ?_⟩
      obtain ⟨x, hx, j, rfl⟩ := pick (ds := [.int 1, .int (-1), .int 2, .int (-2), .int 9, .int 1000]) (Pr := fun e => ∃ j, e = .int j) u0 u1 (by
        intro e he
        simp only [List.mem_cons, List.not_mem_nil, or_false] at he
        rcases he with rfl | rfl | rfl | rfl | rfl | rfl <;> exact ⟨_, rfl⟩)
      exact ⟨_, hx, hR _ an_int⟩
    rintro _ rfl
    refine ess_cut (fun ρ => ρ = [.tape, .im d, .no, .no, .no, .no]) (es_if ?_) ?_
    · refine et_ew (ew_and ?_)
      refine et_val ?_
      refine ev_isStr T.n_isinstance T.n_str ?_
      refine ev_name 1 rfl ?_
      refine ⟨fun h1 => ?_, fun h1 => noF (ess_nil rfl)⟩
      obtain ⟨z, rfl⟩ : ∃ z, d = .str z := by cases d <;> first | exact ⟨_, rfl⟩ | cases h1
      have hz := an_str.mp hs
      have hzs : z.length ≤ sizeLine := Nat.le_trans (show z.length ≤ 100000 by omega) (by decide)
      refine ew_and1 ?_
      refine et_cmp oz_gt ?_
      refine ev_callT 0 rfl (ok__law_draw T) (hr.mono (by omega)) T.g__law_draw T.F__law_draw.kp T.b__law_draw ?_
      refine ea_cons ?_
      refine ev_int ?_
      refine ea_nil ⟨3, rfl, by decide, by decide, fun q q0 q1 => ?_⟩
      refine ev_int ?_
      refine dB (fun h3 => ?_) fun h3 => ess_nil rfl
      refine ess_cons (es_set 5 ?_ sc__law_spoilt.nd)
      refine ev_callT 0 rfl (ok__law_draw T) (hr.mono (by omega)) T.g__law_draw T.F__law_draw.kp T.b__law_draw ?_
      refine ea_cons ?_
      refine ev_bin oz_add ?_
      refine ev_lenS T.n_len ?_
      refine ev_name 1 rfl ?_
      refine ⟨hzs, ?_⟩
      refine ev_int ?_
      refine ea_nil ⟨_, rfl, by omega, by omega, fun at' a0 a1 => ?_⟩
      refine ess_one (es_ret ?_)
      refine ev_bin oz_add ?_
      refine ev_bin oz_add ?_
      refine ev_slS ?_
      refine ev_name 1 rfl ?_
      refine eo_none ?_
      refine eo_some ?_
      refine ev_name 5 rfl ?_
      refine ⟨hzs, ?_⟩
      refine ev_ix ?_
      refine ev_el (el_lst ?_)
      refine ea_cons ?_
      refine ev_str ?_
      refine ea_cons ?_
      refine ev_str ?_
      refine ea_cons ?_
      refine ev_str ?_
      refine ea_cons ?_
      refine ev_str ?_
      refine ea_cons ?_
      refine ev_str ?_
      refine ea_cons ?_
      refine ev_str ?_
      refine ea_nil ⟨by walk_at "sz", ?_⟩
      refine ev_callT 0 rfl (ok__law_draw T) (hr.mono (by omega)) T.g__law_draw T.F__law_draw.kp T.b__law_draw ?_
      refine ea_cons ?_
      refine ev_int ?_
      refine ea_nil ⟨6, rfl, by decide, by decide, fun u u0 u1 => ?_⟩
      obtain ⟨x, hx, y, rfl, hy⟩ := pick (ds := [.str " ", .str "z", .str "A", .str "|", .str "abcdefgh", .str ""]) (Pr := fun e => ∃ y : Str, e = .str y ∧ y.length ≤ 8) u0 u1 (by
        intro e he
        simp only [List.mem_cons, List.not_mem_nil, or_false] at he
        rcases he with rfl | rfl | rfl | rfl | rfl | rfl <;> exact ⟨_, rfl, by decide⟩)
      refine ⟨_, hx, ?_⟩
      have c1 := cutS_le z none (some at')
      have c2 := cutS_le z (some at') none
      refine ⟨Nat.le_trans (show (cutS z none (some at')).length + y.length ≤ 300000 by omega) (by decide), ?_⟩
      refine ev_slS ?_
      refine ev_name 1 rfl ?_
      refine eo_some ?_
      refine ev_name 5 rfl ?_
      refine eo_none ?_
      refine ⟨hzs, ?_⟩
      have hcut : (cutS z none (some at')).length + (cutS z (some at') none).length ≤ z.length := by
        have e : at' = ((at'.toNat : Nat) : Int) := by omega
        rw [e]
        unfold cutS
        simp only [Str.length, List.size_toArray, HT.sIx]
        simp
        omega
      refine ⟨?_, ?_⟩
      · rw [str_app_len]
        exact Nat.le_trans (show _ ≤ 300000 by omega) (by decide)
      · refine hR _ (an_str.mpr ?_)
        rw [str_app_len, str_app_len]
        omega
    rintro _ rfl
    refine ess_cut (fun ρ => ρ = [.tape, .im d, .no, .no, .no, .no]) (es_if ?_) ?_
    · refine et_ew (ew_and ?_)
      refine et_val ?_
      refine ev_isiTL T.n_isinstance T.n_list T.n_tuple ?_
      refine ev_name 1 rfl ?_
      refine ⟨fun h1 => ?_, fun h1 => noF (ess_nil rfl)⟩
      refine ew_and1 ?_
      refine et_cmp oz_eq ?_
      refine ev_callT 0 rfl (ok__law_draw T) (hr.mono (by omega)) T.g__law_draw T.F__law_draw.kp T.b__law_draw ?_
      refine ea_cons ?_
      refine ev_int ?_
      refine ea_nil ⟨2, rfl, by decide, by decide, fun q q0 q1 => ?_⟩
      refine ev_int ?_
      refine dB (fun h3 => ?_) fun h3 => ess_nil rfl
      have hs3 : An (n + 3) (L + 10) d := hs.up (by omega) (by omega)
      refine ess_one (es_ret ?_)
      refine ev_if ?_
      refine et_val ?_
      refine ev_isTup T.n_isinstance T.n_tuple ?_
      refine ev_name 1 rfl ?_
      refine ⟨fun h4 => ?_, fun h4 => ?_⟩
      · obtain ⟨ds, rfl⟩ : ∃ ds, d = .tuple ds := by cases d <;> first | exact ⟨_, rfl⟩ | cases h4
        refine ev_el (el_list T.n_list ?_)
        refine ev_name 1 rfl ?_
        exact hR _ hs3
      · obtain ⟨ds, rfl⟩ : ∃ ds, d = .list ds := by cases d <;> first | exact ⟨_, rfl⟩ | (cases h1; done) | (cases h4; done)
        refine ev_tupleOf T.n_tuple ?_
        refine ev_name 1 rfl ?_
        exact hR _ hs3
    rintro _ rfl
    refine ess_one (es_ret ?_)
    refine ev_callT 0 rfl (ok__law_any T) (hr.mono (by omega)) T.g__law_any T.F__law_any.kp T.b__law_any ?_
    refine ea_cons ?_
    refine ev_int ?_
    exact ea_nil ⟨_, rfl, by decide, by decide, fun e he => hR e (hany e he)⟩
theorem spoilt_ok (T : En K mg) : ∀ n : Nat, FnOk P w K mg base CX0 (n + 5) T.f__law_spoilt T.fd__law_spoilt ["tape", "item"] (ConT K (pa__law_spoilt n))
  | 0 => spoilt_step T 0 fun m e => by omega
  | n + 1 => spoilt_step T (n + 1) fun m e => by
    have e2 : n = m := by omega
    subst e2
    exact spoilt_ok T n
def p__law_spoilt : List PyData → (PyData → Prop) → Prop := pa__law_spoilt 4
theorem ok__law_spoilt (T : En K mg) : FnOk P w K mg base CX0 9 T.f__law_spoilt T.fd__law_spoilt ["tape", "item"] (ConT K p__law_spoilt) := spoilt_ok T 4

-- FILL: ⟨_, _, rfl, by decide, by decide, fun $1 $2 $3 $1a $1b $2a $2b $3a $3b => ?_⟩
-- NEEDS base
/-- a drawn paper -/
def p__law_numbers : List PyData → (PyData → Prop) → Prop := fun ds R => ∃ m f : Int, ds = [.int m, .int f] ∧ (8 ≤ m ∧ m ≤ 200) ∧ (1 ≤ f ∧ f ≤ 10000) ∧ ∀ r d l : Int, 1 ≤ r → r ≤ m → 0 ≤ d → d < r → 1 ≤ l → l ≤ f → R (pap r d l)
theorem ok__law_numbers (T : En K mg) : FnOk P w K mg base CX0 2 T.f__law_numbers T.fd__law_numbers ["tape", "most", "far"] (ConT K p__law_numbers) := by
  refine fn_conT T.F__law_numbers sc__law_numbers (fun ds R h => ?_) (fun cdv A outer s H E W ds R hr h => ?_)
  · obtain ⟨m, f, rfl, _⟩ := h
    rfl
  · obtain ⟨m, f, rfl, ⟨m0, m1⟩, ⟨f0, f1⟩, hR⟩ := h
    refine ess_cons (es_set 3 ?_ sc__law_numbers.nd)
    refine ev_bin oz_add ?_
    refine ev_int ?_
    refine ev_callT 0 rfl (ok__law_draw T) hr T.g__law_draw T.F__law_draw.kp T.b__law_draw ?_
    refine ea_cons ?_
    refine ev_ix ?_
    refine ev_el (el_lst ?_)
    refine ea_cons ?_
    refine ev_name 1 rfl ?_
    refine ea_cons ?_
    refine ev_int ?_
    refine ea_cons ?_
    refine ev_name 1 rfl ?_
    refine ea_nil ⟨by walk_at "sz", ?_⟩
    refine ev_callT 0 rfl (ok__law_draw T) hr T.g__law_draw T.F__law_draw.kp T.b__law_draw ?_
    refine ea_cons ?_
    refine ev_int ?_
    refine ea_nil ⟨3, rfl, by decide, by decide, fun n n0 n1 => ?_⟩
    obtain ⟨x, hx, y, rfl, y0, y1⟩ := pick (ds := [.int m, .int 8, .int m]) (Pr := fun d => ∃ y : Int, d = .int y ∧ 8 ≤ y ∧ y ≤ m) n0 n1 (by
      intro d hd
      simp only [List.mem_cons, List.not_mem_nil, or_false] at hd
      rcases hd with rfl | rfl | rfl
      · exact ⟨m, rfl, m0, Int.le_refl _⟩
      · exact ⟨8, rfl, by omega, m0⟩
      · exact ⟨m, rfl, m0, Int.le_refl _⟩)
    refine ⟨_, hx, ?_⟩
    refine ea_nil ⟨y, rfl, by omega, by omega, fun r r0 r1 => ?_⟩
    refine ess_cons (es_set 4 ?_ sc__law_numbers.nd)
    refine ev_el (el_lst ?_)
    refine ea_cons ?_
    refine ev_int ?_
    refine ea_cons ?_
    refine ev_bin oz_div ?_
    refine ev_name 3 rfl ?_
    refine ev_int ?_
    refine ⟨divs (by decide) (by decide), ?_⟩
    refine ea_cons ?_
    refine ev_bin oz_div ?_
    refine ev_name 3 rfl ?_
    refine ev_int ?_
    refine ⟨divs (by decide) (by decide), ?_⟩
    refine ea_cons ?_
    refine ev_callT 0 rfl (ok__law_draw T) hr T.g__law_draw T.F__law_draw.kp T.b__law_draw ?_
    refine ea_cons ?_
    refine ev_name 3 rfl ?_
    refine ea_nil ⟨_, rfl, by omega, by omega, fun d1 d10 d11 => ?_⟩
    refine ea_cons ?_
    refine ev_bin oz_sub ?_
    refine ev_name 3 rfl ?_
    refine ev_int ?_
    refine ea_cons ?_
    refine ev_callT 0 rfl (ok__law_draw T) hr T.g__law_draw T.F__law_draw.kp T.b__law_draw ?_
    refine ea_cons ?_
    refine ev_name 3 rfl ?_
    refine ea_nil ⟨_, rfl, by omega, by omega, fun d2 d20 d21 => ?_⟩
    refine ea_nil ⟨by walk_at "sz", ?_⟩
    refine ess_one (es_ret ?_)
    refine ev_tup ?_
    refine ea_cons ?_
    refine ev_name 3 rfl ?_
    refine ea_cons ?_
    refine ev_ix ?_
    refine ev_name 4 rfl ?_
    refine ev_callT 0 rfl (ok__law_draw T) hr T.g__law_draw T.F__law_draw.kp T.b__law_draw ?_
    refine ea_cons ?_
    refine ev_int ?_
    refine ea_nil ⟨6, rfl, by decide, by decide, fun n n0 n1 => ?_⟩
    obtain ⟨x, hx, d, rfl, d0, d1⟩ := pick (ds := [.int 0, .int ((1 + r) / 2), .int ((1 + r) / 3), .int d1, .int ((1 + r) - 1), .int d2]) (Pr := fun e => ∃ d : Int, e = .int d ∧ 0 ≤ d ∧ d < 1 + r) n0 n1 (by
      intro e he
      simp only [List.mem_cons, List.not_mem_nil, or_false] at he
      rcases he with rfl | rfl | rfl | rfl | rfl | rfl
      · exact ⟨_, rfl, by omega, by omega⟩
      · exact ⟨_, rfl, by omega, by omega⟩
      · exact ⟨_, rfl, by omega, by omega⟩
      · exact ⟨_, rfl, by omega, by omega⟩
      · exact ⟨_, rfl, by omega, by omega⟩
      · exact ⟨_, rfl, by omega, by omega⟩)
    refine ⟨_, hx, ?_⟩
    refine ea_cons ?_
    refine ev_bin oz_add ?_
    refine ev_int ?_
    refine ev_callT 0 rfl (ok__law_draw T) hr T.g__law_draw T.F__law_draw.kp T.b__law_draw ?_
    refine ea_cons ?_
    refine ev_name 2 rfl ?_
    refine ea_nil ⟨f, rfl, by omega, by omega, fun l l0 l1 => ?_⟩
    refine ea_nil ⟨by walk_at "sz", ?_⟩
    exact hR (1 + r) d (1 + l) (by omega) (by omega) d0 d1 (by omega) (by omega)

-- NEEDS sim
def tup3 : PyData → Bool
  | .tuple [_, _, _] => true
  | _ => false
def two3 : PyData → Bool
  | .tuple [a, b, _] => within a 1 200 && within b 0 (valI a - 1)
  | _ => false
theorem at_end {xs : List PyData} {x : PyData} : atI (xs ++ [x]) (-1) = some x := by
  unfold atI ixN
  have hl : (xs ++ [x]).length = xs.length + 1 := by simp
  rw [hl, if_neg (by decide), if_pos (by omega), Option.bind_some]
  have e : ((-1 : Int) + ((xs.length + 1 : Nat) : Int)).toNat = xs.length := by omega
  rw [e]
  simp
theorem tup3_of {d : PyData} (h : tup3 d = true) : ∃ a b c, d = .tuple [a, b, c] := by
  match d, h with
  | .tuple [a, b, c], _ => exact ⟨a, b, c, rfl⟩
theorem pap_two {d : PyData} (h : tup3 d = false) : two3 d = false ∧ papB d = false := by
  match d, h with
  | .tuple [], _ => exact ⟨rfl, rfl⟩
  | .tuple [_], _ => exact ⟨rfl, rfl⟩
  | .tuple [_, _], _ => exact ⟨rfl, rfl⟩
  | .tuple (_ :: _ :: _ :: _ :: _), _ => exact ⟨rfl, rfl⟩
  | .none, _ => exact ⟨rfl, rfl⟩
  | .bool _, _ => exact ⟨rfl, rfl⟩
  | .int _, _ => exact ⟨rfl, rfl⟩
  | .str _, _ => exact ⟨rfl, rfl⟩
  | .list _, _ => exact ⟨rfl, rfl⟩
  | .dict _, _ => exact ⟨rfl, rfl⟩
theorem ok_law (T : En K mg) {f : Addr} {fd : FuncData} (F : Fun K "law" "law" s_law f fd) : FnOk P w K mg base CX0 10 f fd ["script"] (spLaw K) := by
  refine fn_law 1 F sc_law T.n_list rfl rfl rfl (.inl rfl) (.inl rfl) rfl (by decide) fun cdv A outer s H E W hr hns => ?_
  refine ess_cons (es_for .never rfl ?_)
  refine ei_range1 T.n_range ?_
  refine ev_int ?_
  refine ⟨by omega, by omega, ?_⟩
  refine ⟨fun i ρ => ∃ a b c d e f : Sl, ρ = [.no, .tape, a, b, c, d, e, f], ⟨_, _, _, _, _, _, rfl⟩, fun i x ρ hx hP => ?_, fun ρ hP => ?_⟩
  · obtain ⟨_, _, _, _, _, _, rfl⟩ := hP
    refine tg_name 2 ?_ sc_law.nd
    refine ess_weak [.no, .tape, .no, .no, .no, .no, .no, .no] (by walk_at "wk") ?_
    refine ess_cons (es_set 3 ?_ sc_law.nd)
    refine ev_callT 1 rfl (ok__law_numbers T) (hr.mono (by decide)) T.g__law_numbers T.F__law_numbers.kp T.b__law_numbers ?_
    refine ea_cons ?_
    refine ev_int ?_
    refine ea_cons ?_
    refine ev_int ?_
    refine ea_nil ⟨_, _, rfl, by decide, by decide, fun r d l ra rb da db la lb => ?_⟩
    refine ess_cons (es_set 4 ?_ sc_law.nd)
    refine ev_el (el_lst ?_)
    refine ea_cons ?_
    refine ev_name 3 rfl ?_
    refine ea_cons ?_
    refine ev_el (el_list T.n_list ?_)
    refine ev_name 3 rfl ?_
    refine ea_cons ?_
    refine ev_tup ?_
    refine ea_nil ⟨by walk_at "sz", ?_⟩
    refine ea_cons ?_
    refine ev_none ?_
    refine ea_cons ?_
    refine ev_int ?_
    refine ea_cons ?_
    refine ev_tup ?_
    refine ea_cons ?_
    refine ev_int ?_
    refine ea_cons ?_
    refine ev_int ?_
    refine ea_cons ?_
    refine ev_int ?_
    refine ea_nil ⟨by walk_at "sz", ?_⟩
    refine ea_cons ?_
    refine ev_tup ?_
    refine ea_cons ?_
    refine ev_int ?_
    refine ea_cons ?_
    refine ev_int ?_
    refine ea_cons ?_
    refine ev_int ?_
    refine ea_nil ⟨by walk_at "sz", ?_⟩
    refine ea_cons ?_
    refine ev_tup ?_
    refine ea_cons ?_
    refine ev_int ?_
    refine ea_cons ?_
    refine ev_int ?_
    refine ea_cons ?_
    refine ev_int ?_
    refine ea_nil ⟨by walk_at "sz", ?_⟩
    refine ea_cons ?_
    refine ev_tup ?_
    refine ea_cons ?_
    refine ev_int ?_
    refine ea_cons ?_
    refine ev_int ?_
    refine ea_cons ?_
    refine ev_int ?_
    refine ea_nil ⟨by walk_at "sz", ?_⟩
    refine ea_cons ?_
    refine ev_tup ?_
    refine ea_cons ?_
    refine ev_int ?_
    refine ea_cons ?_
    refine ev_int ?_
    refine ea_cons ?_
    refine ev_int ?_
    refine ea_nil ⟨by walk_at "sz", ?_⟩
    refine ea_nil ⟨by walk_at "sz", ?_⟩
    refine ess_cons (es_set 4 ?_ sc_law.nd)
    refine ev_bin oz_add ?_
    refine ev_name 4 rfl ?_
    refine ev_el (el_lst ?_)
    refine ea_cons ?_
    refine ev_tup ?_
    refine ea_cons ?_
    refine ev_int ?_
    refine ea_cons ?_
    refine ev_int ?_
    refine ea_cons ?_
    refine ev_int ?_
    refine ea_nil ⟨by walk_at "sz", ?_⟩
    refine ea_cons ?_
    refine ev_tup ?_
    refine ea_cons ?_
    refine ev_int ?_
    refine ea_cons ?_
    refine ev_neg ?_
    refine ev_int ?_
    refine ea_cons ?_
    refine ev_int ?_
    refine ea_nil ⟨by walk_at "sz", ?_⟩
    refine ea_cons ?_
    refine ev_tup ?_
    refine ea_cons ?_
    refine ev_int ?_
    refine ea_cons ?_
    refine ev_int ?_
    refine ea_cons ?_
    refine ev_int ?_
    refine ea_nil ⟨by walk_at "sz", ?_⟩
    refine ea_cons ?_
    refine ev_tup ?_
    refine ea_cons ?_
    refine ev_int ?_
    refine ea_cons ?_
    refine ev_int ?_
    refine ea_cons ?_
    refine ev_int ?_
    refine ea_nil ⟨by walk_at "sz", ?_⟩
    refine ea_cons ?_
    refine ev_tup ?_
    refine ea_cons ?_
    refine ev_bool ?_
    refine ea_cons ?_
    refine ev_int ?_
    refine ea_cons ?_
    refine ev_int ?_
    refine ea_nil ⟨by walk_at "sz", ?_⟩
    refine ea_cons ?_
    refine ev_tup ?_
    refine ea_cons ?_
    refine ev_int ?_
    refine ea_cons ?_
    refine ev_bool ?_
    refine ea_cons ?_
    refine ev_int ?_
    refine ea_nil ⟨by walk_at "sz", ?_⟩
    refine ea_nil ⟨by walk_at "sz", ?_⟩
    refine ⟨by simp only [List.length_cons, List.length_nil]; decide, ?_⟩
    refine ess_cons (es_setL 4 ?_ sc_law.nd)
    refine el_add ?_
    refine ev_name 4 rfl ?_
    refine ev_el (el_lst ?_)
    refine ea_cons ?_
    refine ev_tup ?_
    refine ea_cons ?_
    refine ev_int ?_
    refine ea_cons ?_
    refine ev_int ?_
    refine ea_cons ?_
    refine ev_bool ?_
    refine ea_nil ⟨by walk_at "sz", ?_⟩
    refine ea_cons ?_
    refine ev_tup ?_
    refine ea_cons ?_
    refine ev_int ?_
    refine ea_cons ?_
    refine ev_int ?_
    refine ea_nil ⟨by walk_at "sz", ?_⟩
    refine ea_cons ?_
    refine ev_tup ?_
    refine ea_cons ?_
    refine ev_int ?_
    refine ea_cons ?_
    refine ev_int ?_
    refine ea_cons ?_
    refine ev_int ?_
    refine ea_cons ?_
    refine ev_int ?_
    refine ea_nil ⟨by walk_at "sz", ?_⟩
    refine ea_cons ?_
    refine ev_tup ?_
    refine ea_cons ?_
    refine ev_str ?_
    refine ea_cons ?_
    refine ev_int ?_
    refine ea_cons ?_
    refine ev_int ?_
    refine ea_nil ⟨by walk_at "sz", ?_⟩
    refine ea_cons ?_
    refine ev_tup ?_
    refine ea_cons ?_
    refine ev_none ?_
    refine ea_cons ?_
    refine ev_int ?_
    refine ea_cons ?_
    refine ev_int ?_
    refine ea_nil ⟨by walk_at "sz", ?_⟩
    refine ea_nil ⟨by walk_at "sz", ?_⟩
    refine ⟨by simp only [List.length_append, List.length_cons, List.length_nil]; decide, ?_⟩
    refine ess_cons (es_for .never rfl ?_)
    refine ei_range1 T.n_range ?_
    refine ev_int ?_
    refine ⟨by omega, by omega, ?_⟩
    refine ⟨fun i ρ => ∃ (a : Sl) (xs : List PyData), xs.length ≤ 21 + 2 * i ∧ ρ = [.no, .tape, .no, .im (pap r d l), .own xs, a, .no, .no], ⟨_, _, by simp only [List.length_append, List.length_cons, List.length_nil]; decide, rfl⟩, fun i x ρ hx hP => ?_, fun ρ hP => ?_⟩
    · obtain ⟨a, xs, hl, rfl⟩ := hP
      have hi := (List.getElem?_eq_some_iff.mp hx).1
      rw [rngD_len] at hi
      rw [rngD_get hi] at hx
      cases hx
      have hi8 : i < 8 := hi
      refine tg_name 5 ?_ sc_law.nd
      have hk : An 1 10 (pap r d l) := ⟨(show 3 ≤ 10 by decide), fun e he => by
        simp at he
        rcases he with rfl | rfl | rfl <;> exact an_int⟩
      refine ess_cons (es_append 4 rfl ?_)
      refine ev_callT 1 rfl (spoilt_ok T 1) (hr.mono (by decide)) T.g__law_spoilt T.F__law_spoilt.kp T.b__law_spoilt ?_
      refine ea_cons ?_
      refine ev_name 3 rfl ?_
      refine ea_nil ⟨_, 10, rfl, hk, by decide, fun e he => ?_⟩
      refine ⟨Nat.lt_of_le_of_lt (show xs.length ≤ 1000 by omega) (by decide), ?_⟩
      refine ess_one (es_append 4 rfl ?_)
      refine ev_callT 1 rfl (spoilt_ok T 4) (hr.mono (by decide)) T.g__law_spoilt T.F__law_spoilt.kp T.b__law_spoilt ?_
      refine ea_cons ?_
      refine ev_ixOwn 4 rfl ?_
      refine ev_neg ?_
      refine ev_int ?_
      refine ⟨e, at_end, ?_⟩
      refine ea_nil ⟨_, 20, rfl, he, by decide, fun e2 he2 => ?_⟩
      refine ⟨Nat.lt_of_le_of_lt (show (xs ++ [e]).length ≤ 1000 by simp; omega) (by decide), ?_⟩
      exact ⟨_, _, by simp; omega, rfl⟩
    · obtain ⟨a, xs, hl, rfl⟩ := hP
      rw [rngD_len] at hl
      have hl : xs.length ≤ 100 := by
        have : (Int.toNat 8) = 8 := rfl
        omega
      refine ess_frz 4 rfl ?_
      refine ess_one (es_for .never rfl ?_)
      refine ei_list ?_
      refine ev_bin oz_add ?_
      refine ev_name 4 rfl ?_
      refine ev_el (el_lst ?_)
      refine ea_cons ?_
      refine ev_callT 1 rfl (ok__law_any T) (hr.mono (by decide)) T.g__law_any T.F__law_any.kp T.b__law_any ?_
      refine ea_cons ?_
      refine ev_int ?_
      refine ea_nil ⟨_, rfl, by decide, by decide, fun e he => ?_⟩
      refine ea_nil ⟨by walk_at "sz", ?_⟩
      refine ⟨Nat.le_trans (show xs.length + 1 ≤ 1000 by omega) (by decide), ?_⟩
      refine ⟨fun i ρ => ∃ b c : Sl, ρ = [.no, .tape, .no, .im (pap r d l), .im (.list xs), a, b, c], ⟨_, _, rfl⟩, fun i th ρ hx hP => ?_, fun ρ hP => ?_⟩
      · obtain ⟨b, c, rfl⟩ := hP
        refine tg_name 6 ?_ sc_law.nd
        refine ess_cons (es_set 7 ?_ sc_law.nd)
        refine Ev.imp (R := fun x => x = .bool (tup3 th)) ?_ fun x ex => ?_
        · refine ev_and ?_
          refine ev_isTup T.n_isinstance T.n_tuple ?_
          refine ev_name 6 rfl ?_
          refine ⟨fun h => ?_, fun h => ?_⟩
          · obtain ⟨ds, rfl⟩ : ∃ ds, th = .tuple ds := by cases th <;> first | exact ⟨_, rfl⟩ | cases h
            refine ev_one ?_
            refine ev_cmp oz_eq ?_
            refine ev_len T.n_len ?_
            refine ev_name 6 rfl ?_
            refine ev_int ?_
            match ds with
            | [] => rfl
            | [_] => rfl
            | [_, _] => rfl
            | [_, _, _] => rfl
            | a :: b :: c :: d :: ds =>
              show PyData.bool (decide _) = .bool false
              rw [decide_eq_false]
              simp only [List.length_cons]
              omega
          · cases th <;> first | rfl | (cases h; done)
        subst ex
        refine ess_cons (es_set 7 ?_ sc_law.nd)
        refine Ev.imp (R := fun x => x = .bool (two3 th)) ?_ fun x ex => ?_
        · refine ev_and ?_
          refine ev_name 7 rfl ?_
          refine ⟨fun h => ?_, fun h => by rw [(pap_two h).1]⟩
          obtain ⟨u, v, y, rfl⟩ := tup3_of h
          have e2 : two3 (.tuple [u, v, y]) = (within u 1 200 && within v 0 (valI u - 1)) := rfl
          rw [e2]
          refine ev_and ?_
          refine ev_call (ok__law_within T) (hr.mono (by decide)) T.g__law_within T.F__law_within.kp T.b__law_within ?_
          refine ea_cons ?_
          refine ev_ix ?_
          refine ev_name 6 rfl ?_
          refine ev_int ?_
          refine ⟨_, rfl, ?_⟩
          refine ea_cons ?_
          refine ev_int ?_
          refine ea_cons ?_
          refine ev_int ?_
          refine ea_nil ⟨_, _, _, rfl, ?_⟩
          cases hw : within u 1 200 with
          | false => exact noF rfl
          | true =>
            obtain ⟨j, rfl⟩ : ∃ j, u = .int j := by cases u <;> first | exact ⟨_, rfl⟩ | cases hw
            refine yesT ?_
            refine ev_one ?_
            refine ev_call (ok__law_within T) (hr.mono (by decide)) T.g__law_within T.F__law_within.kp T.b__law_within ?_
            refine ea_cons ?_
            refine ev_ix ?_
            refine ev_name 6 rfl ?_
            refine ev_int ?_
            refine ⟨_, rfl, ?_⟩
            refine ea_cons ?_
            refine ev_int ?_
            refine ea_cons ?_
            refine ev_bin oz_sub ?_
            refine ev_ix ?_
            refine ev_name 6 rfl ?_
            refine ev_int ?_
            refine ⟨_, rfl, ?_⟩
            refine ev_int ?_
            exact ea_nil ⟨_, _, _, rfl, rfl⟩
        subst ex
        refine ess_cons (es_set 7 ?_ sc_law.nd)
        refine Ev.imp (R := fun x => x = .bool (papB th)) ?_ fun x ex => ?_
        · refine ev_and ?_
          refine ev_name 7 rfl ?_
          refine ⟨fun h => ?_, fun h => ?_⟩
          · cases h3 : tup3 th with
            | false => rw [(pap_two h3).1] at h; cases h
            | true =>
              obtain ⟨u, v, y, rfl⟩ := tup3_of h3
              have e2 : papB (.tuple [u, v, y]) = (two3 (.tuple [u, v, y]) && within y 1 10000) := rfl
              rw [e2, h]
              refine ev_one ?_
              refine ev_call (ok__law_within T) (hr.mono (by decide)) T.g__law_within T.F__law_within.kp T.b__law_within ?_
              refine ea_cons ?_
              refine ev_ix ?_
              refine ev_name 6 rfl ?_
              refine ev_int ?_
              refine ⟨_, rfl, ?_⟩
              refine ea_cons ?_
              refine ev_int ?_
              refine ea_cons ?_
              refine ev_int ?_
              exact ea_nil ⟨_, _, _, rfl, rfl⟩
          · cases h3 : tup3 th with
            | false => rw [(pap_two h3).2]
            | true =>
              obtain ⟨u, v, y, rfl⟩ := tup3_of h3
              have e2 : papB (.tuple [u, v, y]) = (two3 (.tuple [u, v, y]) && within y 1 10000) := rfl
              rw [e2, h]
              rfl
        subst ex
        refine ess_one (es_if ?_)
        refine et_not (et_val ?_)
        refine ev_call (ok__law_like T) (hr.mono (by decide)) T.g__law_like T.F__law_like.kp T.b__law_like ?_
        refine ea_cons ?_
        refine ev_call (ok_is_paper T) (hr.mono (by decide)) T.g_is_paper T.F_is_paper.kp T.b_is_paper ?_
        refine ea_cons ?_
        refine ev_name 6 rfl ?_
        refine ea_nil ⟨_, rfl, ?_⟩
        refine ea_cons ?_
        refine ev_name 7 rfl ?_
        refine ea_nil ⟨_, rfl, sim_bool, ?_⟩
        exact noF (ess_nil ⟨_, _, rfl⟩)
      · obtain ⟨b, c, rfl⟩ := hP
        exact ⟨_, _, _, _, _, _, rfl⟩
  · obtain ⟨_, _, _, _, _, _, rfl⟩ := hP
    refine ess_one (es_ret ?_)
    refine ev_bool ?_
    rfl

end
theorem all_mk {l : PySem.W.OpenLaw} {w : World} {K : PySem.W.Frag} {h : Heap} {mg : Str → Option Value} {fa : Addr} (X : K.In h) (G : h.Ns mainGlobals mg) (hfa : mg "law" = some (.ref fa))
    {f0 : Addr} {od0 an0 : Option Addr} {sl0 : Array (Option Value)} {oc0 kV0 dc0 pm0 cd0 ct0 : Value}
    (a0 : PySem.W.nsIn K mainGlobals "is_integer" = some (some (.ref f0))) (l0 : K.lookup f0 = some ⟨oc0, od0, .func (PySem.W.fnOf "is_integer" "is_integer" (defArgs s_is_integer) (defBody s_is_integer) (defScope s_is_integer) .none kV0 dc0 pm0 an0 cd0 ct0), sl0⟩) (c0 : PySem.W.codeIn K cd0 "is_integer" = true) (k0 : PySem.W.keepIn K (.ref f0) = true)
    {f1 : Addr} {od1 an1 : Option Addr} {sl1 : Array (Option Value)} {oc1 kV1 dc1 pm1 cd1 ct1 : Value}
    (a1 : PySem.W.nsIn K mainGlobals "is_paper" = some (some (.ref f1))) (l1 : K.lookup f1 = some ⟨oc1, od1, .func (PySem.W.fnOf "is_paper" "is_paper" (defArgs s_is_paper) (defBody s_is_paper) (defScope s_is_paper) .none kV1 dc1 pm1 an1 cd1 ct1), sl1⟩) (c1 : PySem.W.codeIn K cd1 "is_paper" = true) (k1 : PySem.W.keepIn K (.ref f1) = true)
    {f2 : Addr} {od2 an2 : Option Addr} {sl2 : Array (Option Value)} {oc2 kV2 dc2 pm2 cd2 ct2 : Value}
    (a2 : PySem.W.nsIn K mainGlobals "_law_draw" = some (some (.ref f2))) (l2 : K.lookup f2 = some ⟨oc2, od2, .func (PySem.W.fnOf "_law_draw" "_law_draw" (defArgs s__law_draw) (defBody s__law_draw) (defScope s__law_draw) .none kV2 dc2 pm2 an2 cd2 ct2), sl2⟩) (c2 : PySem.W.codeIn K cd2 "_law_draw" = true) (k2 : PySem.W.keepIn K (.ref f2) = true)
    {f3 : Addr} {od3 an3 : Option Addr} {sl3 : Array (Option Value)} {oc3 kV3 dc3 pm3 cd3 ct3 : Value}
    (a3 : PySem.W.nsIn K mainGlobals "_law_whole" = some (some (.ref f3))) (l3 : K.lookup f3 = some ⟨oc3, od3, .func (PySem.W.fnOf "_law_whole" "_law_whole" (defArgs s__law_whole) (defBody s__law_whole) (defScope s__law_whole) .none kV3 dc3 pm3 an3 cd3 ct3), sl3⟩) (c3 : PySem.W.codeIn K cd3 "_law_whole" = true) (k3 : PySem.W.keepIn K (.ref f3) = true)
    {f4 : Addr} {od4 an4 : Option Addr} {sl4 : Array (Option Value)} {oc4 kV4 dc4 pm4 cd4 ct4 : Value}
    (a4 : PySem.W.nsIn K mainGlobals "_law_within" = some (some (.ref f4))) (l4 : K.lookup f4 = some ⟨oc4, od4, .func (PySem.W.fnOf "_law_within" "_law_within" (defArgs s__law_within) (defBody s__law_within) (defScope s__law_within) .none kV4 dc4 pm4 an4 cd4 ct4), sl4⟩) (c4 : PySem.W.codeIn K cd4 "_law_within" = true) (k4 : PySem.W.keepIn K (.ref f4) = true)
    {f5 : Addr} {od5 an5 : Option Addr} {sl5 : Array (Option Value)} {oc5 kV5 dc5 pm5 cd5 ct5 : Value}
    (a5 : PySem.W.nsIn K mainGlobals "_law_like" = some (some (.ref f5))) (l5 : K.lookup f5 = some ⟨oc5, od5, .func (PySem.W.fnOf "_law_like" "_law_like" (defArgs s__law_like) (defBody s__law_like) (defScope s__law_like) .none kV5 dc5 pm5 an5 cd5 ct5), sl5⟩) (c5 : PySem.W.codeIn K cd5 "_law_like" = true) (k5 : PySem.W.keepIn K (.ref f5) = true)
    {f6 : Addr} {od6 an6 : Option Addr} {sl6 : Array (Option Value)} {oc6 kV6 dc6 pm6 cd6 ct6 : Value}
    (a6 : PySem.W.nsIn K mainGlobals "_law_spoilt" = some (some (.ref f6))) (l6 : K.lookup f6 = some ⟨oc6, od6, .func (PySem.W.fnOf "_law_spoilt" "_law_spoilt" (defArgs s__law_spoilt) (defBody s__law_spoilt) (defScope s__law_spoilt) .none kV6 dc6 pm6 an6 cd6 ct6), sl6⟩) (c6 : PySem.W.codeIn K cd6 "_law_spoilt" = true) (k6 : PySem.W.keepIn K (.ref f6) = true)
    {f7 : Addr} {od7 an7 : Option Addr} {sl7 : Array (Option Value)} {oc7 kV7 dc7 pm7 cd7 ct7 : Value}
    (a7 : PySem.W.nsIn K mainGlobals "_law_any" = some (some (.ref f7))) (l7 : K.lookup f7 = some ⟨oc7, od7, .func (PySem.W.fnOf "_law_any" "_law_any" (defArgs s__law_any) (defBody s__law_any) (defScope s__law_any) .none kV7 dc7 pm7 an7 cd7 ct7), sl7⟩) (c7 : PySem.W.codeIn K cd7 "_law_any" = true) (k7 : PySem.W.keepIn K (.ref f7) = true)
    {f8 : Addr} {od8 an8 : Option Addr} {sl8 : Array (Option Value)} {oc8 kV8 dc8 pm8 cd8 ct8 : Value}
    (a8 : PySem.W.nsIn K mainGlobals "_law_numbers" = some (some (.ref f8))) (l8 : K.lookup f8 = some ⟨oc8, od8, .func (PySem.W.fnOf "_law_numbers" "_law_numbers" (defArgs s__law_numbers) (defBody s__law_numbers) (defScope s__law_numbers) .none kV8 dc8 pm8 an8 cd8 ct8), sl8⟩) (c8 : PySem.W.codeIn K cd8 "_law_numbers" = true) (k8 : PySem.W.keepIn K (.ref f8) = true)
    {f9 : Addr} {od9 an9 : Option Addr} {sl9 : Array (Option Value)} {oc9 kV9 dc9 pm9 cd9 ct9 : Value}
    (a9 : PySem.W.nsIn K mainGlobals "law" = some (some (.ref f9))) (l9 : K.lookup f9 = some ⟨oc9, od9, .func (PySem.W.fnOf "law" "law" (defArgs s_law) (defBody s_law) (defScope s_law) .none kV9 dc9 pm9 an9 cd9 ct9), sl9⟩) (c9 : PySem.W.codeIn K cd9 "law" = true) (k9 : PySem.W.keepIn K (.ref f9) = true)
    (z0 : PySem.W.nsIn K mainGlobals "bool" = some none)
    (z1 : PySem.W.nsIn K mainGlobals "int" = some none)
    (z2 : PySem.W.nsIn K mainGlobals "isinstance" = some none)
    (z3 : PySem.W.nsIn K mainGlobals "len" = some none)
    (z4 : PySem.W.nsIn K mainGlobals "list" = some none)
    (z5 : PySem.W.nsIn K mainGlobals "max" = some none)
    (z6 : PySem.W.nsIn K mainGlobals "range" = some none)
    (z7 : PySem.W.nsIn K mainGlobals "str" = some none)
    (z8 : PySem.W.nsIn K mainGlobals "tuple" = some none)
    {t0 : Tok} (y0 : PySem.W.nsIn K mainGlobals "MOST_REPEAT" = some (some (.int 200 t0)))
    {t1 : Tok} (y1 : PySem.W.nsIn K mainGlobals "MOST_ROLL" = some (some (.int 10000 t1)))
    : ∃ fd : FuncData, (∀ (s : Shared) (v : Value), BindsTo s fd ⟨[v], []⟩ [("script", v)]) ∧ ∀ base : Heap, K.In base → base.Ns mainGlobals mg → FnOk l.prog w K mg base CX0 10 fa fd ["script"] (spLaw K) := by
  have e := hfa.symm.trans (PySem.W.mg_of X G a9)
  cases e
  have F0 := fun_mk (st := s_is_integer) l0 c0 k0
  have b0 := F0.binds (ps := ["value", "low", "high"]) fun _ _ _ _ _ _ us hl => match us, hl with | [_, _, _], _ => rfl
  have F1 := fun_mk (st := s_is_paper) l1 c1 k1
  have b1 := F1.binds (ps := ["value"]) fun _ _ _ _ _ _ us hl => match us, hl with | [_], _ => rfl
  have F2 := fun_mk (st := s__law_draw) l2 c2 k2
  have b2 := F2.binds (ps := ["tape", "many"]) fun _ _ _ _ _ _ us hl => match us, hl with | [_, _], _ => rfl
  have F3 := fun_mk (st := s__law_whole) l3 c3 k3
  have b3 := F3.binds (ps := ["item"]) fun _ _ _ _ _ _ us hl => match us, hl with | [_], _ => rfl
  have F4 := fun_mk (st := s__law_within) l4 c4 k4
  have b4 := F4.binds (ps := ["item", "low", "high"]) fun _ _ _ _ _ _ us hl => match us, hl with | [_, _, _], _ => rfl
  have F5 := fun_mk (st := s__law_like) l5 c5 k5
  have b5 := F5.binds (ps := ["one", "two"]) fun _ _ _ _ _ _ us hl => match us, hl with | [_, _], _ => rfl
  have F6 := fun_mk (st := s__law_spoilt) l6 c6 k6
  have b6 := F6.binds (ps := ["tape", "item"]) fun _ _ _ _ _ _ us hl => match us, hl with | [_, _], _ => rfl
  have F7 := fun_mk (st := s__law_any) l7 c7 k7
  have b7 := F7.binds (ps := ["tape", "deep"]) fun _ _ _ _ _ _ us hl => match us, hl with | [_, _], _ => rfl
  have F8 := fun_mk (st := s__law_numbers) l8 c8 k8
  have b8 := F8.binds (ps := ["tape", "most", "far"]) fun _ _ _ _ _ _ us hl => match us, hl with | [_, _, _], _ => rfl
  have F9 := fun_mk (st := s_law) l9 c9 k9
  have T : En K mg := ⟨f0, _, F0, b0, PySem.W.mg_of X G a0, f1, _, F1, b1, PySem.W.mg_of X G a1, f2, _, F2, b2, PySem.W.mg_of X G a2, f3, _, F3, b3, PySem.W.mg_of X G a3, f4, _, F4, b4, PySem.W.mg_of X G a4, f5, _, F5, b5, PySem.W.mg_of X G a5, f6, _, F6, b6, PySem.W.mg_of X G a6, f7, _, F7, b7, PySem.W.mg_of X G a7, f8, _, F8, b8, PySem.W.mg_of X G a8, PySem.W.mg_none_of X G z0, PySem.W.mg_none_of X G z1, PySem.W.mg_none_of X G z2, PySem.W.mg_none_of X G z3, PySem.W.mg_none_of X G z4, PySem.W.mg_none_of X G z5, PySem.W.mg_none_of X G z6, PySem.W.mg_none_of X G z7, PySem.W.mg_none_of X G z8, ⟨_, PySem.W.mg_of X G y0⟩, ⟨_, PySem.W.mg_of X G y1⟩⟩
  exact ⟨PySem.W.fnOf "law" "law" (defArgs s_law) (defBody s_law) (defScope s_law) .none kV9 dc9 pm9 an9 cd9 ct9, fun s v => .of_eq rfl, fun base _ _ => ok_law T F9⟩
end Law
open PySem PySem.W PyProof.Rows
set_option maxRecDepth 100000 in
set_option maxHeartbeats 0 in
theorem PySem.Challenge.cw_wallrolls_k01_paper_values_holds : PySem.Challenge.rw_wallrolls_k01_paper_values.Holds := by
  w_on; o_law; k_head; (case hw => w_witness2)
  k_fill
  refine L2.walk_of (l := PySem.Challenge.rw_wallrolls_k01_paper_values) (n := 63) (k := 10) (x := "script") (CX := fun _ => L2.CX0) (sp := fun w => Z.spLaw _) rfl (by decide) rfl ⟨rfl, by decide, by decide⟩ (fun w h Y => PySem.W.kIn_of Y) ?F (fun _ _ a ns hl _ hS => ⟨a, ns, rfl, hS, hl, fun _ => rfl⟩) (fun _ _ _ _ _ h => h)
  case F =>
    intro w mg fa h KX G hmg
    refine' Law.all_mk KX G hmg ?a0 ?l0 ?c0 ?k0 ?a1 ?l1 ?c1 ?k1 ?a2 ?l2 ?c2 ?k2 ?a3 ?l3 ?c3 ?k3 ?a4 ?l4 ?c4 ?k4 ?a5 ?l5 ?c5 ?k5 ?a6 ?l6 ?c6 ?k6 ?a7 ?l7 ?c7 ?k7 ?a8 ?l8 ?c8 ?k8 ?a9 ?l9 ?c9 ?k9 ?z0 ?z1 ?z2 ?z3 ?z4 ?z5 ?z6 ?z7 ?z8 ?y0 ?y1
    (case a0 => k_is)
    (case l0 => k_is)
    (case c0 => k_is)
    (case k0 => k_is)
    (case a1 => k_is)
    (case l1 => k_is)
    (case c1 => k_is)
    (case k1 => k_is)
    (case a2 => k_is)
    (case l2 => k_is)
    (case c2 => k_is)
    (case k2 => k_is)
    (case a3 => k_is)
    (case l3 => k_is)
    (case c3 => k_is)
    (case k3 => k_is)
    (case a4 => k_is)
    (case l4 => k_is)
    (case c4 => k_is)
    (case k4 => k_is)
    (case a5 => k_is)
    (case l5 => k_is)
    (case c5 => k_is)
    (case k5 => k_is)
    (case a6 => k_is)
    (case l6 => k_is)
    (case c6 => k_is)
    (case k6 => k_is)
    (case a7 => k_is)
    (case l7 => k_is)
    (case c7 => k_is)
    (case k7 => k_is)
    (case a8 => k_is)
    (case l8 => k_is)
    (case c8 => k_is)
    (case k8 => k_is)
    (case a9 => k_is)
    (case l9 => k_is)
    (case c9 => k_is)
    (case k9 => k_is)
    (case z0 => k_is)
    (case z1 => k_is)
    (case z2 => k_is)
    (case z3 => k_is)
    (case z4 => k_is)
    (case z5 => k_is)
    (case z6 => k_is)
    (case z7 => k_is)
    (case z8 => k_is)
    (case y0 => k_is)
    (case y1 => k_is)
#print axioms PySem.Challenge.cw_wallrolls_k01_paper_values_holds
