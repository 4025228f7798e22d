import PyProof.Rows.All
import Wide.All
import OpenK.AllK
import Wide.FinOn
import HandS.ForMost
import HandS.Wide
import HandS.TupAny
import HandS.Deep
import HandS.IsInst
import HandS.Style
import HandS.TupLe
import HandS.Dict
import HandS.SetFor
import HandS.TupSets
import HandS.Zip
import HandS.More
import HandS.Text
import HandS.SortInts
import KE.KRevSl
import PyProof.AutoSeq1
import HandS.Conv
import KE.DatumOrd
import KE.SortData
import HandS.GenBody
import HandS.GenYield
import HandS.GenCall
import HandS.GenList
import HandS.Star
import KE.GoesZip
import KE.GoesMore
import HandS.Zip0
import KE.KDictZip
import HandS.Property
import HandS.MakeKwOnly
import HandS.ForExc
import HandS.ExcCtx
import HandS.Hot
import HandS.HotCalls
import HandS.ExcIs
import HandS.ClsMeth
import KE.RegKIsAll
import KE.KOpsOwn
import HandS.Codes
import HandS.FStr
import KE.KxField
import KE.KxFormat
import PySem.Challenge.RW_wallrolls_k17_whole_rolls_strip_by_strip
set_option Elab.async false
set_option linter.all false
set_option maxRecDepth 100000
set_option maxHeartbeats 4000000
/-! My own layer: code over plain data, the heap out of sight. -/
namespace Z
open PySem PySem.Spec PyProof.Rows L2

/-! ### data, as the heap grows -/
mutual
/-- a value is the data d: lists are tracked themselves -/
inductive Dq (K : PySem.W.Frag) (H : Hp) : V → PyData → Prop
  | non : Dq K H .non .none
  | bl (b : Bool) : Dq K H (.bl b) (.bool b)
  | int (i : Int) : Dq K H (.int i) (.int i)
  | str (x : Str) : Dq K H (.str x) (.str x)
  | lst {a : Addr} {xs : List V} {ds : List PyData} : H a = some (.lst xs) → DqAll K H xs ds → Dq K H (.ref a) (.list ds)
  | tup {a : Addr} {xs : List V} {ds : List PyData} : SqT K H a xs → DqAll K H xs ds → Dq K H (.ref a) (.tuple ds)
inductive DqAll (K : PySem.W.Frag) (H : Hp) : List V → List PyData → Prop
  | nil : DqAll K H [] []
  | cons {v : V} {vs : List V} {d : PyData} {ds : List PyData} : Dq K H v d → DqAll K H vs ds → DqAll K H (v :: vs) (d :: ds)
end
mutual
theorem dqDp {K : PySem.W.Frag} {B : Hp} : ∀ (d : PyData) (v : V), Dq K B v d → Dp K B v d
  | .none, _, h => by cases h; exact .non
  | .bool b, _, h => by cases h; exact .bl b
  | .int i, _, h => by cases h; exact .int i
  | .str x, _, h => by cases h; exact .str x
  | .list ds, _, h => by
    cases h with
    | lst hs ha => exact .lst (SqL.of hs) (dqDpAll ds _ ha)
  | .tuple ds, _, h => by
    cases h with
    | tup hs ha => exact .tup hs (dqDpAll ds _ ha)
  | .dict _, _, h => by cases h
theorem dqDpAll {K : PySem.W.Frag} {B : Hp} : ∀ (ds : List PyData) (vs : List V), DqAll K B vs ds → DpAll K B vs ds
  | [], _, h => by cases h; exact .nil
  | d :: ds, _, h => by
    cases h with
    | cons h1 h2 => exact .cons (dqDp d _ h1) (dqDpAll ds _ h2)
end
mutual
theorem dpMono {K : PySem.W.Frag} {B B' : Hp} (s : Same B B') : ∀ (d : PyData) (v : V), Dq K B v d → Dq K B' v d
  | .none, _, h => by cases h; exact .non
  | .bool b, _, h => by cases h; exact .bl b
  | .int i, _, h => by cases h; exact .int i
  | .str x, _, h => by cases h; exact .str x
  | .list ds, _, h => by
    cases h with
    | lst hs ha => exact .lst (s _ _ hs) (dpAllMono s ds _ ha)
  | .tuple ds, _, h => by
    cases h with
    | tup hs ha =>
      refine .tup ?_ (dpAllMono s ds _ ha)
      rcases hs with (h | ⟨o, h⟩) | h
      · exact .inl (.inl (s _ _ h))
      · exact .inl (.inr ⟨o, s _ _ h⟩)
      · exact .inr h
  | .dict _, _, h => by cases h
theorem dpAllMono {K : PySem.W.Frag} {B B' : Hp} (s : Same B B') : ∀ (ds : List PyData) (vs : List V), DqAll K B vs ds → DqAll K B' vs ds
  | [], _, h => by cases h; exact .nil
  | d :: ds, _, h => by
    cases h with
    | cons h1 h2 => exact .cons (dpMono s d _ h1) (dpAllMono s ds _ h2)
end
theorem dpAll_len {K : PySem.W.Frag} {B : Hp} : ∀ {ds : List PyData} {vs : List V}, DqAll K B vs ds → vs.length = ds.length
  | [], _, h => by cases h; rfl
  | d :: ds, _, h => by
    cases h with
    | cons h1 h2 => simp [dpAll_len h2]
theorem dpAll_get {K : PySem.W.Frag} {B : Hp} : ∀ {ds : List PyData} {vs : List V}, DqAll K B vs ds → ∀ {i : Nat} {d : PyData}, ds[i]? = some d → ∃ v, vs[i]? = some v ∧ Dq K B v d
  | [], _, h, i, d, e => by simp at e
  | d :: ds, _, h, i, d', e => by
    cases h with
    | cons h1 h2 =>
      cases i with
      | zero => simp at e; subst e; exact ⟨_, by simp, h1⟩
      | succ i =>
        have e' : ds[i]? = some d' := by simpa using e
        obtain ⟨v, a, b⟩ := dpAll_get h2 e'
        exact ⟨v, by simpa using a, b⟩
theorem dpAll_app {K : PySem.W.Frag} {B : Hp} : ∀ {ds es : List PyData} {vs us : List V}, DqAll K B vs ds → DqAll K B us es → DqAll K B (vs ++ us) (ds ++ es)
  | [], _, _, _, h, h' => by cases h; exact h'
  | d :: ds, _, _, _, h, h' => by
    cases h with
    | cons h1 h2 => exact .cons h1 (dpAll_app h2 h')
theorem dpAll_set {K : PySem.W.Frag} {B : Hp} {v : V} {d : PyData} (hd : Dq K B v d) : ∀ {ds : List PyData} {vs : List V} (i : Nat), DqAll K B vs ds → DqAll K B (vs.set i v) (ds.set i d)
  | [], _, i, h => by cases h; exact .nil
  | d' :: ds, _, i, h => by
    cases h with
    | cons h1 h2 =>
      cases i with
      | zero => exact .cons hd h2
      | succ i => exact .cons h1 (dpAll_set hd i h2)
theorem dpAll_take {K : PySem.W.Frag} {B : Hp} : ∀ {ds : List PyData} {vs : List V} (n : Nat), DqAll K B vs ds → DqAll K B (vs.take n) (ds.take n)
  | _, _, 0, _ => .nil
  | [], _, _ + 1, h => by cases h; exact .nil
  | d :: ds, _, n + 1, h => by
    cases h with
    | cons h1 h2 => exact .cons h1 (dpAll_take n h2)
theorem dpAll_drop {K : PySem.W.Frag} {B : Hp} : ∀ {ds : List PyData} {vs : List V} (n : Nat), DqAll K B vs ds → DqAll K B (vs.drop n) (ds.drop n)
  | _, _, 0, h => h
  | [], _, _ + 1, h => by cases h; exact .nil
  | d :: ds, _, n + 1, h => by
    cases h with
    | cons h1 h2 => exact dpAll_drop n h2
theorem dp_int {K : PySem.W.Frag} {B : Hp} {v : V} {i : Int} (h : Dq K B v (.int i)) : v = .int i := by cases h; rfl
theorem dp_bool {K : PySem.W.Frag} {B : Hp} {v : V} {i : Bool} (h : Dq K B v (.bool i)) : v = .bl i := by cases h; rfl
theorem dp_none {K : PySem.W.Frag} {B : Hp} {v : V} (h : Dq K B v .none) : v = .non := by cases h; rfl
theorem dp_str {K : PySem.W.Frag} {B : Hp} {v : V} {x : Str} (h : Dq K B v (.str x)) : v = .str x := by cases h; rfl
theorem dp_list {K : PySem.W.Frag} {B : Hp} {v : V} {ds : List PyData} (h : Dq K B v (.list ds)) : ∃ a vs, v = .ref a ∧ B a = some (.lst vs) ∧ DqAll K B vs ds := by
  cases h with
  | lst h1 h2 => exact ⟨_, _, rfl, h1, h2⟩
theorem dp_tup {K : PySem.W.Frag} {B : Hp} {v : V} {ds : List PyData} (h : Dq K B v (.tuple ds)) : ∃ a vs, v = .ref a ∧ SqT K B a vs ∧ DqAll K B vs ds := by
  cases h with
  | tup h1 h2 => exact ⟨_, _, rfl, h1, h2⟩
theorem seqT {K : PySem.W.Frag} {B H : Hp} (s : Same B H) {a : Addr} {xs : List V} (hs : SqT K B a xs) : SqT K H a xs := by
  rcases hs with (h | ⟨o, h⟩) | h
  · exact .inl (.inl (s _ _ h))
  · exact .inl (.inr ⟨o, s _ _ h⟩)
  · exact .inr h
theorem same_new {H : Hp} {p : Addr} {o : HO} (h : H p = none) : Same H (upd H p o) := fun b x e => by
  rw [upd_ne (ne_of_none e h)]
  exact e
theorem same_upd2 {B H : Hp} {p : Addr} {o : HO} (s : Same B H) : Same (upd B p o) (upd H p o) := fun b x e => by
  by_cases hb : b = p
  · subst hb
    rw [upd_same] at e ⊢
    exact e
  · rw [upd_ne hb] at e ⊢
    exact s b x e
theorem same_right {B H : Hp} {p : Addr} {o : HO} (s : Same B H) (h : B p = none) : Same B (upd H p o) := fun b x e => by
  rw [upd_ne (ne_of_none e h)]
  exact s b x e

/-! ### what a frame holds -/
/-- a slot: nothing known, plain data that never changes, a list or dict of this frame's own, the law's tape -/
inductive Sl where
  | no
  | im (d : PyData)
  | own (ds : List PyData)
  | dic (kvs : List (Key × PyData))
  | tape
  /-- an instance of the class at C, of this frame's own (a, dx: where it stands); one that stood there at the entry and is kept -/
  | obj (a dx C : Addr) (fs : List (Str × PyData))
  | obk (a dx C : Addr) (fs : List (Str × PyData))
  /-- some object, where it stands -/
  | ptr (a : Addr)
/-- the tape (when there is one); the plain heap and the heap at the entry -/
structure Wd where
  T : Option Addr
  ns : Addr × List Int
  B0 : Hp
  H0 : Hp
def Tape (ns : Addr × List Int) (B H : Hp) (T : Addr) : Prop :=
  B T = none ∧ ∃ (i c : Int), H T = some (.lst [.ref ns.1, .int i, .int c]) ∧ 0 ≤ i ∧ 0 ≤ c ∧ B ns.1 = some (.lst (ns.2.map V.int))
/-- how the heap has grown since the entry -/
structure Gr (K : PySem.W.Frag) (W : Wd) (B H : Hp) : Prop where
  sub : Same B H
  base : Same W.B0 B
  new : ∀ a, W.H0 a ≠ none → W.B0 a = none → B a = none
  keep : ∀ a o, W.H0 a = some o → W.T ≠ some a → H a = some o
  tp : ∀ T, W.T = some T → W.H0 T ≠ none ∧ Tape W.ns B H T
def KvD (K : PySem.W.Frag) (B : Hp) : List (Key × V) → List (Key × PyData) → Prop := Paired fun p q => p.1 = q.1 ∧ Dq K B p.2 q.2
def FsD (K : PySem.W.Frag) (B : Hp) : List (Str × V) → List (Str × PyData) → Prop := Paired fun p q => p.1 = q.1 ∧ Dq K B p.2 q.2
/-- an object that is never changed: of the plain heap, or of the heap at the entry -/
def Kpt (W : Wd) (B : Hp) (a : Addr) (o : HO) : Prop := B a = some o ∨ (W.H0 a = some o ∧ W.T ≠ some a)
theorem Kpt.mono {W : Wd} {B B' : Hp} {a : Addr} {o : HO} (h : Kpt W B a o) (s : Same B B') : Kpt W B' a o := h.elim (fun h => .inl (s _ _ h)) .inr
def SlOk (K : PySem.W.Frag) (W : Wd) (B H : Hp) (x : Option (Option V)) : Sl → Prop
  | .no => True
  | .im d => ∃ v, x = some (some v) ∧ Dq K B v d
  | .own ds => ∃ a vs, x = some (some (.ref a)) ∧ B a = none ∧ W.H0 a = none ∧ H a = some (.lst vs) ∧ DqAll K B vs ds
  | .dic kvs => ∃ a ws, x = some (some (.ref a)) ∧ B a = none ∧ W.H0 a = none ∧ H a = some (.dK ws) ∧ KvD K B ws kvs
  | .tape => ∃ T, W.T = some T ∧ x = some (some (.ref T))
  | .obj a dx C fs => ∃ fv, x = some (some (.ref a)) ∧ B a = none ∧ W.H0 a = none ∧ H a = some (.ins C dx fv) ∧ FsD K B fv fs
  | .obk a dx C fs => ∃ fv, x = some (some (.ref a)) ∧ Kpt W B a (.ins C dx fv) ∧ FsD K B fv fs
  | .ptr a => x = some (some (.ref a))
def Sl.ow : Sl → Bool
  | .own _ => true
  | .dic _ => true
  | .obj _ _ _ _ => true
  | _ => false
structure Lay (K : PySem.W.Frag) (W : Wd) (B H : Hp) (σ : L2.St) (ρ : List Sl) : Prop where
  gr : Gr K W B H
  len : σ.length = ρ.length
  at' : ∀ (i : Nat) (sl : Sl), ρ[i]? = some sl → SlOk K W B H σ[i]? sl
  dis : ∀ (i j : Nat) (s t : Sl), i ≠ j → ρ[i]? = some s → ρ[j]? = some t → s.ow = true → t.ow = true → σ[i]? ≠ σ[j]?

section
variable {K : PySem.W.Frag} {W : Wd} {B B' H H' : Hp} {σ : L2.St} {ρ : List Sl}
theorem SlOk.owner {x : Option (Option V)} {sl : Sl} (h : SlOk K W B H x sl) (e : sl.ow = true) : ∃ a o, x = some (some (.ref a)) ∧ B a = none ∧ W.H0 a = none ∧ H a = some o ∧ Mut (some o) := by
  cases sl with
  | own ds => obtain ⟨a, vs, h1, h2, h3, h4, _⟩ := h; exact ⟨a, _, h1, h2, h3, h4, trivial⟩
  | dic kvs => obtain ⟨a, vs, h1, h2, h3, h4, _⟩ := h; exact ⟨a, _, h1, h2, h3, h4, trivial⟩
  | no => cases e
  | im d => cases e
  | tape => cases e
  | obj a dx C fs => obtain ⟨fv, h1, h2, h3, h4, _⟩ := h; exact ⟨a, _, h1, h2, h3, h4, trivial⟩
  | obk a dx C fs => cases e
  | ptr a => cases e
theorem fsMono (s : Same B B') : ∀ {ws : List (Str × V)} {kvs : List (Str × PyData)}, FsD K B ws kvs → FsD K B' ws kvs := fun h => Paired.mapP h fun p q z => ⟨z.1, dpMono s _ _ z.2⟩
theorem kvMono (s : Same B B') : ∀ {ws : List (Key × V)} {kvs : List (Key × PyData)}, KvD K B ws kvs → KvD K B' ws kvs := fun h => Paired.mapP h fun p q z => ⟨z.1, dpMono s _ _ z.2⟩
/-- the slots stay as the plain heap grows and the owners' objects are kept -/
theorem SlOk.grow {x : Option (Option V)} {sl : Sl} (h : SlOk K W B H x sl) (s : Same B B') (k : ∀ a o, x = some (some (.ref a)) → sl.ow = true → B a = none → W.H0 a = none → H a = some o → B' a = none ∧ H' a = some o) : SlOk K W B' H' x sl := by
  cases sl with
  | no => trivial
  | im d => obtain ⟨v, h1, h2⟩ := h; exact ⟨v, h1, dpMono s _ _ h2⟩
  | own ds =>
    obtain ⟨a, vs, h1, h2, h3, h4, h5⟩ := h
    obtain ⟨q1, q2⟩ := k a _ h1 rfl h2 h3 h4
    exact ⟨a, vs, h1, q1, h3, q2, dpAllMono s _ _ h5⟩
  | dic kvs =>
    obtain ⟨a, ws, h1, h2, h3, h4, h5⟩ := h
    obtain ⟨q1, q2⟩ := k a _ h1 rfl h2 h3 h4
    exact ⟨a, ws, h1, q1, h3, q2, kvMono s h5⟩
  | tape => exact h
  | obj a dx C fs =>
    obtain ⟨fv, h1, h2, h3, h4, h5⟩ := h
    obtain ⟨q1, q2⟩ := k a _ h1 rfl h2 h3 h4
    exact ⟨fv, h1, q1, h3, q2, fsMono s h5⟩
  | obk a dx C fs =>
    obtain ⟨fv, h1, h2, h5⟩ := h
    exact ⟨fv, h1, h2.mono s, fsMono s h5⟩
  | ptr a => exact h
theorem Tape.mono (s : Same B B') {T : Addr} {ns : Addr × List Int} (t : Tape ns B H T) (h1 : B' T = none) (h2 : ∀ o, H T = some o → H' T = some o) : Tape ns B' H' T := by
  obtain ⟨_, i, c, e, i0, c0, q⟩ := t
  exact ⟨h1, i, c, h2 _ e, i0, c0, s _ _ q⟩
theorem Gr.refl {T : Option Addr} {ns : Addr × List Int} (s : Same B H) (t : ∀ a, T = some a → Tape ns B H a) : Gr K ⟨T, ns, B, H⟩ B H :=
  ⟨s, fun _ _ h => h, fun _ _ h => h, fun _ _ h _ => h, fun a h => ⟨fun z => (by
    obtain ⟨_, i, c, e, _⟩ := t a h
    have z' : H a = none := z
    rw [e] at z'
    exact absurd z' (by simp)), t a h⟩⟩
/-- a fresh object, plain from now on -/
theorem Lay.fresh (L : Lay K W B H σ ρ) {p : Addr} (hp : H p = none) (o : HO) : Same B (upd B p o) ∧ Lay K W (upd B p o) (upd H p o) σ ρ := by
  have bp : B p = none := Same.free L.gr.sub hp
  have s : Same B (upd B p o) := same_new bp
  have np : ∀ a u, H a = some u → a ≠ p := fun a u e => ne_of_none e hp
  refine ⟨s, ⟨⟨same_upd2 L.gr.sub, L.gr.base.trans s, fun a h1 h2 => ?_, fun a u h1 h2 => ?_, fun T h => ?_⟩, L.len, fun i sl e => (L.at' i sl e).grow s fun a u _ _ h2 _ h4 => ?_, L.dis⟩⟩
  · have ha : a ≠ p := by
      rintro rfl
      by_cases ht : W.T = some a
      · obtain ⟨_, t⟩ := L.gr.tp a ht
        obtain ⟨_, i, c, e, _⟩ := t
        rw [e] at hp
        cases hp
      · cases q : W.H0 a with
        | none => exact h1 q
        | some u =>
          have := L.gr.keep a u q ht
          rw [hp] at this
          cases this
    rw [upd_ne ha]
    exact L.gr.new a h1 h2
  · have := L.gr.keep a u h1 h2
    rw [upd_ne (np a u this)]
    exact this
  · obtain ⟨h1, t⟩ := L.gr.tp T h
    obtain ⟨t1, i, c, e, r⟩ := id t
    exact ⟨h1, t.mono s (by rw [upd_ne (np T _ e)]; exact t1) fun u hu => by rw [upd_ne (np T _ e)]; exact hu⟩
  · rw [upd_ne (np a u h4), upd_ne (np a u h4)]
    exact ⟨h2, h4⟩
/-- behind a call that touched nothing but (maybe) the tape -/
theorem Lay.called (L : Lay K W B H σ ρ) {T : Option Addr} {ns : Addr × List Int} (hT : T = none ∨ T = W.T ∧ ns = W.ns) (g : Gr K ⟨T, ns, B, H⟩ B' H') : Same B B' ∧ Lay K W B' H' σ ρ := by
  have ex : ∀ a, W.H0 a ≠ none → H a ≠ none := fun a h1 => by
    by_cases ht : W.T = some a
    · obtain ⟨_, t⟩ := L.gr.tp a ht
      obtain ⟨_, i, c, e, _⟩ := t
      rw [e]
      exact fun z => by cases z
    · cases q : W.H0 a with
      | none => exact (h1 q).elim
      | some u =>
        rw [L.gr.keep a u q ht]
        exact fun z => by cases z
  refine ⟨g.base, ⟨⟨g.sub, L.gr.base.trans g.base, fun a h1 h2 => g.new a (ex a h1) (L.gr.new a h1 h2), fun a u h1 h2 => g.keep a u (L.gr.keep a u h1 h2) ?_, fun t h => ?_⟩, L.len, fun i sl e => (L.at' i sl e).grow g.base fun a u _ _ h2 h3 h4 => ?_, L.dis⟩⟩
  · rcases hT with z | ⟨z, _⟩
    · show T ≠ some a
      rw [z]
      exact fun q => by cases q
    · show T ≠ some a
      rw [z]
      exact h2
  · obtain ⟨h1, tp⟩ := L.gr.tp t h
    obtain ⟨t1, i, c, e, r⟩ := id tp
    rcases hT with z | ⟨z, zn⟩
    · exact ⟨h1, tp.mono g.base (g.new t (by show H t ≠ none; rw [e]; exact fun q => by cases q) t1) fun u hu => g.keep t u hu (by show T ≠ some t; rw [z]; exact fun q => by cases q)⟩
    · have q := (g.tp t (by show T = some t; rw [z]; exact h)).2
      rw [← zn]
      exact ⟨h1, q⟩
  · refine ⟨g.new a (by show H a ≠ none; rw [h4]; exact fun q => by cases q) h2, g.keep a u h4 ?_⟩
    show T ≠ some a
    rcases hT with z | ⟨z, _⟩
    · rw [z]
      exact fun q => by cases q
    · rw [z]
      intro q
      exact (L.gr.tp a q).1 h3
/-- a name is stored -/
theorem Lay.put (L : Lay K W B H σ ρ) {i : Nat} {v : V} {d : PyData} (hd : Dq K B v d) : Lay K W B H (σ.set i (some v)) (ρ.set i (.im d)) := by
  refine ⟨L.gr, by simp [L.len], fun j sl e => ?_, fun j k s t hne e1 e2 o1 o2 => ?_⟩
  · by_cases hj : i = j
    · subst hj
      have hl : i < ρ.length := by
        have := (List.getElem?_eq_some_iff.mp e).1
        simpa using this
      rw [List.getElem?_set_self hl] at e
      cases e
      rw [List.getElem?_set_self (by rw [L.len]; exact hl)]
      exact ⟨v, rfl, hd⟩
    · rw [List.getElem?_set_ne hj] at e ⊢
      exact L.at' j sl e
  · have n1 : i ≠ j := by
      rintro rfl
      have hl : i < ρ.length := by
        have := (List.getElem?_eq_some_iff.mp e1).1
        simpa using this
      rw [List.getElem?_set_self hl] at e1
      cases e1
      cases o1
    have n2 : i ≠ k := by
      rintro rfl
      have hl : i < ρ.length := by
        have := (List.getElem?_eq_some_iff.mp e2).1
        simpa using this
      rw [List.getElem?_set_self hl] at e2
      cases e2
      cases o2
    rw [List.getElem?_set_ne n1] at e1 ⊢
    rw [List.getElem?_set_ne n2] at e2 ⊢
    exact L.dis j k s t hne e1 e2 o1 o2
/-- a slot forgotten -/
theorem Lay.wipe1 (L : Lay K W B H σ ρ) (i : Nat) : Lay K W B H (σ.set i none) (ρ.set i .no) := by
  refine ⟨L.gr, by simp [L.len], fun j sl e => ?_, fun j k s t hne e1 e2 o1 o2 => ?_⟩
  · by_cases hj : i = j
    · subst hj
      have hl : i < ρ.length := by
        have := (List.getElem?_eq_some_iff.mp e).1
        simpa using this
      rw [List.getElem?_set_self hl] at e
      cases e
      trivial
    · rw [List.getElem?_set_ne hj] at e ⊢
      exact L.at' j sl e
  · have n1 : i ≠ j := by
      rintro rfl
      have hl : i < ρ.length := by
        have := (List.getElem?_eq_some_iff.mp e1).1
        simpa using this
      rw [List.getElem?_set_self hl] at e1
      cases e1
      cases o1
    have n2 : i ≠ k := by
      rintro rfl
      have hl : i < ρ.length := by
        have := (List.getElem?_eq_some_iff.mp e2).1
        simpa using this
      rw [List.getElem?_set_self hl] at e2
      cases e2
      cases o2
    rw [List.getElem?_set_ne n1] at e1 ⊢
    rw [List.getElem?_set_ne n2] at e2 ⊢
    exact L.dis j k s t hne e1 e2 o1 o2
end

/-! ### the judgements -/
section
variable (X : Cx)
def tW (e : Expr) : TE := fun σ H Q => ∀ (pins : List (Addr × Obj)) (s : Shared), Inv X pins σ H s → wpAny (model X.prog X.w) X.A (eval e X.env) (EP X pins σ Q) X.xe s
def tWt (e : Expr) : TT := fun σ H Q => ∀ (pins : List (Addr × Obj)) (s : Shared), Inv X pins σ H s → wpAny (model X.prog X.w) X.A (isTrue e X.env (eval e X.env)) (TP X pins σ Q) X.xe s
def tWw (e : Expr) : TT := fun σ H Q => ∀ (whole : Sem Value) (pins : List (Addr × Obj)) (s : Shared), Inv X pins σ H s → wpAny (model X.prog X.w) X.A (isTrue e X.env whole) (TP X pins σ Q) X.xe s
def tWa (es : List Expr) : TA := fun σ H Q => ∀ (pos : Pos) (pins : List (Addr × Obj)) (s : Shared), Inv X pins σ H s → wpAny (model X.prog X.w) X.A (spliced (backTo pos (starEach es X.env))) (AP X pins σ Q) X.xe s
def tWs (st : Stmt) : TS := fun D σ H => ∀ (pins : List (Addr × Obj)) (s : Shared), Inv X pins σ H s → wpAny (model X.prog X.w) X.A (exec st X.env) (SP X pins D) X.xe s
def tWss (st : List Stmt) : TS := fun D σ H => ∀ (pins : List (Addr × Obj)) (s : Shared), Inv X pins σ H s → wpAny (model X.prog X.w) X.A (execs st X.env) (SP X pins D) X.xe s
end
section
variable {X : Cx}
theorem pe_w {e : Expr} : PE X e (tW X e) := ⟨fun pins s _ _ _ I h => h pins s I⟩
theorem pt_w {e : Expr} : PT X e (tWt X e) := ⟨fun pins s _ _ _ I h => h pins s I⟩
theorem pw_w {e : Expr} : PW X e (tWw X e) := ⟨fun w pins s _ _ _ I h => h w pins s I⟩
theorem pa_w {es : List Expr} : PA X es (tWa X es) := ⟨fun pos pins s _ _ _ I h => h pos pins s I⟩
theorem ps_w {st : Stmt} : PS X st (tWs X st) := ⟨fun pins s _ _ _ I h => h pins s I⟩
theorem pss_w {st : List Stmt} : PSs X st (tWss X st) := ⟨fun pins s _ _ _ I h => h pins s I⟩
theorem _root_.L2.PE.toZ {e : Expr} {t : TE} (h : PE X e t) {σ H Q} (q : t σ H Q) : tW X e σ H Q := fun pins s I => h.run pins s σ H Q I q
theorem _root_.L2.PT.toZ {e : Expr} {t : TT} (h : PT X e t) {σ H Q} (q : t σ H Q) : tWt X e σ H Q := fun pins s I => h.run pins s σ H Q I q
theorem _root_.L2.PW.toZ {e : Expr} {t : TT} (h : PW X e t) {σ H Q} (q : t σ H Q) : tWw X e σ H Q := fun w pins s I => h.run w pins s σ H Q I q
theorem _root_.L2.PA.toZ {es : List Expr} {t : TA} (h : PA X es t) {σ H Q} (q : t σ H Q) : tWa X es σ H Q := fun pos pins s I => h.run pos pins s σ H Q I q
theorem _root_.L2.PS.toZ {st : Stmt} {t : TS} (h : PS X st t) {D σ H} (q : t D σ H) : tWs X st D σ H := fun pins s I => h.run pins s σ H D I q
theorem _root_.L2.PSs.toZ {st : List Stmt} {t : TS} (h : PSs X st t) {D σ H} (q : t D σ H) : tWss X st D σ H := fun pins s I => h.run pins s σ H D I q
end

/-- an expression: from the frame ρ it gives some data d of which R holds, nothing else has changed -/
structure Ev (X : Cx) (W : Wd) (e : Expr) (ρ : List Sl) (R : PyData → Prop) : Prop where
  run : ∀ (σ : L2.St) (H B : Hp) (Q : VK), Lay X.K W B H σ ρ → (∀ v H' B' d, Same B B' → Lay X.K W B' H' σ ρ → Dq X.K B' v d → R d → Q v H') → tW X e σ H Q
/-- .. that gives a fresh list, of this frame's own -/
structure El (X : Cx) (W : Wd) (e : Expr) (ρ : List Sl) (R : List PyData → Prop) : Prop where
  run : ∀ (σ : L2.St) (H B : Hp) (Q : VK), Lay X.K W B H σ ρ →
    (∀ a vs H' B' ds, Same B B' → Lay X.K W B' H' σ ρ → B' a = none → W.H0 a = none → (∀ (i : Nat) (sl : Sl), ρ[i]? = some sl → sl.ow = true → σ[i]? ≠ some (some (.ref a))) → H' a = some (.lst vs) → DqAll X.K B' vs ds → R ds → Q (.ref a) H') → tW X e σ H Q
/-- a test -/
structure Et (X : Cx) (W : Wd) (e : Expr) (ρ : List Sl) (R : Bool → Prop) : Prop where
  run : ∀ (σ : L2.St) (H B : Hp) (Q : Bool → Hp → Prop), Lay X.K W B H σ ρ → (∀ b H' B', Same B B' → Lay X.K W B' H' σ ρ → R b → Q b H') → tWt X e σ H Q
structure Ew (X : Cx) (W : Wd) (e : Expr) (ρ : List Sl) (R : Bool → Prop) : Prop where
  run : ∀ (σ : L2.St) (H B : Hp) (Q : Bool → Hp → Prop), Lay X.K W B H σ ρ → (∀ b H' B', Same B B' → Lay X.K W B' H' σ ρ → R b → Q b H') → tWw X e σ H Q
/-- arguments -/
structure Ea (X : Cx) (W : Wd) (es : List Expr) (ρ : List Sl) (R : List PyData → Prop) : Prop where
  run : ∀ (σ : L2.St) (H B : Hp) (Q : List V → Hp → Prop), Lay X.K W B H σ ρ → (∀ vs H' B' ds, Same B B' → Lay X.K W B' H' σ ρ → DqAll X.K B' vs ds → R ds → Q vs H') → tWa X es σ H Q
/-- what is wanted behind a statement -/
structure Dz where
  nx : List Sl → Prop
  rt : PyData → Prop
  bk : List Sl → Prop := fun _ => False
  ct : List Sl → Prop := fun _ => False
def De (K : PySem.W.Frag) (W : Wd) (B0 : Hp) (D : Dz) : Ends where
  nx := fun σ H => ∃ B ρ, Same B0 B ∧ Lay K W B H σ ρ ∧ D.nx ρ
  rt := fun v H => ∃ B d, Gr K W B H ∧ Dq K B v d ∧ D.rt d
  bk := fun σ H => ∃ B ρ, Same B0 B ∧ Lay K W B H σ ρ ∧ D.bk ρ
  ct := fun σ H => ∃ B ρ, Same B0 B ∧ Lay K W B H σ ρ ∧ D.ct ρ
structure Es (X : Cx) (W : Wd) (st : Stmt) (ρ : List Sl) (D : Dz) : Prop where
  run : ∀ (σ : L2.St) (H B : Hp), Lay X.K W B H σ ρ → tWs X st (De X.K W B D) σ H
structure Ess (X : Cx) (W : Wd) (st : List Stmt) (ρ : List Sl) (D : Dz) : Prop where
  run : ∀ (σ : L2.St) (H B : Hp), Lay X.K W B H σ ρ → tWss X st (De X.K W B D) σ H
section
variable {X : Cx} {W : Wd} {B B' H : Hp} {σ : L2.St} {D : Dz}
theorem SP.back (s : Same B B') {pins : List (Addr × Obj)} {f : Flow} {s' : Shared} (h : SP X pins (De X.K W B' D) f s') : SP X pins (De X.K W B D) f s' := by
  cases f with
  | next => obtain ⟨σ', H', I', B2, ρ', s2, q⟩ := h; exact ⟨σ', H', I', B2, ρ', s.trans s2, q⟩
  | brk => obtain ⟨σ', H', I', B2, ρ', s2, q⟩ := h; exact ⟨σ', H', I', B2, ρ', s.trans s2, q⟩
  | cont => obtain ⟨σ', H', I', B2, ρ', s2, q⟩ := h; exact ⟨σ', H', I', B2, ρ', s.trans s2, q⟩
  | ret u => exact h
theorem tWs.back (s : Same B B') {st : Stmt} (h : tWs X st (De X.K W B' D) σ H) : tWs X st (De X.K W B D) σ H := fun pins s0 I => thn (h pins s0 I) fun _ _ q => SP.back s q
theorem tWss.back (s : Same B B') {st : List Stmt} (h : tWss X st (De X.K W B' D) σ H) : tWss X st (De X.K W B D) σ H := fun pins s0 I => thn (h pins s0 I) fun _ _ q => SP.back s q
end
end Z

namespace Z
open PySem PySem.Spec PyProof.Rows L2
section
variable {X : Cx} {W : Wd} {ρ : List Sl} {R : PyData → Prop} {pos : Pos} {a b c e : Expr} {es : List Expr}

/-! ### what is read as a test or value -/
theorem Ev.imp {R' : PyData → Prop} (h : Ev X W e ρ R) (k : ∀ d, R d → R' d) : Ev X W e ρ R' := ⟨fun σ H B Q L q => h.run σ H B Q L fun v H' B' d s L' D r => q v H' B' d s L' D (k d r)⟩
theorem Et.imp {R R' : Bool → Prop} (h : Et X W e ρ R) (k : ∀ d, R d → R' d) : Et X W e ρ R' := ⟨fun σ H B Q L q => h.run σ H B Q L fun v H' B' s L' r => q v H' B' s L' (k v r)⟩
theorem Ess.imp {st : List Stmt} {D D' : Dz} (h : Ess X W st ρ D) (h1 : ∀ r, D.nx r → D'.nx r) (h2 : ∀ d, D.rt d → D'.rt d) (h3 : ∀ r, D.bk r → D'.bk r) (h4 : ∀ r, D.ct r → D'.ct r) : Ess X W st ρ D' := by
  refine ⟨fun σ H B L pins s I => ?_⟩
  refine thn (h.run σ H B L pins s I) fun f s' q => ?_
  cases f with
  | next => obtain ⟨σ', H', I', B', ρ', s0, L', q⟩ := q; exact ⟨σ', H', I', B', ρ', s0, L', h1 _ q⟩
  | brk => obtain ⟨σ', H', I', B', ρ', s0, L', q⟩ := q; exact ⟨σ', H', I', B', ρ', s0, L', h3 _ q⟩
  | cont => obtain ⟨σ', H', I', B', ρ', s0, L', q⟩ := q; exact ⟨σ', H', I', B', ρ', s0, L', h4 _ q⟩
  | ret u => obtain ⟨v, σ', H', I', r, B', d, g, D1, q⟩ := q; exact ⟨v, σ', H', I', r, B', d, g, D1, h2 _ q⟩

/-! ### names and constants -/
theorem ev_name (i : Nat) {x : Str} {d : PyData} (hρ : ρ[i]? = some (.im d)) (h : R d) (hN : X.N[i]? = some x := by rfl) (hv : Vis X.env.scope x := by first | exact Or.inl rfl | exact Or.inr (Or.inl rfl) | exact Or.inr (Or.inr rfl))
    (hd : (x == ("__debug__" : Str)) = false := by decide) (hcd : (x == ("__classdict__" : Str)) = false := by decide) : Ev X W (.Name x pos) ρ R := by
  refine ⟨fun σ H B Q L k => (pe_var hN hv hd hcd).toZ ?_⟩
  obtain ⟨v, h1, h2⟩ := L.at' i _ hρ
  exact ⟨v, h1, k v H B d (Same.refl _) L h2 h⟩
theorem ev_int {i j} (h : R (.int i)) : Ev X W (.Constant (.int i) j pos) ρ R := ⟨fun _ H B _ L k => pe_int.toZ (k _ H B _ (Same.refl _) L (.int i) h)⟩
theorem ev_bool {i j} (h : R (.bool i)) : Ev X W (.Constant (.bool i) j pos) ρ R := ⟨fun _ H B _ L k => pe_bl.toZ (k _ H B _ (Same.refl _) L (.bl i) h)⟩
theorem ev_none {j} (h : R .none) : Ev X W (.Constant .none j pos) ρ R := ⟨fun _ H B _ L k => pe_non.toZ (k _ H B _ (Same.refl _) L .non h)⟩
theorem ev_str {x j} (h : R (.str x)) : Ev X W (.Constant (.str x) j pos) ρ R := ⟨fun _ H B _ L k => pe_str.toZ (k _ H B _ (Same.refl _) L (.str x) h)⟩
/-- a constant of a module -/
theorem ev_glob {x : Str} {i : Int} (hm : ∃ t, X.mg x = some (.int i t)) (h : R (.int i)) (hg : Gl X x := by rfl) (hd : (x == ("__debug__" : Str)) = false := by decide) : Ev X W (.Name x pos) ρ R := by
  obtain ⟨t, hm⟩ := hm
  exact ⟨fun _ H B _ L k => (pe_glob hg hm (v := .int i) ⟨t, rfl⟩ hd).toZ (k _ H B _ (Same.refl _) L (.int i) h)⟩

/-! ### operators -/
/-- an operator on data: what it asks -/
def OpZ (X : Cx) (f : Value → Value → Sem Value) (rr : PyData → PyData → (PyData → Prop) → Prop) : Prop :=
  ∃ r : R2, OpR X f r ∧ ∀ (W : Wd) (σ : L2.St) (ρ : List Sl) (H B : Hp) (v u : V) (d e : PyData) (R : PyData → Prop) (Q : VK), Lay X.K W B H σ ρ → Dq X.K B v d → Dq X.K B u e → rr d e R →
    (∀ w H' B' d', Same B B' → Lay X.K W B' H' σ ρ → Dq X.K B' w d' → R d' → Q w H') → r v u H Q
theorem ev_bin {op : Operator} {rr : PyData → PyData → (PyData → Prop) → Prop} (ho : OpZ X (binaryOp op) rr) (h : Ev X W a ρ fun x => Ev X W b ρ fun y => rr x y R) : Ev X W (.BinOp a op b pos) ρ R := by
  obtain ⟨r, ho, hr⟩ := ho
  refine ⟨fun σ H B Q L k => (pe_op ho pe_w pe_w).toZ ?_⟩
  refine h.run σ H B _ L fun v H1 B1 d s1 L1 D1 h2 => ?_
  refine h2.run σ H1 B1 _ L1 fun u H2 B2 d' s2 L2 D2 h3 => ?_
  exact hr W σ ρ H2 B2 v u d d' R Q L2 (dpMono s2 _ _ D1) D2 h3 fun w H' B' x s L' D' r => k w H' B' x ((s1.trans s2).trans s) L' D' r
theorem ev_cmp {op : CmpOp} {rr : PyData → PyData → (PyData → Prop) → Prop} (ho : OpZ X (compareOp op) rr) (h : Ev X W a ρ fun x => Ev X W b ρ fun y => rr x y R) (hm : behindInMarks op b = false := by first | exact nomark _ | rfl) : Ev X W (.Compare a [op] [b] pos) ρ R := by
  obtain ⟨r, ho, hr⟩ := ho
  refine ⟨fun σ H B Q L k => (pe_cmpR ho pe_w pe_w hm).toZ ?_⟩
  refine h.run σ H B _ L fun v H1 B1 d s1 L1 D1 h2 => ?_
  refine h2.run σ H1 B1 _ L1 fun u H2 B2 d' s2 L2 D2 h3 => ?_
  exact hr W σ ρ H2 B2 v u d d' R Q L2 (dpMono s2 _ _ D1) D2 h3 fun w H' B' x s L' D' r => k w H' B' x ((s1.trans s2).trans s) L' D' r
/-- a bool's test -/
@[reducible] def tst (R : Bool → Prop) : PyData → Prop
  | .bool b => R b
  | _ => False
theorem et_cmp {op : CmpOp} {R : Bool → Prop} {rr : PyData → PyData → (PyData → Prop) → Prop} (ho : OpZ X (compareOp op) rr) (h : Ev X W a ρ fun x => Ev X W b ρ fun y => rr x y (tst R)) (hm : behindInMarks op b = false := by first | exact nomark _ | rfl) : Et X W (.Compare a [op] [b] pos) ρ R := by
  obtain ⟨r, ho, hr⟩ := ho
  refine ⟨fun σ H B Q L k => (pt_cmpR ho pe_w pe_w hm).toZ ?_⟩
  refine h.run σ H B _ L fun v H1 B1 d s1 L1 D1 h2 => ?_
  refine h2.run σ H1 B1 _ L1 fun u H2 B2 d' s2 L2 D2 h3 => ?_
  refine hr W σ ρ H2 B2 v u d d' _ _ L2 (dpMono s2 _ _ D1) D2 h3 fun w H' B' x s L' D' r => ?_
  cases x with
  | bool b => exact ⟨b, dp_bool D', k b H' B' ((s1.trans s2).trans s) L' r⟩
  | none => exact r.elim
  | int _ => exact r.elim
  | str _ => exact r.elim
  | list _ => exact r.elim
  | tuple _ => exact r.elim
  | dict _ => exact r.elim
/-- an expression whose value is a bool, as a test -/
theorem et_val {R : Bool → Prop} (h : Ev X W e ρ (tst R)) (he : ∀ whole, isTrue e X.env whole = (do let v ← whole; standAt e.pos; holding [v] (truthy v)) := by intro _; rfl) : Et X W e ρ R := by
  refine ⟨fun σ H B Q L k => (pt_val pe_w he).toZ ?_⟩
  refine h.run σ H B _ L fun v H1 B1 d s1 L1 D1 h2 => ?_
  cases d with
  | bool b => exact ⟨b, dp_bool D1, k b H1 B1 s1 L1 h2⟩
  | none => exact h2.elim
  | int _ => exact h2.elim
  | str _ => exact h2.elim
  | list _ => exact h2.elim
  | tuple _ => exact h2.elim
  | dict _ => exact h2.elim
/-! ints -/
@[reducible] def rI2 (C : Int → Int → Prop) (g : Int → Int → PyData) : PyData → PyData → (PyData → Prop) → Prop
  | .int i, .int j, R => C i j ∧ R (g i j)
  | _, _, _ => False
@[reducible] def rI1 (g : Int → Int → PyData) : PyData → PyData → (PyData → Prop) → Prop
  | .int i, .int j, R => R (g i j)
  | _, _, _ => False
theorem ozI {f : Value → Value → Sem Value} {C : Int → Int → Prop} {g : Int → Int → Int} (h : OpR X f (rI C fun i j => .int (g i j))) : OpZ X f (rI2 C fun i j => .int (g i j)) := by
  refine ⟨_, h, fun W σ ρ H B v u d e R Q L D1 D2 r k => ?_⟩
  cases d <;> cases e <;> first | exact r.elim | skip
  rename_i i j
  exact ⟨i, j, dp_int D1, dp_int D2, r.1, k _ H B _ (Same.refl _) L (.int _) r.2⟩
theorem ozI0 {f : Value → Value → Sem Value} {g : Int → Int → Int} (h : OpR X f (rI0 fun i j => .int (g i j))) : OpZ X f (rI1 fun i j => .int (g i j)) := by
  refine ⟨_, h, fun W σ ρ H B v u d e R Q L D1 D2 r k => ?_⟩
  cases d <;> cases e <;> first | exact r.elim | skip
  rename_i i j
  exact ⟨i, j, dp_int D1, dp_int D2, k _ H B _ (Same.refl _) L (.int _) r⟩
theorem ozB0 {f : Value → Value → Sem Value} {g : Int → Int → Bool} (h : OpR X f (rI0 fun i j => .bl (g i j))) : OpZ X f (rI1 fun i j => .bool (g i j)) := by
  refine ⟨_, h, fun W σ ρ H B v u d e R Q L D1 D2 r k => ?_⟩
  cases d <;> cases e <;> first | exact r.elim | skip
  rename_i i j
  exact ⟨i, j, dp_int D1, dp_int D2, k _ H B _ (Same.refl _) L (.bl _) r⟩
theorem oz_sub : OpZ X (binaryOp .Sub) (rI1 fun i j => .int (i - j)) := ozI0 op_sub
theorem oz_mul : OpZ X (binaryOp .Mult) (rI2 CMul fun i j => .int (i * j)) := ozI op_mul
theorem oz_mulW : OpZ X (binaryOp .Mult) (rI2 CMulW fun i j => .int (i * j)) := ozI op_mulW
theorem oz_div : OpZ X (binaryOp .FloorDiv) (rI2 CDivW fun i j => .int (i / j)) := ozI op_fdivW
theorem oz_mod : OpZ X (binaryOp .Mod) (rI2 (fun _ j => 0 < j) fun i j => .int (i % j)) := ozI op_mod
theorem oz_pow : OpZ X (binaryOp .Pow) (rI2 CPow fun i j => .int (i ^ j.toNat)) := ozI op_pow
theorem oz_lt : OpZ X (compareOp .Lt) (rI1 fun i j => .bool (decide (i < j))) := ozB0 op_lt
theorem oz_le : OpZ X (compareOp .LtE) (rI1 fun i j => .bool (decide (i ≤ j))) := ozB0 op_le
theorem oz_gt : OpZ X (compareOp .Gt) (rI1 fun i j => .bool (decide (j < i))) := ozB0 op_gt
theorem oz_ge : OpZ X (compareOp .GtE) (rI1 fun i j => .bool (decide (j ≤ i))) := ozB0 op_ge
theorem oz_iadd : OpZ X (inplaceOp .Add) (rI1 fun i j => .int (i + j)) := ozI0 iop_add
/-- + of ints, tuples, lists, texts -/
@[reducible] def rAdd : PyData → PyData → (PyData → Prop) → Prop
  | .int i, .int j, R => R (.int (i + j))
  | .tuple xs, .tuple ys, R => xs.length + ys.length ≤ sizeLine ∧ R (.tuple (xs ++ ys))
  | .list xs, .list ys, R => xs.length + ys.length ≤ sizeLine ∧ R (.list (xs ++ ys))
  | .str x, .str y, R => x.length + y.length ≤ sizeLine ∧ R (.str (x ++ y))
  | _, _, _ => False
theorem oz_add : OpZ X (binaryOp .Add) rAdd := by
  refine ⟨_, OpR.or op_add (OpR.or op_catA (OpR.or op_cat op_add_str)), fun W σ ρ H B v u d e R Q L D1 D2 r k => ?_⟩
  cases d <;> cases e <;> first | exact r.elim | skip
  · rename_i i j
    exact .inl ⟨i, j, dp_int D1, dp_int D2, k _ H B _ (Same.refl _) L (.int _) r⟩
  · rename_i x y
    exact .inr (.inr (.inr ⟨x, y, dp_str D1, dp_str D2, r.1, k _ H B _ (Same.refl _) L (.str _) r.2⟩))
  · rename_i xs ys
    obtain ⟨p, vs, rfl, h1, h2⟩ := dp_list D1
    obtain ⟨q, us, rfl, h3, h4⟩ := dp_list D2
    refine .inr (.inr (.inl ⟨p, q, vs, us, rfl, rfl, L.gr.sub _ _ h1, L.gr.sub _ _ h3, by rw [dpAll_len h2, dpAll_len h4]; exact r.1, fun t ht => ?_⟩))
    obtain ⟨s, L'⟩ := L.fresh ht (.lst (vs ++ us))
    exact k _ _ _ _ s L' (.lst upd_same (dpAll_app (dpAllMono s _ _ h2) (dpAllMono s _ _ h4))) r.2
  · rename_i xs ys
    obtain ⟨p, vs, rfl, h1, h2⟩ := dp_tup D1
    obtain ⟨q, us, rfl, h3, h4⟩ := dp_tup D2
    refine .inr (.inl ⟨p, q, vs, us, rfl, rfl, seqT L.gr.sub h1, seqT L.gr.sub h3, by rw [dpAll_len h2, dpAll_len h4]; exact r.1, fun z => ?_, fun _ z => ?_, fun _ _ t ht => ?_⟩)
    · subst z
      cases h2
      exact k _ H B _ (Same.refl _) L D2 r.2
    · subst z
      cases h4
      have r2 := r.2
      rw [List.append_nil] at r2
      exact k _ H B _ (Same.refl _) L D1 r2
    · obtain ⟨s, L'⟩ := L.fresh ht (.tup (vs ++ us))
      exact k _ _ _ _ s L' (.tup (SqT.of upd_same) (dpAll_app (dpAllMono s _ _ h2) (dpAllMono s _ _ h4))) r.2
/-- == and != of any data -/
@[reducible] def rEqZ : PyData → PyData → (PyData → Prop) → Prop := fun d e R => SeqAt.shaped d = true ∧ SeqAt.shaped e = true ∧ R (.bool (PyData.eqv d e))
@[reducible] def rNeZ : PyData → PyData → (PyData → Prop) → Prop := fun d e R => SeqAt.shaped d = true ∧ SeqAt.shaped e = true ∧ R (.bool (!PyData.eqv d e))
theorem oz_eqD (hu : X.A.units + 64 < cLine) : OpZ X (compareOp .Eq) rEqZ := by
  refine ⟨_, op_eqD hu, fun W σ ρ H B v u d e R Q L D1 D2 r k => ?_⟩
  exact ⟨d, e, dqDp _ _ (dpMono L.gr.sub _ _ D1), dqDp _ _ (dpMono L.gr.sub _ _ D2), r.1, r.2.1, k _ H B _ (Same.refl _) L (.bl _) r.2.2⟩
theorem oz_neD (hu : X.A.units + 64 < cLine) : OpZ X (compareOp .NotEq) rNeZ := by
  refine ⟨_, op_neD hu, fun W σ ρ H B v u d e R Q L D1 D2 r k => ?_⟩
  exact ⟨d, e, dqDp _ _ (dpMono L.gr.sub _ _ D1), dqDp _ _ (dpMono L.gr.sub _ _ D2), r.1, r.2.1, k _ H B _ (Same.refl _) L (.bl _) r.2.2⟩
/-- == and != of ints -/
theorem oz_eq : OpZ X (compareOp .Eq) (rI1 fun i j => .bool (decide (i = j))) := by
  refine ⟨_, op_eq, fun W σ ρ H B v u d e R Q L D1 D2 r k => ?_⟩
  cases d <;> cases e <;> first | exact r.elim | skip
  rename_i i j
  cases dp_int D1
  cases dp_int D2
  refine ⟨rfl, ?_⟩
  have e1 : decide (V.int i = V.int j) = decide (i = j) := by
    by_cases h : i = j
    · subst h; simp
    · rw [decide_eq_false h, decide_eq_false fun q => h (V.int.inj q)]
  rw [e1]
  exact k _ H B _ (Same.refl _) L (.bl _) r
theorem oz_ne : OpZ X (compareOp .NotEq) (rI1 fun i j => .bool (!decide (i = j))) := by
  refine ⟨_, op_ne, fun W σ ρ H B v u d e R Q L D1 D2 r k => ?_⟩
  cases d <;> cases e <;> first | exact r.elim | skip
  rename_i i j
  cases dp_int D1
  cases dp_int D2
  refine ⟨rfl, ?_⟩
  have e1 : decide (V.int i = V.int j) = decide (i = j) := by
    by_cases h : i = j
    · subst h; simp
    · rw [decide_eq_false h, decide_eq_false fun q => h (V.int.inj q)]
  rw [e1]
  exact k _ H B _ (Same.refl _) L (.bl _) r
/-- in, not in a list -/
@[reducible] def rInZ : PyData → PyData → (PyData → Prop) → Prop
  | d, .list ds, R => SeqAt.shaped d = true ∧ SeqAt.shaped (.list ds) = true ∧ R (.bool (ds.any fun z => PyData.eqv z d))
  | _, _, _ => False
@[reducible] def rNotInZ : PyData → PyData → (PyData → Prop) → Prop
  | d, .list ds, R => SeqAt.shaped d = true ∧ SeqAt.shaped (.list ds) = true ∧ R (.bool (!ds.any fun z => PyData.eqv z d))
  | _, _, _ => False
theorem oz_in (hu : X.A.units + 65 < cLine) : OpZ X (compareOp .In) rInZ := by
  refine ⟨_, op_inD hu, fun W σ ρ H B v u d e R Q L D1 D2 r k => ?_⟩
  cases e <;> first | exact r.elim | skip
  exact ⟨d, _, dqDp _ _ (dpMono L.gr.sub _ _ D1), dqDp _ _ (dpMono L.gr.sub _ _ D2), r.1, r.2.1, k _ H B _ (Same.refl _) L (.bl _) r.2.2⟩
theorem oz_notIn (hu : X.A.units + 65 < cLine) : OpZ X (compareOp .NotIn) rNotInZ := by
  refine ⟨_, op_notInD hu, fun W σ ρ H B v u d e R Q L D1 D2 r k => ?_⟩
  cases e <;> first | exact r.elim | skip
  exact ⟨d, _, dqDp _ _ (dpMono L.gr.sub _ _ D1), dqDp _ _ (dpMono L.gr.sub _ _ D2), r.1, r.2.1, k _ H B _ (Same.refl _) L (.bl _) r.2.2⟩
/-- a < b < c: both ints' comparisons -/
theorem ev_chain {op op' : CmpOp} {rr rr' : PyData → PyData → (PyData → Prop) → Prop} (ho : OpZ X (compareOp op) rr) (ho' : OpZ X (compareOp op') rr')
    (h : Ev X W a ρ fun x => Ev X W b ρ fun y => rr x y (tst fun k => (k = true → Ev X W c ρ fun z => rr' y z R) ∧ (k = false → R (.bool false)))) (hm : lastMarks [op, op'] [b, c] = false := by with_unfolding_all rfl) : Ev X W (.Compare a [op, op'] [b, c] pos) ρ R := by
  obtain ⟨r, ho, hr⟩ := ho
  obtain ⟨r', ho', hr'⟩ := ho'
  refine ⟨fun σ H B Q L k => (pe_chain ho ho' pe_w pe_w pe_w hm).toZ ?_⟩
  refine h.run σ H B _ L fun v H1 B1 d s1 L1 D1 h2 => ?_
  refine h2.run σ H1 B1 _ L1 fun u H2 B2 d' s2 L2 D2 h3 => ?_
  refine hr W σ ρ H2 B2 v u d d' _ _ L2 (dpMono s2 _ _ D1) D2 h3 fun w H' B' x s L' D' q => ?_
  cases x <;> first | exact q.elim | skip
  rename_i kk
  refine ⟨kk, dp_bool D', ?_⟩
  cases kk with
  | true =>
    rw [if_pos rfl]
    refine (q.1 rfl).run σ H' B' _ L' fun w3 H3 B3 d3 s3 L3 D3 h4 => ?_
    exact hr' W σ ρ H3 B3 u w3 d' d3 R Q L3 (dpMono (s.trans s3) _ _ D2) D3 h4 fun w H'' B'' x s4 L'' D'' r => k w H'' B'' x ((((s1.trans s2).trans s).trans s3).trans s4) L'' D'' r
  | false =>
    rw [if_neg Bool.false_ne_true]
    exact k _ H' B' _ ((s1.trans s2).trans s) L' (.bl false) (q.2 rfl)
theorem ev_neg (h : Ev X W a ρ fun d => match d with | .int i => R (.int (-i)) | _ => False) : Ev X W (.UnaryOp .USub a pos) ρ R := by
  refine ⟨fun σ H B Q L k => (pe_un un_neg pe_w).toZ ?_⟩
  refine h.run σ H B _ L fun v H1 B1 d s1 L1 D1 h2 => ?_
  cases d <;> first | exact h2.elim | skip
  exact ⟨_, dp_int D1, k _ H1 B1 _ s1 L1 (.int _) h2⟩
/-- is None, is not None -/
def isNn : PyData → Bool
  | .none => true
  | _ => false
theorem isNn_v {K : PySem.W.Frag} {B : Hp} {v : V} {d : PyData} (h : Dq K B v d) : decide (v = .non) = isNn d := by
  cases h <;> first | rfl | simp [isNn]
theorem ev_isN {j pos'} (h : Ev X W a ρ fun d => R (.bool (isNn d))) : Ev X W (.Compare a [.Is] [.Constant .none j pos'] pos) ρ R := by
  refine ⟨fun σ H B Q L k => (pe_cmp (pc_isN pe_w)).toZ ?_⟩
  refine h.run σ H B _ L fun v H1 B1 d s1 L1 D1 h2 => ?_
  show Q (.bl (decide (v = .non))) H1
  rw [isNn_v D1]
  exact k _ H1 B1 _ s1 L1 (.bl _) h2
theorem ev_notN {j pos'} (h : Ev X W a ρ fun d => R (.bool (!isNn d))) : Ev X W (.Compare a [.IsNot] [.Constant .none j pos'] pos) ρ R := by
  refine ⟨fun σ H B Q L k => (pe_cmp (pc_notN pe_w)).toZ ?_⟩
  refine h.run σ H B _ L fun v H1 B1 d s1 L1 D1 h2 => ?_
  show Q (.bl (!decide (v = .non))) H1
  rw [isNn_v D1]
  exact k _ H1 B1 _ s1 L1 (.bl _) h2
theorem et_isN {R : Bool → Prop} {j pos'} (h : Ev X W a ρ fun d => R (isNn d)) : Et X W (.Compare a [.Is] [.Constant .none j pos'] pos) ρ R := by
  refine ⟨fun σ H B Q L k => (pt_cmp (pc_isN pe_w)).toZ ?_⟩
  refine h.run σ H B _ L fun v H1 B1 d s1 L1 D1 h2 => ?_
  show ∃ c, V.bl (decide (v = .non)) = .bl c ∧ Q c H1
  rw [isNn_v D1]
  exact ⟨_, rfl, k _ H1 B1 s1 L1 h2⟩
theorem et_notN {R : Bool → Prop} {j pos'} (h : Ev X W a ρ fun d => R (!isNn d)) : Et X W (.Compare a [.IsNot] [.Constant .none j pos'] pos) ρ R := by
  refine ⟨fun σ H B Q L k => (pt_cmp (pc_notN pe_w)).toZ ?_⟩
  refine h.run σ H B _ L fun v H1 B1 d s1 L1 D1 h2 => ?_
  show ∃ c, V.bl (!decide (v = .non)) = .bl c ∧ Q c H1
  rw [isNn_v D1]
  exact ⟨_, rfl, k _ H1 B1 s1 L1 h2⟩

/-! ### and, or, not, if -/
theorem ev_and {rest : List Expr} (h : Ev X W a ρ (tst fun k => (k = true → Ev X W (.BoolOp .And (b :: rest) pos) ρ R) ∧ (k = false → R (.bool false)))) : Ev X W (.BoolOp .And (a :: b :: rest) pos) ρ R := by
  refine ⟨fun σ H B Q L k => (pe_and pe_w pe_w).toZ ?_⟩
  refine h.run σ H B _ L fun v H1 B1 d s1 L1 D1 h2 => ?_
  cases d <;> first | exact h2.elim | skip
  rename_i kk
  refine ⟨kk, dp_bool D1, ?_⟩
  cases kk with
  | true =>
    rw [if_pos rfl]
    exact (h2.1 rfl).run σ H1 B1 _ L1 fun v H' B' d s L' D r => k v H' B' d (s1.trans s) L' D r
  | false =>
    rw [if_neg Bool.false_ne_true]
    exact k _ H1 B1 _ s1 L1 (.bl false) (h2.2 rfl)
theorem ev_or {rest : List Expr} (h : Ev X W a ρ (tst fun k => (k = true → R (.bool true)) ∧ (k = false → Ev X W (.BoolOp .Or (b :: rest) pos) ρ R))) : Ev X W (.BoolOp .Or (a :: b :: rest) pos) ρ R := by
  refine ⟨fun σ H B Q L k => (pe_or pe_w pe_w).toZ ?_⟩
  refine h.run σ H B _ L fun v H1 B1 d s1 L1 D1 h2 => ?_
  cases d <;> first | exact h2.elim | skip
  rename_i kk
  refine ⟨kk, dp_bool D1, ?_⟩
  cases kk with
  | true =>
    rw [if_pos rfl]
    exact k _ H1 B1 _ s1 L1 (.bl true) (h2.1 rfl)
  | false =>
    rw [if_neg Bool.false_ne_true]
    exact (h2.2 rfl).run σ H1 B1 _ L1 fun v H' B' d s L' D r => k v H' B' d (s1.trans s) L' D r
theorem ev_one {op} (h : Ev X W a ρ R) : Ev X W (.BoolOp op [a] pos) ρ R := ⟨fun σ H B Q L k => (pe_one pe_w).toZ (h.run σ H B Q L k)⟩
theorem ev_not (h : Ev X W a ρ (tst fun k => R (.bool (!k)))) : Ev X W (.UnaryOp .Not a pos) ρ R := by
  refine ⟨fun σ H B Q L k => (pe_not pe_w).toZ ?_⟩
  refine h.run σ H B _ L fun v H1 B1 d s1 L1 D1 h2 => ?_
  cases d <;> first | exact h2.elim | skip
  exact ⟨_, dp_bool D1, k _ H1 B1 _ s1 L1 (.bl _) h2⟩
theorem ew_and {R : Bool → Prop} {rest : List Expr} (h : Et X W a ρ fun k => (k = true → Ew X W (.BoolOp .And (b :: rest) pos) ρ R) ∧ (k = false → R false)) : Ew X W (.BoolOp .And (a :: b :: rest) pos) ρ R := by
  refine ⟨fun σ H B Q L k => (pw_and pt_w pw_w).toZ ?_⟩
  refine h.run σ H B _ L fun kk H1 B1 s1 L1 h2 => ?_
  cases kk with
  | true =>
    rw [if_pos rfl]
    exact (h2.1 rfl).run σ H1 B1 _ L1 fun v H' B' s L' r => k v H' B' (s1.trans s) L' r
  | false =>
    rw [if_neg Bool.false_ne_true]
    exact k _ H1 B1 s1 L1 (h2.2 rfl)
theorem ew_or {R : Bool → Prop} {rest : List Expr} (h : Et X W a ρ fun k => (k = true → R true) ∧ (k = false → Ew X W (.BoolOp .Or (b :: rest) pos) ρ R)) : Ew X W (.BoolOp .Or (a :: b :: rest) pos) ρ R := by
  refine ⟨fun σ H B Q L k => (pw_or pt_w pw_w).toZ ?_⟩
  refine h.run σ H B _ L fun kk H1 B1 s1 L1 h2 => ?_
  cases kk with
  | true =>
    rw [if_pos rfl]
    exact k _ H1 B1 s1 L1 (h2.1 rfl)
  | false =>
    rw [if_neg Bool.false_ne_true]
    exact (h2.2 rfl).run σ H1 B1 _ L1 fun v H' B' s L' r => k v H' B' (s1.trans s) L' r
theorem ew_and1 {R : Bool → Prop} (h : Et X W a ρ R) : Ew X W (.BoolOp .And [a] pos) ρ R := ⟨fun σ H B Q L k => (pw_and1 pt_w).toZ (h.run σ H B Q L k)⟩
theorem ew_or1 {R : Bool → Prop} (h : Et X W a ρ R) : Ew X W (.BoolOp .Or [a] pos) ρ R := ⟨fun σ H B Q L k => (pw_or1 pt_w).toZ (h.run σ H B Q L k)⟩
theorem et_ew {R : Bool → Prop} (h : Ew X W e ρ R) : Et X W e ρ R := ⟨fun σ H B Q L k => (PW.pt pw_w).toZ (h.run σ H B Q L k)⟩
theorem et_not {R : Bool → Prop} (h : Et X W a ρ fun k => R (!k)) : Et X W (.UnaryOp .Not a pos) ρ R := by
  refine ⟨fun σ H B Q L k => (pt_not pt_w).toZ ?_⟩
  exact h.run σ H B _ L fun kk H1 B1 s1 L1 h2 => k _ H1 B1 s1 L1 h2
theorem ev_if (h : Et X W c ρ fun k => (k = true → Ev X W a ρ R) ∧ (k = false → Ev X W b ρ R)) : Ev X W (.IfExp c a b pos) ρ R := by
  refine ⟨fun σ H B Q L k => (pe_ifExp pt_w pe_w pe_w).toZ ?_⟩
  refine h.run σ H B _ L fun kk H1 B1 s1 L1 h2 => ?_
  cases kk with
  | true =>
    rw [if_pos rfl]
    exact (h2.1 rfl).run σ H1 B1 _ L1 fun v H' B' d s L' D r => k v H' B' d (s1.trans s) L' D r
  | false =>
    rw [if_neg Bool.false_ne_true]
    exact (h2.2 rfl).run σ H1 B1 _ L1 fun v H' B' d s L' D r => k v H' B' d (s1.trans s) L' D r

/-! ### arguments, tuples, lists, subscripts -/
theorem ea_nil {R : List PyData → Prop} (h : R []) : Ea X W [] ρ R := ⟨fun σ H B Q L k => pa_nil.toZ (k [] H B [] (Same.refl _) L .nil h)⟩
theorem ea_cons {R : List PyData → Prop} (h : Ev X W e ρ fun d => Ea X W es ρ fun ds => R (d :: ds)) (hs : starEach (e :: es) X.env = (false, eval e X.env) :: starEach es X.env := by rfl) : Ea X W (e :: es) ρ R := by
  refine ⟨fun σ H B Q L k => (pa_cons pe_w pa_w hs).toZ ?_⟩
  refine h.run σ H B _ L fun v H1 B1 d s1 L1 D1 h2 => ?_
  refine h2.run σ H1 B1 _ L1 fun vs H2 B2 ds s2 L2 D2 h3 => ?_
  exact k _ H2 B2 _ (s1.trans s2) L2 (.cons (dpMono s2 _ _ D1) D2) h3
theorem ev_tup {x1} (h : Ea X W es ρ fun ds => ds.length ≤ sizeLine ∧ R (.tuple ds)) : Ev X W (.Tuple es x1 pos) ρ R := by
  refine ⟨fun σ H B Q L k => (pe_tup pa_w).toZ ?_⟩
  refine h.run σ H B _ L fun vs H1 B1 ds s1 L1 D1 h2 => ⟨by rw [dpAll_len D1]; exact h2.1, fun p hp => ?_⟩
  obtain ⟨s, L'⟩ := L1.fresh hp (.tup vs)
  exact k _ _ _ _ (s1.trans s) L' (.tup (SqT.of upd_same) (dpAllMono s _ _ D1)) h2.2
/-- an item: at a place that is there -/
def atD (ds : List PyData) (i : Int) : Option PyData := atI ds i
theorem atI_dq {K : PySem.W.Frag} {B : Hp} {ds : List PyData} {vs : List V} (h : DqAll K B vs ds) {i : Int} {d : PyData} (e : atI ds i = some d) : ∃ v, atI vs i = some v ∧ Dq K B v d := by
  unfold atI at e ⊢
  rw [dpAll_len h]
  cases q : ixN ds.length i with
  | none => rw [q] at e; cases e
  | some j =>
    rw [q] at e
    exact dpAll_get h (show ds[j]? = some d from e)
@[reducible] def rIxZ : PyData → PyData → (PyData → Prop) → Prop
  | .tuple ds, .int i, R => ∃ d, atI ds i = some d ∧ R d
  | .list ds, .int i, R => ∃ d, atI ds i = some d ∧ R d
  | _, _, _ => False
theorem ev_ix (h : Ev X W a ρ fun x => Ev X W b ρ fun y => rIxZ x y R) (hs : PlainIx b := by exact fun _ _ => rfl) : Ev X W (.Subscript a b pos) ρ R := by
  refine ⟨fun σ H B Q L k => (pe_ix (IxR.or ix_tup ix_list) pe_w pe_w hs).toZ ?_⟩
  refine h.run σ H B _ L fun v H1 B1 d s1 L1 D1 h2 => ?_
  refine h2.run σ H1 B1 _ L1 fun u H2 B2 d' s2 L2 D2 h3 => ?_
  have D1' := dpMono s2 _ _ D1
  cases d <;> cases d' <;> first | exact h3.elim | skip
  · rename_i ds i
    obtain ⟨x, h4, h5⟩ := h3
    obtain ⟨p, vs, rfl, h6, h7⟩ := dp_list D1'
    obtain ⟨w, h8, h9⟩ := atI_dq h7 h4
    exact .inr ⟨p, vs, i, w, rfl, dp_int D2, SqL.of (L2.gr.sub _ _ h6), h8, k w H2 B2 x (s1.trans s2) L2 h9 h5⟩
  · rename_i ds i
    obtain ⟨x, h4, h5⟩ := h3
    obtain ⟨p, vs, rfl, h6, h7⟩ := dp_tup D1'
    obtain ⟨w, h8, h9⟩ := atI_dq h7 h4
    exact .inl ⟨p, vs, i, w, rfl, dp_int D2, seqT L2.gr.sub h6, h8, k w H2 B2 x (s1.trans s2) L2 h9 h5⟩
/-- an item of a list of the frame's own -/
theorem ev_ixOwn (i : Nat) {x : Str} {ds : List PyData} {px : Pos} (hρ : ρ[i]? = some (.own ds)) (h : Ev X W b ρ fun y => rIxZ (.list ds) y R) (hN : X.N[i]? = some x := by rfl) (hv : Vis X.env.scope x := by first | exact Or.inl rfl | exact Or.inr (Or.inl rfl) | exact Or.inr (Or.inr rfl))
    (hs : PlainIx b := by exact fun _ _ => rfl) (hd : (x == ("__debug__" : Str)) = false := by decide) (hcd : (x == ("__classdict__" : Str)) = false := by decide) : Ev X W (.Subscript (.Name x px) b pos) ρ R := by
  refine ⟨fun σ H B Q L k => (pe_ix ix_list (pe_var hN hv hd hcd) pe_w hs).toZ ?_⟩
  obtain ⟨p, vs, e1, e2, e3, e4, e5⟩ := L.at' i _ hρ
  refine ⟨.ref p, e1, ?_⟩
  refine h.run σ H B _ L fun u H2 B2 d' s2 L2 D2 h3 => ?_
  cases d' <;> first | exact h3.elim | skip
  rename_i j
  obtain ⟨y, h4, h5⟩ := h3
  obtain ⟨p', vs', f1, f2, f3, f4, f5⟩ := L2.at' i _ hρ
  rw [e1] at f1
  cases f1
  obtain ⟨w, h8, h9⟩ := atI_dq f5 h4
  exact ⟨p, vs', j, w, rfl, dp_int D2, SqL.of f4, h8, k w H2 B2 y s2 L2 h9 h5⟩

/-! ### calls -/
/-- a def's promise over data, no tape handed in -/
def Con (K : PySem.W.Frag) (P : List PyData → (PyData → Prop) → Prop) : Sp := fun vs H Q _ => ∃ B ds R, Same B H ∧ DqAll K B vs ds ∧ P ds R ∧ ∀ v H' B' d, Gr K ⟨none, (0, []), B, H⟩ B' H' → Dq K B' v d → R d → Q v H'
/-- .. the tape handed in first -/
def ConT (K : PySem.W.Frag) (P : List PyData → (PyData → Prop) → Prop) : Sp := fun vs H Q _ => ∃ B ds R T ns vs', vs = .ref T :: vs' ∧ Same B H ∧ Tape ns B H T ∧ DqAll K B vs' ds ∧ P ds R ∧ ∀ v H' B' d, Gr K ⟨some T, ns, B, H⟩ B' H' → Dq K B' v d → R d → Q v H'
theorem ev_call {f : Addr} {fd : FuncData} {ps : List Str} {k : Nat} {x : Str} {p : Pos} {P : List PyData → (PyData → Prop) → Prop} (F : FnOk X.prog X.w X.K X.mg X.base CX0 k f fd ps (Con X.K P)) (hr : Room k X.A) (hm : X.mg x = some (.ref f))
    (hk : PySem.W.keepIn X.K (.ref f) = true) (hb : Binds X.K fd ps []) (h : Ea X W (e :: es) ρ fun ds => P ds R) (hg : Gl X x := by rfl)
    (hs : starEach (e :: es) X.env = (false, eval e X.env) :: starEach es X.env := by rfl) (hpl : (backTo pos (starEach es X.env)).any (·.1) = false := by rfl) (hdb : (x == ("__debug__" : Str)) = false := by decide) : Ev X W (.Call (.Name x p) (e :: es) [] pos) ρ R := by
  refine ⟨fun σ H B Q L k => PE.toZ (t := tCall (Con X.K P) [] E0 (tWa X (e :: es))) ?_ ?_⟩
  · exact pe_call F hr hg hm hk hb .nil pass0 pa_w hdb hs hpl
  · refine h.run σ H B _ L fun vs H1 B1 ds s1 L1 D1 h2 => ?_
    rw [List.append_nil]
    refine ⟨B1, ds, R, L1.gr.sub, D1, h2, fun v H' B' d g D r => ?_⟩
    obtain ⟨s, L'⟩ := L1.called (.inl rfl) g
    exact k v H' B' d (s1.trans s) L' D r
theorem ev_callT {f : Addr} {fd : FuncData} {ps : List Str} {k : Nat} {x y : Str} {p py : Pos} {P : List PyData → (PyData → Prop) → Prop} (i : Nat) (hρ : ρ[i]? = some .tape) (F : FnOk X.prog X.w X.K X.mg X.base CX0 k f fd ps (ConT X.K P)) (hr : Room k X.A) (hm : X.mg x = some (.ref f))
    (hk : PySem.W.keepIn X.K (.ref f) = true) (hb : Binds X.K fd ps []) (h : Ea X W es ρ fun ds => P ds R) (hN : X.N[i]? = some y := by rfl) (hv : Vis X.env.scope y := by first | exact Or.inl rfl | exact Or.inr (Or.inl rfl) | exact Or.inr (Or.inr rfl)) (hg : Gl X x := by rfl)
    (hs : starEach (.Name y py :: es) X.env = (false, eval (.Name y py) X.env) :: starEach es X.env := by rfl) (hpl : (backTo pos (starEach es X.env)).any (·.1) = false := by rfl) (hdb : (x == ("__debug__" : Str)) = false := by decide)
    (hd : (y == ("__debug__" : Str)) = false := by decide) (hcd : (y == ("__classdict__" : Str)) = false := by decide) : Ev X W (.Call (.Name x p) (.Name y py :: es) [] pos) ρ R := by
  refine ⟨fun σ H B Q L k => PE.toZ (t := tCall (ConT X.K P) [] E0 (tCons (tVar i) (tWa X es))) ?_ ?_⟩
  · have hpa : PA X (.Name y py :: es) (tCons (tVar i) (tWa X es)) := pa_cons (pe_var hN hv hd hcd) pa_w hs
    exact pe_call F hr hg hm hk hb .nil pass0 hpa hdb hs hpl
  · obtain ⟨T, hT, e1⟩ := L.at' i _ hρ
    refine ⟨.ref T, e1, ?_⟩
    refine h.run σ H B _ L fun vs H1 B1 ds s1 L1 D1 h2 => ?_
    show ConT X.K P ((V.ref T :: vs) ++ []) H1 Q E0
    rw [List.append_nil]
    obtain ⟨_, tp⟩ := L1.gr.tp T hT
    refine ⟨B1, ds, R, T, W.ns, vs, rfl, L1.gr.sub, tp, D1, h2, fun v H' B' d g D r => ?_⟩
    obtain ⟨s, L'⟩ := L1.called (.inr ⟨hT.symm, rfl⟩) g
    exact k v H' B' d (s1.trans s) L' D r
end
end Z

namespace Z
open PySem PySem.Spec PyProof.Rows L2
section
variable {X : Cx} {W : Wd} {ρ : List Sl} {D : Dz} {pos : Pos} {a b c e : Expr} {es : List Expr} {st : Stmt} {sts body : List Stmt}

/-! ### blocks, small statements -/
theorem ess_nil (h : D.nx ρ) : Ess X W [] ρ D := ⟨fun σ H B L => pss_nil.toZ (D := De X.K W B D) (show ∃ B' ρ, Same B B' ∧ Lay X.K W B' H σ ρ ∧ D.nx ρ from ⟨B, ρ, Same.refl _, L, h⟩)⟩
theorem ess_cons (h : Es X W st ρ { D with nx := fun r => Ess X W sts r D }) : Ess X W (st :: sts) ρ D := by
  refine ⟨fun σ H B L => (pss_cons ps_w pss_w).toZ ?_⟩
  show tWs X st { De X.K W B D with nx := fun σ' H' => tWss X sts (De X.K W B D) σ' H' } σ H
  intro pins s I
  refine thn (h.run σ H B L pins s I) fun f s' q => ?_
  cases f with
  | next => obtain ⟨σ', H', I', B', ρ', s0, L', q⟩ := q; exact ⟨σ', H', I', tWss.back s0 (q.run σ' H' B' L')⟩
  | brk => exact q
  | cont => exact q
  | ret u => exact q
theorem ess_one (h : Es X W st ρ D) : Ess X W [st] ρ D := ⟨fun σ H B L => (pss_one ps_w).toZ (h.run σ H B L)⟩
theorem es_pass (h : D.nx ρ) : Es X W (.Pass pos) ρ D := ⟨fun σ H B L => ps_pass.toZ (D := De X.K W B D) (show ∃ B' ρ, Same B B' ∧ Lay X.K W B' H σ ρ ∧ D.nx ρ from ⟨B, ρ, Same.refl _, L, h⟩)⟩
theorem es_break (h : D.bk ρ) : Es X W (.Break pos) ρ D := ⟨fun σ H B L => ps_break.toZ (D := De X.K W B D) (show ∃ B' ρ, Same B B' ∧ Lay X.K W B' H σ ρ ∧ D.bk ρ from ⟨B, ρ, Same.refl _, L, h⟩)⟩
theorem es_continue (h : D.ct ρ) : Es X W (.Continue pos) ρ D := ⟨fun σ H B L => ps_continue.toZ (D := De X.K W B D) (show ∃ B' ρ, Same B B' ∧ Lay X.K W B' H σ ρ ∧ D.ct ρ from ⟨B, ρ, Same.refl _, L, h⟩)⟩
theorem es_ret (h : Ev X W e ρ D.rt) : Es X W (.Return (some e) pos) ρ D :=
  ⟨fun σ H B L => (ps_ret pe_w).toZ (h.run σ H B _ L fun v H' B' d s L' D' r => ⟨B', d, L'.gr, D', r⟩)⟩
theorem es_expr (h : Ev X W e ρ fun _ => D.nx ρ) (hs : swapsWith e none pos.line X.env = pure false := by rfl) : Es X W (.Expr e pos) ρ D :=
  ⟨fun σ H B L => (ps_expr pe_w hs).toZ (h.run σ H B _ L fun v H' B' d s L' D' r => ⟨B', ρ, s, L', r⟩)⟩
theorem es_if (h : Et X W c ρ fun k => (k = true → Ess X W body ρ D) ∧ (k = false → Ess X W sts ρ D)) : Es X W (.If c body sts pos) ρ D := by
  refine ⟨fun σ H B L => (ps_if pt_w pss_w pss_w).toZ ?_⟩
  refine h.run σ H B _ L fun k H1 B1 s L1 q => ?_
  cases k with
  | true =>
    rw [if_pos rfl]
    exact tWss.back s ((q.1 rfl).run σ H1 B1 L1)
  | false =>
    rw [if_neg Bool.false_ne_true]
    exact tWss.back s ((q.2 rfl).run σ H1 B1 L1)
theorem es_set (i : Nat) {x : Str} {pos' : Pos} (h : Ev X W e ρ fun d => D.nx (ρ.set i (.im d))) (hN : X.N.Nodup) (hi : X.N[i]? = some x := by rfl) (hx : Loc X.env.scope x := by first | exact .inl rfl | exact .inr rfl) (hs : swapsWith e (some (.Name x pos')) pos.line X.env = pure false := by rfl)
    (hf : X.fn x = true ∨ X.env.scope.names.lookup x = some .local := by first | exact .inl rfl | exact .inr rfl | assumption) : Es X W (.Assign [.Name x pos'] e pos) ρ D :=
  ⟨fun σ H B L => (ps_set hN hi hx pe_w hs hf).toZ (h.run σ H B _ L fun v H' B' d s L' D' r => ⟨B', _, s, L'.put D', r⟩)⟩
theorem es_aug (i : Nat) {x : Str} {pos' : Pos} {dx : PyData} (hρ : ρ[i]? = some (.im dx)) (h : Ev X W e ρ fun d => match dx, d with | .int m, .int n => D.nx (ρ.set i (.im (.int (m + n)))) | _, _ => False) (hN : X.N.Nodup) (hi : X.N[i]? = some x := by rfl)
    (hx : Loc X.env.scope x := by first | exact .inl rfl | exact .inr rfl) (hf : X.fn x = true ∨ X.env.scope.names.lookup x = some .local := by first | exact .inl rfl | exact .inr rfl | assumption) : Es X W (.AugAssign (.Name x pos') .Add e pos) ρ D := by
  refine ⟨fun σ H B L => (ps_aug hN hi hx pe_w ip_add hf).toZ ?_⟩
  obtain ⟨v, h1, h2⟩ := L.at' i _ hρ
  refine ⟨v, h1, h.run σ H B _ L fun v' H' B' d s L' D' r => ?_⟩
  cases dx <;> cases d <;> first | exact r.elim | skip
  rename_i m n
  exact ⟨m, n, dp_int h2, dp_int D', B', _, s, L'.put (.int (m + n)), r⟩

/-! ### targets -/
def gW (X : Cx) (tg : Expr) : TG := fun v σ H Q => ∀ (pins : List (Addr × Obj)) (s : Shared) (u : Value), Inv X pins σ H s → RelV v u → wpAny (model X.prog X.w) X.A (assign tg X.env u) (fun _ s' => ∃ σ' H', Inv X pins σ' H' s' ∧ Q σ' H') X.xe s
def gWs (X : Cx) (ts : List Expr) : TGs := fun vs σ H Q => ∀ (pins : List (Addr × Obj)) (s : Shared) (us : List Value), Inv X pins σ H s → Vals vs us → wpAny (model X.prog X.w) X.A (assignInOrder ((assignEach ts X.env).map (·.2)) us) (fun _ s' => ∃ σ' H', Inv X pins σ' H' s' ∧ Q σ' H') X.xe s
theorem pg_w {tg : Expr} : PG X tg (gW X tg) := ⟨fun pins s σ H v u Q I r h => h pins s u I r⟩
theorem pgs_w {ts : List Expr} : PGs X ts (gWs X ts) := ⟨fun pins s σ H v u Q I r h => h pins s u I r⟩
theorem _root_.L2.PG.toZ {tg : Expr} {t : TG} (h : PG X tg t) {v σ H Q} (q : t v σ H Q) : gW X tg v σ H Q := fun pins s u I r => h.run pins s σ H v u Q I r q
theorem _root_.L2.PGs.toZ {ts : List Expr} {t : TGs} (h : PGs X ts t) {v σ H Q} (q : t v σ H Q) : gWs X ts v σ H Q := fun pins s u I r => h.run pins s σ H v u Q I r q
/-- data d goes to a target -/
structure Tg (X : Cx) (W : Wd) (tg : Expr) (d : PyData) (ρ : List Sl) (N : List Sl → Prop) : Prop where
  run : ∀ (v : V) (σ : L2.St) (H B : Hp) (Q : L2.St → Hp → Prop), Lay X.K W B H σ ρ → Dq X.K B v d → (∀ σ' H' B' ρ', Same B B' → Lay X.K W B' H' σ' ρ' → N ρ' → Q σ' H') → gW X tg v σ H Q
structure Tgs (X : Cx) (W : Wd) (ts : List Expr) (ds : List PyData) (ρ : List Sl) (N : List Sl → Prop) : Prop where
  run : ∀ (vs : List V) (σ : L2.St) (H B : Hp) (Q : L2.St → Hp → Prop), Lay X.K W B H σ ρ → DqAll X.K B vs ds → (∀ σ' H' B' ρ', Same B B' → Lay X.K W B' H' σ' ρ' → N ρ' → Q σ' H') → gWs X ts vs σ H Q
theorem tg_name (i : Nat) {x : Str} {d : PyData} {N : List Sl → Prop} (h : N (ρ.set i (.im d))) (hN : X.N.Nodup) (hi : X.N[i]? = some x := by rfl) (hx : Loc X.env.scope x := by first | exact .inl rfl | exact .inr rfl)
    (hf : X.fn x = true ∨ X.env.scope.names.lookup x = some .local := by first | exact .inl rfl | exact .inr rfl | assumption) : Tg X W (.Name x pos) d ρ N :=
  ⟨fun v σ H B Q L D' k => (pg_name hN hi hx hf).toZ (k _ _ _ _ (Same.refl _) (L.put D') h)⟩
theorem tgs_nil {N : List Sl → Prop} (h : N ρ) : Tgs X W [] [] ρ N := ⟨fun vs σ H B Q L D' k => pgs_nil.toZ (by cases D'; exact ⟨rfl, k _ _ _ _ (Same.refl _) L h⟩)⟩
theorem tgs_name (i : Nat) {x : Str} {d : PyData} {ds : List PyData} {N : List Sl → Prop} (h : Tgs X W es ds (ρ.set i (.im d)) N) (hN : X.N.Nodup) (hi : X.N[i]? = some x := by rfl) (hx : Loc X.env.scope x := by first | exact .inl rfl | exact .inr rfl)
    (hf : X.fn x = true ∨ X.env.scope.names.lookup x = some .local := by first | exact .inl rfl | exact .inr rfl | assumption)
    (hs : (assignEach (.Name x pos :: es) X.env).map (·.2) = assign (.Name x pos) X.env :: (assignEach es X.env).map (·.2) := by rfl) : Tgs X W (.Name x pos :: es) (d :: ds) ρ N := by
  refine ⟨fun vs σ H B Q L D' k => (pgs_cons (pg_name hN hi hx hf) pgs_w hs).toZ ?_⟩
  cases D' with
  | cons h1 h2 => exact ⟨_, _, rfl, h.run _ _ _ _ _ (L.put h1) h2 k⟩
theorem tg_tup {ds : List PyData} {kk : Nat} {N : List Sl → Prop} (hc : X.calm = true) (h : Tgs X W es ds ρ N) (hn : (assignEach es X.env).length = ds.length := by rfl) (hst : (assignEach es X.env).findIdx? (·.1) = none := by rfl) : Tg X W (.Tuple es kk pos) (.tuple ds) ρ N := by
  refine ⟨fun v σ H B Q L D' k => (pg_tup hc pgs_w hn hst).toZ ?_⟩
  obtain ⟨p, vs, rfl, h1, h2⟩ := dp_tup D'
  exact ⟨p, vs, rfl, seqT L.gr.sub h1, dpAll_len h2, h.run _ _ _ _ _ L h2 k⟩
/-- a, b = e -/
theorem es_asg {tg : Expr} (h : Ev X W e ρ fun d => Tg X W tg d ρ D.nx) (hs : swapsWithSole [tg] e pos.line X.env = pure false := by rfl) (hw : swappedStores [tg] e X.env = pure none := by rfl)
    (h1 : (assignEach [tg] X.env).map (·.2) = [assign tg X.env] := by rfl) : Es X W (.Assign [tg] e pos) ρ D := by
  refine ⟨fun σ H B L => (ps_asg pe_w pg_w hs hw h1).toZ ?_⟩
  exact h.run σ H B _ L fun v H' B' d s L' D' r => r.run v σ H' B' _ L' D' fun σ' H' B' ρ' s' L' q => ⟨B', ρ', s.trans s', L', q⟩
/-- a, b = x, y of plain locals -/
theorem es_par (i j : Nat) {x y : Str} {px py pt : Pos} {kt k2 pt2} (h : Ea X W [a, b] ρ fun ds => match ds with | [d, e] => D.nx ((ρ.set i (.im d)).set j (.im e)) | _ => False) (hc : X.calm = true) (hN : X.N.Nodup) (hi : X.N[i]? = some x := by rfl) (hj : X.N[j]? = some y := by rfl) (hij : i ≠ j := by decide)
    (hx : X.env.scope.names.lookup x = some .local := by rfl) (hy : X.env.scope.names.lookup y = some .local := by rfl)
    (hw : swappedStores [.Tuple [.Name x px, .Name y py] kt pt] (.Tuple [a, b] k2 pt2) X.env = pure (some [x, y]) := by rfl)
    (hs : swapsWithSole [.Tuple [.Name x px, .Name y py] kt pt] (.Tuple [a, b] k2 pt2) pos.line X.env = pure false := by rfl) :
    Es X W (.Assign [.Tuple [.Name x px, .Name y py] kt pt] (.Tuple [a, b] k2 pt2) pos) ρ D := by
  refine ⟨fun σ H B L => (ps_par hc hN hi hj hij hx hy pa_w hw hs).toZ ?_⟩
  refine h.run σ H B _ L fun vs H' B' ds s L' D' r => ?_
  cases D' with
  | nil => exact r.elim
  | cons h1 h2 =>
    cases h2 with
    | nil => exact r.elim
    | cons h3 h4 =>
      cases h4 with
      | nil => exact ⟨_, _, rfl, B', _, s, (L'.put h1).put h3, r⟩
      | cons _ _ => exact r.elim

/-! ### lists of the frame's own -/
theorem Lay.own (L : Lay X.K W B H σ ρ) {i : Nat} {p : Addr} {vs : List V} {ds : List PyData} (h1 : B p = none) (h2 : W.H0 p = none) (h3 : ∀ (j : Nat) (sl : Sl), ρ[j]? = some sl → sl.ow = true → σ[j]? ≠ some (some (.ref p))) (h4 : H p = some (.lst vs)) (h5 : DqAll X.K B vs ds) :
    Lay X.K W B H (σ.set i (some (.ref p))) (ρ.set i (.own ds)) := by
  refine ⟨L.gr, by simp [L.len], fun j sl e => ?_, fun j k s t hne e1 e2 o1 o2 => ?_⟩
  · by_cases hj : i = j
    · subst hj
      have hl : i < ρ.length := by
        have := (List.getElem?_eq_some_iff.mp e).1
        simpa using this
      rw [List.getElem?_set_self hl] at e
      cases e
      rw [List.getElem?_set_self (by rw [L.len]; exact hl)]
      exact ⟨p, vs, rfl, h1, h2, h4, h5⟩
    · rw [List.getElem?_set_ne hj] at e ⊢
      exact L.at' j sl e
  · by_cases hj : i = j
    · subst hj
      have hl : i < ρ.length := by
        have := (List.getElem?_eq_some_iff.mp e1).1
        simpa using this
      rw [List.getElem?_set_self (by rw [L.len]; exact hl)]
      rw [List.getElem?_set_ne hne] at e2 ⊢
      exact fun q => h3 k t e2 o2 q.symm
    · by_cases hk : i = k
      · subst hk
        have hl : i < ρ.length := by
          have := (List.getElem?_eq_some_iff.mp e2).1
          simpa using this
        rw [List.getElem?_set_self (by rw [L.len]; exact hl)]
        rw [List.getElem?_set_ne hj] at e1 ⊢
        exact h3 j s e1 o1
      · rw [List.getElem?_set_ne hj] at e1 ⊢
        rw [List.getElem?_set_ne hk] at e2 ⊢
        exact L.dis j k s t hne e1 e2 o1 o2
/-- an own list's content changes -/
theorem Lay.chg (L : Lay X.K W B H σ ρ) {i : Nat} {p : Addr} {vs : List V} {ds ds0 : List PyData} (hρ : ρ[i]? = some (.own ds0)) (hσ : σ[i]? = some (some (.ref p))) (h5 : DqAll X.K B vs ds) : Lay X.K W B (upd H p (.lst vs)) σ (ρ.set i (.own ds)) := by
  obtain ⟨p', vs0, e1, e2, e3, e4, e5⟩ := L.at' i _ hρ
  rw [hσ] at e1
  cases e1
  have hl : i < ρ.length := (List.getElem?_eq_some_iff.mp hρ).1
  have hT : ∀ T, W.T = some T → T ≠ p := fun T h q => by
    subst q
    exact (L.gr.tp T h).1 e3
  refine ⟨⟨same_right L.gr.sub e2, L.gr.base, L.gr.new, fun a o h1 h2 => ?_, fun T h => ?_⟩, by simp [L.len], fun j sl e => ?_, fun j k s t hne f1 f2 o1 o2 => ?_⟩
  · have ha : a ≠ p := by
      rintro rfl
      rw [e3] at h1
      cases h1
    rw [upd_ne ha]
    exact L.gr.keep a o h1 h2
  · obtain ⟨t1, t2⟩ := L.gr.tp T h
    exact ⟨t1, t2.mono (Same.refl _) t2.1 fun o ho => by rw [upd_ne (hT T h)]; exact ho⟩
  · by_cases hj : i = j
    · subst hj
      rw [List.getElem?_set_self hl] at e
      cases e
      exact ⟨p, vs, hσ, e2, e3, upd_same, h5⟩
    · rw [List.getElem?_set_ne hj] at e
      refine (L.at' j sl e).grow (Same.refl _) fun a o g1 g2 g3 _ g5 => ⟨g3, ?_⟩
      have ha : a ≠ p := by
        rintro rfl
        exact L.dis i j _ sl hj hρ e rfl g2 (hσ.trans g1.symm)
      rw [upd_ne ha]
      exact g5
  · have q1 : ∃ s', ρ[j]? = some s' ∧ s'.ow = true := by
      by_cases hj : i = j
      · subst hj
        exact ⟨_, hρ, rfl⟩
      · rw [List.getElem?_set_ne hj] at f1
        exact ⟨s, f1, o1⟩
    have q2 : ∃ s', ρ[k]? = some s' ∧ s'.ow = true := by
      by_cases hj : i = k
      · subst hj
        exact ⟨_, hρ, rfl⟩
      · rw [List.getElem?_set_ne hj] at f2
        exact ⟨t, f2, o2⟩
    obtain ⟨s', g1, g2⟩ := q1
    obtain ⟨t', g3, g4⟩ := q2
    exact L.dis j k s' t' hne g1 g3 g2 g4
/-- an own list is plain from now on -/
theorem Lay.frz (L : Lay X.K W B H σ ρ) {i : Nat} {ds : List PyData} (hρ : ρ[i]? = some (.own ds)) : ∃ B', Same B B' ∧ Lay X.K W B' H σ (ρ.set i (.im (.list ds))) := by
  obtain ⟨p, vs, e1, e2, e3, e4, e5⟩ := L.at' i _ hρ
  have hl : i < ρ.length := (List.getElem?_eq_some_iff.mp hρ).1
  have s : Same B (upd B p (.lst vs)) := same_new e2
  have hT : ∀ T, W.T = some T → T ≠ p := fun T h q => by
    subst q
    exact (L.gr.tp T h).1 e3
  refine ⟨upd B p (.lst vs), s, ⟨⟨fun b o h => ?_, L.gr.base.trans s, fun a h1 h2 => ?_, L.gr.keep, fun T h => ?_⟩, by simp [L.len], fun j sl e => ?_, fun j k s t hne f1 f2 o1 o2 => ?_⟩⟩
  · by_cases hb : b = p
    · subst hb
      rw [upd_same] at h
      rw [e4]
      exact h
    · rw [upd_ne hb] at h
      exact L.gr.sub b o h
  · have ha : a ≠ p := by
      rintro rfl
      exact h1 e3
    rw [upd_ne ha]
    exact L.gr.new a h1 h2
  · obtain ⟨t1, t2⟩ := L.gr.tp T h
    exact ⟨t1, t2.mono s (by rw [upd_ne (hT T h)]; exact t2.1) fun o ho => ho⟩
  · by_cases hj : i = j
    · subst hj
      rw [List.getElem?_set_self hl] at e
      cases e
      exact ⟨.ref p, e1, .lst upd_same (dpAllMono s _ _ e5)⟩
    · rw [List.getElem?_set_ne hj] at e
      refine (L.at' j sl e).grow s fun a o g1 g2 g3 _ g5 => ?_
      have ha : a ≠ p := by
        rintro rfl
        exact L.dis i j _ sl hj hρ e rfl g2 (e1.trans g1.symm)
      rw [upd_ne ha]
      exact ⟨g3, g5⟩
  · have q1 : j ≠ i := by
      rintro rfl
      rw [List.getElem?_set_self hl] at f1
      cases f1
      cases o1
    have q2 : k ≠ i := by
      rintro rfl
      rw [List.getElem?_set_self hl] at f2
      cases f2
      cases o2
    rw [List.getElem?_set_ne q1.symm] at f1
    rw [List.getElem?_set_ne q2.symm] at f2
    exact L.dis j k s t hne f1 f2 o1 o2
/-- from here on the list in slot i is plain -/
theorem ess_frz (i : Nat) {ds : List PyData} (hρ : ρ[i]? = some (.own ds)) (h : Ess X W sts (ρ.set i (.im (.list ds))) D) : Ess X W sts ρ D := by
  refine ⟨fun σ H B L => ?_⟩
  obtain ⟨B', s, L'⟩ := L.frz hρ
  exact tWss.back s (h.run σ H B' L')
theorem es_frz (i : Nat) {ds : List PyData} (hρ : ρ[i]? = some (.own ds)) (h : Es X W st (ρ.set i (.im (.list ds))) D) : Es X W st ρ D := by
  refine ⟨fun σ H B L => ?_⟩
  obtain ⟨B', s, L'⟩ := L.frz hρ
  exact tWs.back s (h.run σ H B' L')
/-- a fresh list as a value -/
theorem ev_el {R : PyData → Prop} (h : El X W e ρ fun ds => R (.list ds)) : Ev X W e ρ R := by
  refine ⟨fun σ H B Q L k => h.run σ H B Q L fun p vs H' B' ds s L' h1 h2 h3 h4 h5 r => ?_⟩
  have s' : Same B' (upd B' p (.lst vs)) := same_new h1
  refine k _ H' (upd B' p (.lst vs)) (.list ds) (s.trans s') ⟨⟨fun b o q => ?_, L'.gr.base.trans s', fun a q1 q2 => ?_, L'.gr.keep, fun T q => ?_⟩, L'.len, fun i sl q => (L'.at' i sl q).grow s' fun a o g1 g2 g3 _ g5 => ?_, L'.dis⟩ (.lst upd_same (dpAllMono s' _ _ h5)) r
  · by_cases hb : b = p
    · subst hb
      rw [upd_same] at q
      rw [h4]
      exact q
    · rw [upd_ne hb] at q
      exact L'.gr.sub b o q
  · have ha : a ≠ p := by
      rintro rfl
      exact q1 h2
    rw [upd_ne ha]
    exact L'.gr.new a q1 q2
  · obtain ⟨t1, t2⟩ := L'.gr.tp T q
    have ht : T ≠ p := by
      rintro rfl
      exact t1 h2
    exact ⟨t1, t2.mono s' (by rw [upd_ne ht]; exact t2.1) fun o ho => ho⟩
  · have ha : a ≠ p := by
      rintro rfl
      exact h3 i sl q g2 g1
    rw [upd_ne ha]
    exact ⟨g3, g5⟩
theorem fresh_own {K : PySem.W.Frag} {B H : Hp} {σ : L2.St} (L : Lay K W B H σ ρ) {p : Addr} (hp : H p = none) (ds : List PyData) (vs : List V) (h5 : DqAll K B vs ds) :
    Lay K W B (upd H p (.lst vs)) σ ρ ∧ B p = none ∧ W.H0 p = none ∧ (∀ (j : Nat) (sl : Sl), ρ[j]? = some sl → sl.ow = true → σ[j]? ≠ some (some (.ref p))) ∧ (upd H p (.lst vs)) p = some (.lst vs) := by
  have bp : B p = none := Same.free L.gr.sub hp
  have h0 : W.H0 p = none := by
    cases q : W.H0 p with
    | none => rfl
    | some u =>
      by_cases ht : W.T = some p
      · obtain ⟨_, t⟩ := L.gr.tp p ht
        obtain ⟨_, i, c, e, _⟩ := t
        rw [e] at hp
        cases hp
      · have := L.gr.keep p u q ht
        rw [hp] at this
        cases this
  have np : ∀ a u, H a = some u → a ≠ p := fun a u e => ne_of_none e hp
  refine ⟨⟨⟨same_right L.gr.sub bp, L.gr.base, L.gr.new, fun a o h1 h2 => ?_, fun T h => ?_⟩, L.len, fun i sl e => (L.at' i sl e).grow (Same.refl _) fun a u _ _ h2 _ h4 => ?_, L.dis⟩, bp, h0, fun j sl e1 e2 q => ?_, upd_same⟩
  · have := L.gr.keep a o h1 h2
    rw [upd_ne (np a o this)]
    exact this
  · obtain ⟨t1, t2⟩ := L.gr.tp T h
    obtain ⟨_, i, c, e, _⟩ := id t2
    exact ⟨t1, t2.mono (Same.refl _) t2.1 fun o ho => by rw [upd_ne (np T _ e)]; exact ho⟩
  · rw [upd_ne (np a u h4)]
    exact ⟨h2, h4⟩
  · obtain ⟨a, o, g1, g2, g3, g4, _⟩ := (L.at' j sl e1).owner e2
    rw [q] at g1
    cases g1
    rw [hp] at g4
    cases g4
theorem el_lst {R : List PyData → Prop} (h : Ea X W es ρ fun ds => ds.length ≤ sizeLine ∧ R ds) : El X W (.List es pos) ρ R := by
  refine ⟨fun σ H B Q L k => (pe_lst pa_w).toZ ?_⟩
  refine h.run σ H B _ L fun vs H1 B1 ds s1 L1 D1 h2 => ⟨by rw [dpAll_len D1]; exact h2.1, fun p hp => ?_⟩
  obtain ⟨L', q1, q2, q3, q4⟩ := fresh_own L1 hp ds vs D1
  exact k p vs _ B1 ds s1 L' q1 q2 q3 q4 D1 h2.2
/-- x = a fresh list -/
theorem es_setL (i : Nat) {x : Str} {pos' : Pos} (h : El X W e ρ fun ds => D.nx (ρ.set i (.own ds))) (hN : X.N.Nodup) (hi : X.N[i]? = some x := by rfl) (hx : Loc X.env.scope x := by first | exact .inl rfl | exact .inr rfl) (hs : swapsWith e (some (.Name x pos')) pos.line X.env = pure false := by rfl)
    (hf : X.fn x = true ∨ X.env.scope.names.lookup x = some .local := by first | exact .inl rfl | exact .inr rfl | assumption) : Es X W (.Assign [.Name x pos'] e pos) ρ D :=
  ⟨fun σ H B L => (ps_set hN hi hx pe_w hs hf).toZ (h.run σ H B _ L fun p vs H' B' ds s L' h1 h2 h3 h4 h5 r => ⟨B', _, s, L'.own h1 h2 h3 h4 h5, r⟩)⟩
/-- x.append(e) -/
theorem es_append (i : Nat) {x : Str} {px pa cp : Pos} {ds : List PyData} (hρ : ρ[i]? = some (.own ds)) (h : Ev X W e ρ fun d => ds.length < sizeLine ∧ D.nx (ρ.set i (.own (ds ++ [d])))) (hN : X.N[i]? = some x := by rfl) (hv : Vis X.env.scope x := by first | exact Or.inl rfl | exact Or.inr (Or.inl rfl) | exact Or.inr (Or.inr rfl))
    (hs : swapsWith (.Call (.Attribute (.Name x px) "append" pa) [e] [] cp) none pos.line X.env = pure false := by rfl) (hd : (x == ("__debug__" : Str)) = false := by decide) (hcd : (x == ("__classdict__" : Str)) = false := by decide)
    (hbase : attributeBase (.Name x px) "append" X.env (eval (.Name x px) X.env) = eval (.Name x px) X.env := by rfl)
    (hfew : ((backTo cp (starEach [e] X.env)).all (fun x => !x.1) && (backToKw cp (keywordEach [] X.env)).all (fun x => x.1.isSome) && decide (([e] : List Expr).length + ([] : List Keyword).length + (if ([] : List Keyword).isEmpty then 0 else 1) < 30)) = true := by rfl)
    (hline : (pa.endLine == cp.line) = true := by rfl) (hse : starEach [e] X.env = (false, eval e X.env) :: starEach [] X.env := by rfl) (hpl : (backTo cp (starEach [] X.env)).any (·.1) = false := by rfl) :
    Es X W (.Expr (.Call (.Attribute (.Name x px) "append" pa) [e] [] cp) pos) ρ D := by
  refine ⟨fun σ H B L => (ps_expr (pe_bm PySem.F.plainAttrs_list PySem.F.slot_list_append PySem.F.type_list_append mt_append (pe_var hN hv hd hcd) (pa_cons pe_w pa_nil hse) hbase hfew hline hse hpl) hs).toZ ?_⟩
  obtain ⟨p, vs, e1, e2, e3, e4, e5⟩ := L.at' i _ hρ
  refine ⟨.ref p, e1, .inl ⟨rfl, vs, SqL.of e4⟩, ?_⟩
  refine h.run σ H B _ L fun v H2 B2 d s2 L2 D2 h3 => ?_
  obtain ⟨p', vs', f1, f2, f3, f4, f5⟩ := L2.at' i _ hρ
  rw [e1] at f1
  cases f1
  exact ⟨p, vs', v, rfl, rfl, f4, by rw [dpAll_len f5]; exact h3.1, B2, _, s2, L2.chg hρ e1 (dpAll_app f5 (.cons D2 .nil)), h3.2⟩
/-- x[k] = v of an own list -/
theorem es_sub (i : Nat) {x : Str} {px p2 : Pos} {ds : List PyData} (hρ : ρ[i]? = some (.own ds)) (h : Ev X W e ρ fun d => Ev X W b ρ fun y => match y with | .int z => ∃ j, ixN ds.length z = some j ∧ D.nx (ρ.set i (.own (ds.set j d))) | _ => False) (hN : X.N[i]? = some x := by rfl)
    (hv : Vis X.env.scope x := by first | exact Or.inl rfl | exact Or.inr (Or.inl rfl) | exact Or.inr (Or.inr rfl)) (hd : (x == ("__debug__" : Str)) = false := by decide) (hcd : (x == ("__classdict__" : Str)) = false := by decide)
    (ha : ∀ v, assign (.Subscript (.Name x px) b p2) X.env v = (do
      let ov ← holding [v] (eval (.Name x px) X.env)
      let iv ← holding [v, ov] (eval b X.env)
      standAt p2
      holding [v, ov, iv] (setItem ov iv v)
      release [v, ov, iv] []) := by intro _; rfl) (hs : swapsWithSole [.Subscript (.Name x px) b p2] e pos.line X.env = pure false := by rfl) (hw : swappedStores [.Subscript (.Name x px) b p2] e X.env = pure none := by rfl)
    (h1 : (assignEach [.Subscript (.Name x px) b p2] X.env).map (·.2) = [assign (.Subscript (.Name x px) b p2) X.env] := by rfl) : Es X W (.Assign [.Subscript (.Name x px) b p2] e pos) ρ D := by
  refine ⟨fun σ H B L => (ps_asg pe_w (pg_sub (pe_var hN hv hd hcd) pe_w set_list ha) hs hw h1).toZ ?_⟩
  refine h.run σ H B _ L fun v H1 B1 d s1 L1 D1 h2 => ?_
  obtain ⟨p, vs, e1, e2, e3, e4, e5⟩ := L1.at' i _ hρ
  refine ⟨.ref p, e1, ?_⟩
  refine h2.run σ H1 B1 _ L1 fun u H2 B2 y s2 L2 D2 h3 => ?_
  cases y <;> first | exact h3.elim | skip
  rename_i z
  obtain ⟨j, hj, hn⟩ := h3
  obtain ⟨p', vs', f1, f2, f3, f4, f5⟩ := L2.at' i _ hρ
  rw [e1] at f1
  cases f1
  exact ⟨p, vs', z, j, rfl, dp_int D2, f4, by rw [dpAll_len f5]; exact hj, B2, _, s1.trans s2, L2.chg hρ e1 (dpAll_set (dpMono s2 _ _ D1) j f5), hn⟩

/-! ### while -/
theorem es_while (P : Nat → List Sl → Prop) (m : Nat) (h0 : P m ρ) (hp : PassesOwn (model X.prog X.w) X.A X.env X.xe)
    (h : ∀ m ρ, P m ρ → Et X W c ρ fun k => (k = true → Ess X W body ρ { nx := fun r => ∃ m', m' < m ∧ P m' r, rt := D.rt, bk := D.nx, ct := fun r => ∃ m', m' < m ∧ P m' r }) ∧ (k = false → D.nx ρ)) : Es X W (.While c body [] pos) ρ D := by
  refine ⟨fun σ H B L => (ps_while hp pt_w pss_w).toZ ?_⟩
  refine ⟨fun m σ H => ∃ B' ρ, Same B B' ∧ Lay X.K W B' H σ ρ ∧ P m ρ, ⟨m, B, ρ, Same.refl _, L, h0⟩, ?_⟩
  rintro m σ H ⟨B', ρ, sB, L, hP⟩
  refine (h m ρ hP).run σ H B' _ L fun k H1 B1 s L1 q => ?_
  cases k with
  | true =>
    rw [if_pos rfl]
    refine ⟨fun σ' H' => ∃ B' ρ, Same B B' ∧ Lay X.K W B' H' σ' ρ ∧ ∃ m', m' < m ∧ P m' ρ, fun σ' H' ⟨B', ρ, s', L, m', hm, hP⟩ => ⟨m', hm, B', ρ, s', L, hP⟩, ?_⟩
    exact tWss.back (sB.trans s) ((q.1 rfl).run σ H1 B1 L1)
  | false =>
    rw [if_neg Bool.false_ne_true]
    exact ⟨B1, ρ, sB.trans s, L1, q.2 rfl⟩

/-! ### what is walked -/
structure WalkZ (K : PySem.W.Frag) (J : It) (ds : List PyData) (B : Hp) : Prop where
  go : ∀ i B' H', Same B B' → Same B' H' → i < ds.length → J.go i H'
  stop : ∀ B' H', Same B B' → Same B' H' → J.stop ds.length H'
  yld : ∀ i B' H' x H'' (W : Wd) (σ : L2.St) (ρ : List Sl), Same B B' → Lay K W B' H' σ ρ → J.yld i H' x H'' → i < ds.length → ∃ d B'', ds[i]? = some d ∧ Same B' B'' ∧ Lay K W B'' H'' σ ρ ∧ Dq K B'' x d ∧ (∀ b o, H' b = some o → H'' b = some o) ∧ ∀ b o, H' b = some o → B' b = none → B'' b = none
def iW (X : Cx) (tg iter : Expr) : TI := fun σ H R => ∀ (pins : List (Addr × Obj)) (s : Shared), Inv X pins σ H s → wpAny (model X.prog X.w) X.A (eval iter X.env) (fun v s1 => wpAny (model X.prog X.w) X.A (pyIter v) (PIE X pins σ tg R) X.xe s1) X.xe s
theorem pi_w {tg iter : Expr} : PI X tg iter (iW X tg iter) := ⟨fun pins s σ H R I h => h pins s I⟩
theorem _root_.L2.PI.toZ {tg iter : Expr} {t : TI} (h : PI X tg iter t) {σ H R} (q : t σ H R) : iW X tg iter σ H R := fun pins s I => h.run pins s σ H R I q
structure Ei (X : Cx) (W : Wd) (tg iter : Expr) (ρ : List Sl) (R : List PyData → Prop) : Prop where
  run : ∀ (σ : L2.St) (H B : Hp) (Q : It → Hp → Prop), Lay X.K W B H σ ρ → (∀ J H' B' ds, Same B B' → Lay X.K W B' H' σ ρ → WalkZ X.K J ds B' → R ds → Q J H') → iW X tg iter σ H Q
theorem walk_list {K : PySem.W.Frag} {p : Addr} {vs : List V} {ds : List PyData} {B : Hp} (h : B p = some (.lst vs)) (hd : DqAll K B vs ds) : WalkZ K (Itl K p) ds B where
  go := fun i B' H' s s' hi => by
    rw [← dpAll_len hd] at hi
    exact ⟨vs, vs[i], SqL.of (s' _ _ (s _ _ h)), by simp [hi]⟩
  stop := fun B' H' s s' => ⟨vs, SqL.of (s' _ _ (s _ _ h)), by rw [dpAll_len hd]; exact Nat.le_refl _⟩
  yld := fun i B' H' x H'' W σ ρ s L hy hi => by
    obtain ⟨e, hx⟩ := hy
    subst e
    have hx := hx vs (SqL.of (L.gr.sub _ _ (s _ _ h)))
    obtain ⟨v, h1, h2⟩ := dpAll_get hd (List.getElem?_eq_getElem hi)
    rw [hx] at h1
    cases h1
    exact ⟨_, B', List.getElem?_eq_getElem hi, Same.refl _, L, dpMono s _ _ h2, fun _ _ q => q, fun _ _ _ q => q⟩
theorem walk_tup {K : PySem.W.Frag} {p : Addr} {vs : List V} {ds : List PyData} {B : Hp} (h : SqT K B p vs) (hd : DqAll K B vs ds) : WalkZ K (Itt K p) ds B where
  go := fun i B' H' s s' hi => by
    rw [← dpAll_len hd] at hi
    exact ⟨vs, vs[i], seqT (s.trans s') h, by simp [hi]⟩
  stop := fun B' H' s s' => ⟨vs, seqT (s.trans s') h, by rw [dpAll_len hd]; exact Nat.le_refl _⟩
  yld := fun i B' H' x H'' W σ ρ s L hy hi => by
    obtain ⟨e, hx⟩ := hy
    subst e
    have hx := hx vs (seqT (s.trans L.gr.sub) h)
    obtain ⟨v, h1, h2⟩ := dpAll_get hd (List.getElem?_eq_getElem hi)
    rw [hx] at h1
    cases h1
    exact ⟨_, B', List.getElem?_eq_getElem hi, Same.refl _, L, dpMono s _ _ h2, fun _ _ q => q, fun _ _ _ q => q⟩
/-- lo, lo + 1, .. -/
def rngD (lo : Int) (n : Nat) : List PyData := (List.range n).map fun i => .int (lo + (i : Nat))
theorem rngD_len {lo : Int} {n : Nat} : (rngD lo n).length = n := by simp [rngD]
theorem rngD_get {lo : Int} {n i : Nat} (h : i < n) : (rngD lo n)[i]? = some (.int (lo + (i : Nat))) := by simp [rngD, h]
theorem walk_rng {K : PySem.W.Frag} {lo : Int} {n : Nat} {B : Hp} : WalkZ K (Itr lo n) (rngD lo n) B where
  go := fun i B' H' s s' hi => by
    rw [rngD_len] at hi
    exact hi
  stop := fun B' H' s s' => by
    show n ≤ (rngD lo n).length
    rw [rngD_len]
    exact Nat.le_refl _
  yld := fun i B' H' x H'' W σ ρ s L hy hi => by
    obtain ⟨e, hx⟩ := hy
    subst e
    rw [rngD_len] at hi
    exact ⟨_, B', rngD_get hi, Same.refl _, L, by rw [hx]; exact .int _, fun _ _ q => q, fun _ _ _ q => q⟩
theorem ei_list {tg : Expr} {R : List PyData → Prop} (h : Ev X W e ρ fun d => match d with | .list ds => R ds | _ => False) : Ei X W tg e ρ R := by
  refine ⟨fun σ H B Q L k => (pi_list pe_w).toZ ?_⟩
  refine h.run σ H B _ L fun v H1 B1 d s1 L1 D1 h2 => ?_
  cases d <;> first | exact h2.elim | skip
  obtain ⟨p, vs, rfl, h3, h4⟩ := dp_list D1
  exact ⟨p, rfl, ⟨vs, SqL.of (L1.gr.sub _ _ h3)⟩, k _ H1 B1 _ s1 L1 (walk_list h3 h4) h2⟩
theorem ei_tup {tg : Expr} {R : List PyData → Prop} (h : Ev X W e ρ fun d => match d with | .tuple ds => R ds | _ => False) : Ei X W tg e ρ R := by
  refine ⟨fun σ H B Q L k => (pi_tup pe_w).toZ ?_⟩
  refine h.run σ H B _ L fun v H1 B1 d s1 L1 D1 h2 => ?_
  cases d <;> first | exact h2.elim | skip
  obtain ⟨p, vs, rfl, h3, h4⟩ := dp_tup D1
  exact ⟨p, rfl, ⟨vs, seqT L1.gr.sub h3⟩, k _ H1 B1 _ s1 L1 (walk_tup h3 h4) h2⟩
theorem ei_range1 {tg : Expr} {p : Pos} {R : List PyData → Prop} (hm : X.mg "range" = none) (h : Ev X W a ρ fun d => match d with | .int j => -(2 ^ 62) ≤ j ∧ j < 2 ^ 62 ∧ R (rngD 0 j.toNat) | _ => False) (hg : Gl X "range" := by rfl)
    (hs : starEach [a] X.env = [(false, eval a X.env)] := by rfl) : Ei X W tg (.Call (.Name "range" p) [a] [] pos) ρ R := by
  refine ⟨fun σ H B Q L k => (pi_range1 hg hm (pa_cons pe_w pa_nil hs) hs).toZ ?_⟩
  refine h.run σ H B _ L fun v H1 B1 d s1 L1 D1 h2 => ?_
  cases d <;> first | exact h2.elim | skip
  rename_i j
  cases dp_int D1
  exact ⟨j, rfl, h2.1, h2.2.1, k _ H1 B1 _ s1 L1 walk_rng h2.2.2⟩
theorem ei_range2 {tg : Expr} {p : Pos} {R : List PyData → Prop} (hm : X.mg "range" = none)
    (h : Ev X W a ρ fun d => Ev X W b ρ fun d' => match d, d' with | .int i, .int j => (-(2 ^ 62) ≤ i ∧ i < 2 ^ 62 ∧ -(2 ^ 62) ≤ j ∧ j < 2 ^ 62) ∧ R (rngD i (j - i).toNat) | _, _ => False) (hg : Gl X "range" := by rfl)
    (hs : starEach [a, b] X.env = [(false, eval a X.env), (false, eval b X.env)] := by rfl) (hs2 : starEach [b] X.env = [(false, eval b X.env)] := by rfl) (hs3 : starEach [a, b] X.env = (false, eval a X.env) :: starEach [b] X.env := by rfl) : Ei X W tg (.Call (.Name "range" p) [a, b] [] pos) ρ R := by
  refine ⟨fun σ H B Q L k => (pi_range2 hg hm (pa_cons pe_w (pa_cons pe_w pa_nil hs2) hs3) hs hs2).toZ ?_⟩
  refine h.run σ H B _ L fun v H1 B1 d s1 L1 D1 h2 => ?_
  refine h2.run σ H1 B1 _ L1 fun u H2 B2 d' s2 L2 D2 h3 => ?_
  cases d <;> cases d' <;> first | exact h3.elim | skip
  rename_i i j
  cases dp_int D1
  cases dp_int D2
  exact ⟨i, j, rfl, h3.1, k _ H2 B2 _ (s1.trans s2) L2 walk_rng h3.2⟩
theorem es_for {tg iter : Expr} (hp : PassesOwn (model X.prog X.w) X.A X.env X.xe) (hc : X.calm = true)
    (h : Ei X W tg iter ρ fun ds => ∃ P : Nat → List Sl → Prop, P 0 ρ ∧ (∀ i d ρ1, ds[i]? = some d → P i ρ1 → Tg X W tg d ρ1 fun ρ2 => Ess X W body ρ2 { nx := P (i + 1), rt := D.rt, bk := D.nx, ct := P (i + 1) }) ∧ ∀ ρ1, P ds.length ρ1 → D.nx ρ1)
    (hs : ∀ x, foldedSetIterable iter X.env x = pure x := by intro _; rfl) : Es X W (.For tg iter body [] pos) ρ D := by
  refine ⟨fun σ H B L => (ps_for hp hc pi_w pg_w pss_w hs).toZ ?_⟩
  refine h.run σ H B _ L fun J H1 B1 ds s1 L1 wk hP => ?_
  obtain ⟨P, p0, turn, fin⟩ := hP
  refine ⟨fun i m σ H => m = ds.length - i ∧ i ≤ ds.length ∧ ∃ B' ρ, Same B1 B' ∧ Lay X.K W B' H σ ρ ∧ P i ρ, ⟨_, rfl, Nat.zero_le _, B1, ρ, Same.refl _, L1, p0⟩, ?_⟩
  rintro i m σ H ⟨rfl, hi, B', ρ1, sB, L, hPi⟩
  by_cases hlt : i < ds.length
  · refine .inr ⟨wk.go i B' H sB L.gr.sub hlt, fun σ' H' => ∃ B'' ρ', Same B B'' ∧ Lay X.K W B'' H' σ' ρ' ∧ Same B1 B'' ∧ P (i + 1) ρ', fun σ' H' ⟨B'', ρ', _, L', sB', hP'⟩ => ⟨ds.length - (i + 1), by omega, rfl, hlt, B'', ρ', sB', L', hP'⟩, fun x H' hy => ?_⟩
    obtain ⟨d, B'', hd, s'', L'', Dx, _⟩ := wk.yld i B' H x H' W σ ρ1 sB L hy hlt
    refine (turn i d ρ1 hd hPi).run x σ H' B'' _ L'' Dx fun σ2 H2 B2 ρ2 s2 L2 hb => ?_
    intro pins s0 I
    have sb : Same B1 B2 := (sB.trans s'').trans s2
    refine thn (hb.run σ2 H2 B2 L2 pins s0 I) fun f s' q => ?_
    cases f with
    | next => obtain ⟨σ', H', I', B3, ρ', s3, L3, q⟩ := q; exact ⟨σ', H', I', B3, ρ', s1.trans (sb.trans s3), L3, sb.trans s3, q⟩
    | brk => obtain ⟨σ', H', I', B3, ρ', s3, L3, q⟩ := q; exact ⟨σ', H', I', B3, ρ', s1.trans (sb.trans s3), L3, q⟩
    | cont => obtain ⟨σ', H', I', B3, ρ', s3, L3, q⟩ := q; exact ⟨σ', H', I', B3, ρ', s1.trans (sb.trans s3), L3, sb.trans s3, q⟩
    | ret u => exact q
  · have e : i = ds.length := by omega
    subst e
    exact .inl ⟨wk.stop B' H sB L.gr.sub, B', ρ1, s1.trans sB, L, fin ρ1 hPi⟩
end
end Z

namespace Z
open PySem PySem.Spec PyProof.Rows L2

/-! ### comprehensions -/
@[reducible] def Sl.lent : Sl → Sl
  | .own _ => .no
  | .dic _ => .no
  | .obj a dx C fs => .obk a dx C fs
  | s => s
def disown (ρ : List Sl) : List Sl := ρ.map Sl.lent
def setZ (ρ : List Sl) : List Nat → List PyData → List Sl
  | j :: js, d :: ds => setZ (ρ.set j (.im d)) js ds
  | _, _ => ρ
def setV (σ : L2.St) : List Nat → List V → L2.St
  | j :: js, v :: vs => setV (σ.set j (some v)) js vs
  | _, _ => σ
def wipeZ (ρ : List Sl) : List Nat → List Sl
  | [] => ρ
  | v :: vs => (wipeZ ρ vs).set v .no
theorem setV_len : ∀ (js : List Nat) (vs : List V) (σ : L2.St), (setV σ js vs).length = σ.length
  | [], _, _ => by unfold setV; rfl
  | _ :: _, [], _ => by unfold setV; rfl
  | j :: js, v :: vs, σ => by unfold setV; rw [setV_len js vs]; simp
theorem setV_out : ∀ (js : List Nat) (vs : List V) (σ : L2.St) (k : Nat), k ∉ js → (setV σ js vs)[k]? = σ[k]?
  | [], _, _, _, _ => by unfold setV; rfl
  | _ :: _, [], _, _, _ => by unfold setV; rfl
  | j :: js, v :: vs, σ, k, h => by
    unfold setV
    rw [setV_out js vs _ k (fun z => h (List.mem_cons_of_mem _ z)), List.getElem?_set_ne (fun z => h (by rw [z]; exact List.mem_cons_self))]
theorem wipe_out : ∀ (js : List Nat) (σ : L2.St) (k : Nat), k ∉ js → (wipe σ js)[k]? = σ[k]?
  | [], _, _, _ => rfl
  | j :: js, σ, k, h => by
    unfold wipe
    rw [List.getElem?_set_ne (fun z => h (by rw [z]; exact List.mem_cons_self)), wipe_out js σ k fun z => h (List.mem_cons_of_mem _ z)]
theorem wipe_in : ∀ (js : List Nat) (σ : L2.St) (k : Nat), k ∈ js → k < σ.length → (wipe σ js)[k]? = some none
  | j :: js, σ, k, h, hl => by
    unfold wipe
    by_cases e : j = k
    · subst e
      rw [List.getElem?_set_self (by rw [wipe_length]; exact hl)]
    · rw [List.getElem?_set_ne e]
      rcases List.mem_cons.mp h with z | z
      · exact absurd z.symm e
      · exact wipe_in js σ k z hl
theorem wipe_setV (js : List Nat) (vs : List V) (σ : L2.St) : wipe (setV (wipe σ js) js vs) js = wipe σ js := by
  apply List.ext_getElem?
  intro k
  have el : (setV (wipe σ js) js vs).length = σ.length := by rw [setV_len, wipe_length]
  by_cases h : k ∈ js
  · by_cases hl : k < σ.length
    · rw [wipe_in js _ k h (by rw [el]; exact hl), wipe_in js _ k h hl]
    · rw [List.getElem?_eq_none (by rw [wipe_length, el]; omega), List.getElem?_eq_none (by rw [wipe_length]; omega)]
  · rw [wipe_out js _ k h, setV_out js _ _ k h]
section
variable {K : PySem.W.Frag} {W : Wd} {B B' H H' : Hp} {σ : L2.St} {ρ : List Sl}
theorem Lay.wipes (L : Lay K W B H σ ρ) : ∀ js : List Nat, Lay K W B H (wipe σ js) (wipeZ ρ js)
  | [] => L
  | j :: js => (L.wipes js).wipe1 j
theorem Lay.sets : ∀ {js : List Nat} {ds : List PyData} {vs : List V} {σ : L2.St} {ρ : List Sl}, Lay K W B H σ ρ → DqAll K B vs ds → Lay K W B H (setV σ js vs) (setZ ρ js ds)
  | [], _, _, _, _, L, _ => by unfold setV setZ; exact L
  | j :: js, [], _, _, _, L, h => by cases h; unfold setV setZ; exact L
  | j :: js, d :: ds, _, σ, ρ, L, h => by
    cases h with
    | cons h1 h2 =>
      unfold setV setZ
      exact Lay.sets (L.put h1) h2
/-- the frame seen by code that owns nothing of it -/
theorem Lay.loan (L : Lay K W B H σ ρ) : Lay K ⟨W.T, W.ns, B, H⟩ B H σ (disown ρ) := by
  refine ⟨Gr.refl L.gr.sub fun a h => (L.gr.tp a h).2, by simp [disown, L.len], fun i sl e => ?_, fun i j s t hne e1 e2 o1 o2 => ?_⟩
  · unfold disown at e
    rw [List.getElem?_map] at e
    cases q : ρ[i]? with
    | none => rw [q] at e; cases e
    | some s0 =>
      rw [q] at e
      have e : s0.lent = sl := Option.some.inj e
      cases s0 with
      | no => subst e; trivial
      | im d => subst e; exact L.at' i _ q
      | own ds => subst e; trivial
      | dic ds => subst e; trivial
      | tape => subst e; exact L.at' i _ q
      | obj a dx C fs =>
        subst e
        obtain ⟨fv, h1, h2, h3, h4, h5⟩ := L.at' i _ q
        exact ⟨fv, h1, .inr ⟨h4, fun z => (L.gr.tp a z).1 h3⟩, h5⟩
      | obk a dx C fs =>
        subst e
        obtain ⟨fv, h1, h2, h5⟩ := L.at' i _ q
        exact ⟨fv, h1, h2.elim .inl (fun h => .inr ⟨L.gr.keep a _ h.1 h.2, h.2⟩), h5⟩
      | ptr a => subst e; exact L.at' i _ q
  · unfold disown at e1
    rw [List.getElem?_map] at e1
    cases q : ρ[i]? with
    | none => rw [q] at e1; cases e1
    | some s0 =>
      rw [q] at e1
      have e : s0.lent = s := Option.some.inj e1
      subst e
      cases s0 <;> cases o1
/-- an object of nobody's changes -/
theorem Lay.other (L : Lay K W B H σ ρ) {p : Addr} (o : HO) (h1 : B p = none) (h2 : W.H0 p = none) (h3 : ∀ (j : Nat) (sl : Sl), ρ[j]? = some sl → sl.ow = true → σ[j]? ≠ some (some (.ref p))) : Lay K W B (upd H p o) σ ρ := by
  refine ⟨⟨same_right L.gr.sub h1, L.gr.base, L.gr.new, fun a u q1 q2 => ?_, fun T q => ?_⟩, L.len, fun i sl e => (L.at' i sl e).grow (Same.refl _) fun a u g1 g2 g3 _ g5 => ⟨g3, ?_⟩, L.dis⟩
  · have ha : a ≠ p := by
      rintro rfl
      rw [h2] at q1
      cases q1
    rw [upd_ne ha]
    exact L.gr.keep a u q1 q2
  · obtain ⟨t1, t2⟩ := L.gr.tp T q
    have ht : T ≠ p := by
      rintro rfl
      exact t1 h2
    exact ⟨t1, t2.mono (Same.refl _) t2.1 fun o ho => by rw [upd_ne ht]; exact ho⟩
  · have ha : a ≠ p := by
      rintro rfl
      exact h3 i sl e g2 g1
    rw [upd_ne ha]
    exact g5
end
/-- readings over data, whatever the world (its tape being T) -/
def TtZ (K : PySem.W.Frag) (T : Option Addr) (tt : TT) (ρ : List Sl) (R : Bool → Prop) : Prop := ∀ W : Wd, W.T = T → ∀ (σ : L2.St) (H B : Hp) (Q : Bool → Hp → Prop), Lay K W B H σ ρ → (∀ b H' B', Same B B' → Lay K W B' H' σ ρ → R b → Q b H') → tt σ H Q
def TeZ (K : PySem.W.Frag) (T : Option Addr) (te : TE) (ρ : List Sl) (R : PyData → Prop) : Prop := ∀ W : Wd, W.T = T → ∀ (σ : L2.St) (H B : Hp) (Q : VK), Lay K W B H σ ρ → (∀ v H' B' d, Same B B' → Lay K W B' H' σ ρ → Dq K B' v d → R d → Q v H') → te σ H Q
/-- a target that takes data apart into the slots js -/
def GgZ (K : PySem.W.Frag) (g : TG) (js : List Nat) (dec : PyData → Option (List PyData)) : Prop := ∀ (B H : Hp) (σ : L2.St) (v : V) (d : PyData) (ds : List PyData) (Q : L2.St → Hp → Prop), Same B H → Dq K B v d → dec d = some ds → (∀ vs, DqAll K B vs ds → Q (setV σ js vs) H) → g v σ H Q
section
variable {X : Cx} {W : Wd} {ρ : List Sl} {D : Dz} {pos : Pos} {a b c e : Expr} {es : List Expr} {st : Stmt} {sts body : List Stmt}
theorem lc_runG {wi : TI} {js : List Nat} {g : TG} {tt : TT} {te : TE} {dec : PyData → Option (List PyData)} (gz : GgZ X.K g js dec) {R : List PyData → Prop}
    (h : ∀ (σ : L2.St) (H B : Hp) (Q : It → Hp → Prop), Lay X.K W B H σ ρ → (∀ J H' B' ds, Same B B' → Lay X.K W B' H' σ ρ → WalkZ X.K J ds B' → (ds.length ≤ sizeLine ∧ ∃ P : Nat → List PyData → Prop, P 0 [] ∧ (∀ i d acc, ds[i]? = some d → P i acc → acc.length ≤ i → ∃ xs, dec d = some xs ∧
      TtZ X.K W.T tt (setZ (disown (wipeZ ρ js)) js xs) fun k => (k = true → TeZ X.K W.T te (setZ (disown (wipeZ ρ js)) js xs) fun y => P (i + 1) (acc ++ [y])) ∧ (k = false → P (i + 1) acc)) ∧ ∀ acc, P ds.length acc → acc.length ≤ ds.length → R acc) → Q J H') → wi σ H Q)
    {σ : L2.St} {H B : Hp} {Q : VK} (L : Lay X.K W B H σ ρ)
    (k : ∀ a vs H' B' ds, Same B B' → Lay X.K W B' H' σ ρ → B' a = none → W.H0 a = none → (∀ (i : Nat) (sl : Sl), ρ[i]? = some sl → sl.ow = true → σ[i]? ≠ some (some (.ref a))) → H' a = some (.lst vs) → DqAll X.K B' vs ds → R ds → Q (.ref a) H') :
    tLc wi g tt te js σ H Q := by
  refine h σ H B _ L fun J H1 B1 ds s1 L1 wk hP p hp => ?_
  obtain ⟨hlen, P, p0, turn, fin⟩ := hP
  obtain ⟨L2', b0, h0, own0, e0⟩ := fresh_own L1 hp [] [] .nil
  have hT : W.T ≠ some p := fun z => (L1.gr.tp p z).1 h0
  refine ⟨fun i m H => m = ds.length - i ∧ i ≤ ds.length ∧ ∃ B vs acc, Same B1 B ∧ B p = none ∧ H p = some (.lst vs) ∧ DqAll X.K B vs acc ∧ acc.length ≤ i ∧ Lay X.K W B H σ ρ ∧ P i acc,
    ⟨_, rfl, Nat.zero_le _, B1, [], [], Same.refl _, b0, e0, .nil, Nat.le_refl _, L2', p0⟩, ?_⟩
  rintro i m H ⟨rfl, hi, B2, vs, acc, sB, bp, hpv, da, hal, L, hPi⟩
  by_cases hlt : i < ds.length
  · refine .inr ⟨wk.go i B2 H sB L.gr.sub hlt, fun H' => ∃ B vs acc, Same B1 B ∧ B p = none ∧ H' p = some (.lst vs) ∧ DqAll X.K B vs acc ∧ acc.length ≤ i + 1 ∧ Lay X.K W B H' σ ρ ∧ P (i + 1) acc,
      fun H' hN => ⟨ds.length - (i + 1), by omega, rfl, hlt, hN⟩, fun x H' hy => ?_⟩
    obtain ⟨d, B3, hd, s3, L3, Dx, kp, kn⟩ := wk.yld i B2 H x H' W σ ρ sB L hy hlt
    have hp3 : H' p = some (.lst vs) := kp _ _ hpv
    have bp3 : B3 p = none := kn p _ hpv bp
    obtain ⟨xs, hdec, ht⟩ := turn i d acc hd hPi hal
    have L4 : Lay X.K ⟨W.T, W.ns, B3, H'⟩ B3 H' (wipe σ js) (disown (wipeZ ρ js)) := Lay.loan (W := W) (L3.wipes js)
    refine gz B3 H' (wipe σ js) x d xs _ L4.gr.sub Dx hdec fun us hus => ⟨wipe_setV _ _ _, ?_⟩
    have L5 := L4.sets (js := js) hus
    -- behind the block's code
    have back : ∀ {B4 H4 : Hp} {σ4 : L2.St} {ρ4 : List Sl}, Lay X.K ⟨W.T, W.ns, B3, H'⟩ B4 H4 σ4 ρ4 → Same B3 B4 ∧ Lay X.K W B4 H4 σ ρ ∧ B4 p = none ∧ H4 p = some (.lst vs) := fun {B4 H4 σ4 ρ4} L6 => by
      obtain ⟨s, L7⟩ := L3.called (.inr ⟨rfl, rfl⟩) L6.gr
      exact ⟨s, L7, L6.gr.new p (by show H' p ≠ none; rw [hp3]; exact fun z => by cases z) bp3, L6.gr.keep p _ hp3 (by show W.T ≠ some p; exact hT)⟩
    refine ht ⟨W.T, W.ns, B3, H'⟩ rfl _ _ _ _ L5 fun kk H4 B4 s4 L6 hq => ?_
    cases kk with
    | true =>
      rw [if_pos rfl]
      refine hq.1 rfl ⟨W.T, W.ns, B3, H'⟩ rfl _ _ _ _ L6 fun y H5 B5 dy s5 L7 Dy hy => ?_
      obtain ⟨s6, L8, b8, h8⟩ := back L7
      refine ⟨vs, h8, by rw [dpAll_len da]; omega, B5, vs ++ [y], acc ++ [dy], (sB.trans s3).trans s6, b8, upd_same, dpAll_app (dpAllMono (s3.trans s6) _ _ da) (.cons Dy .nil), by simp; omega, L8.other _ b8 h0 own0, hy⟩
    | false =>
      rw [if_neg Bool.false_ne_true]
      obtain ⟨s6, L8, b8, h8⟩ := back L6
      exact ⟨B4, vs, acc, (sB.trans s3).trans s6, b8, h8, dpAllMono (s3.trans s6) _ _ da, by omega, L8, hq.2 rfl⟩
  · have ei : i = ds.length := by omega
    subst ei
    exact .inl ⟨wk.stop B2 H sB L.gr.sub, k p vs H B2 acc (s1.trans sB) L bp h0 own0 hpv da (fin acc hPi hal)⟩
theorem lc_run {tg iter : Expr} {js : List Nat} {g : TG} {tt : TT} {te : TE} {dec : PyData → Option (List PyData)} (gz : GgZ X.K g js dec) {R : List PyData → Prop}
    (h : Ei X W tg iter ρ fun ds => ds.length ≤ sizeLine ∧ ∃ P : Nat → List PyData → Prop, P 0 [] ∧ (∀ i d acc, ds[i]? = some d → P i acc → acc.length ≤ i → ∃ xs, dec d = some xs ∧
      TtZ X.K W.T tt (setZ (disown (wipeZ ρ js)) js xs) fun k => (k = true → TeZ X.K W.T te (setZ (disown (wipeZ ρ js)) js xs) fun y => P (i + 1) (acc ++ [y])) ∧ (k = false → P (i + 1) acc)) ∧ ∀ acc, P ds.length acc → acc.length ≤ ds.length → R acc)
    {σ : L2.St} {H B : Hp} {Q : VK} (L : Lay X.K W B H σ ρ)
    (k : ∀ a vs H' B' ds, Same B B' → Lay X.K W B' H' σ ρ → B' a = none → W.H0 a = none → (∀ (i : Nat) (sl : Sl), ρ[i]? = some sl → sl.ow = true → σ[i]? ≠ some (some (.ref a))) → H' a = some (.lst vs) → DqAll X.K B' vs ds → R ds → Q (.ref a) H') :
    tLc (iW X tg iter) g tt te js σ H Q := lc_runG gz (fun σ H B Q L k => h.run σ H B Q L k) L k
/-! targets -/
def dec1 : PyData → Option (List PyData) := fun d => some [d]
def decT (n : Nat) : PyData → Option (List PyData)
  | .tuple ds => if ds.length = n then some ds else none
  | _ => none
theorem gg_name {K : PySem.W.Frag} (i : Nat) : GgZ K (gName i) [i] dec1 := fun B H σ v d ds Q s Dv e k => by
  cases e
  exact k [v] (.cons Dv .nil)
def gNames : List Nat → TGs
  | [] => gNil
  | j :: js => gCons (gName j) (gNames js)
theorem gg_names {K : PySem.W.Frag} {B H : Hp} : ∀ (js : List Nat) (ds : List PyData) (vs : List V) (σ : L2.St) (Q : L2.St → Hp → Prop), js.length = ds.length → DqAll K B vs ds → Q (setV σ js vs) H → gNames js vs σ H Q
  | [], [], _, _, _, _, h, q => by cases h; exact ⟨rfl, q⟩
  | j :: js, d :: ds, _, σ, Q, hl, h, q => by
    cases h with
    | cons h1 h2 => exact ⟨_, _, rfl, gg_names js ds _ _ Q (by simpa using hl) h2 q⟩
theorem gg_tup {K : PySem.W.Frag} (js : List Nat) : GgZ K (gTup K js.length (gNames js)) js (decT js.length) := fun B H σ v d ds Q s Dv e k => by
  cases d with
  | tuple xs =>
    have e1 : (if xs.length = js.length then some xs else none) = some ds := e
    by_cases hl : xs.length = js.length
    · rw [if_pos hl] at e1
      have e2 : xs = ds := Option.some.inj e1
      subst e2
      obtain ⟨p, vs, rfl, h1, h2⟩ := dp_tup Dv
      exact ⟨p, vs, rfl, seqT s h1, by rw [dpAll_len h2]; exact hl, gg_names js xs vs σ Q hl.symm h2 (k vs h2)⟩
    · rw [if_neg hl] at e1
      exact absurd e1 (by simp)
  | none => exact absurd (show (none : Option (List PyData)) = some ds from e) (by simp)
  | bool _ => exact absurd (show (none : Option (List PyData)) = some ds from e) (by simp)
  | int _ => exact absurd (show (none : Option (List PyData)) = some ds from e) (by simp)
  | str _ => exact absurd (show (none : Option (List PyData)) = some ds from e) (by simp)
  | list _ => exact absurd (show (none : Option (List PyData)) = some ds from e) (by simp)
  | dict _ => exact absurd (show (none : Option (List PyData)) = some ds from e) (by simp)
/-- a block of the comprehension -/
abbrev Blk (X : Cx) (scope : Scope) (Y : Cx) : Prop := ∃ (s : Shared) (H : Hp) (C : Addr) (cl : List (Str × Addr)) (fp : List Addr), Y = X.blk s H scope (compEnvC scope cl C X.env) fp
def teB (X : Cx) (scope : Scope) (e : Expr) : TE := fun σ H Q => ∀ Y, Blk X scope Y → tW Y e σ H Q
def ttB (X : Cx) (scope : Scope) (e : Expr) : TT := fun σ H Q => ∀ Y, Blk X scope Y → tWt Y e σ H Q
theorem teZ {scope : Scope} {T : Option Addr} {R : PyData → Prop} (h : ∀ Y, Blk X scope Y → ∀ W : Wd, W.T = T → Ev Y W e ρ R) : TeZ X.K T (teB X scope e) ρ R := fun W hW σ H B Q L k Y hY => by
  have := h Y hY W hW
  obtain ⟨s, H0, C, cl, fp, rfl⟩ := hY
  exact this.run σ H B Q L k
theorem ttZ {scope : Scope} {T : Option Addr} {R : Bool → Prop} (h : ∀ Y, Blk X scope Y → ∀ W : Wd, W.T = T → Et Y W e ρ R) : TtZ X.K T (ttB X scope e) ρ R := fun W hW σ H B Q L k Y hY => by
  have := h Y hY W hW
  obtain ⟨s, H0, C, cl, fp, rfl⟩ := hY
  exact this.run σ H B Q L k
theorem ttYes {T : Option Addr} {K : PySem.W.Frag} {R : Bool → Prop} (h : R true) : TtZ K T tYes ρ R := fun W hW σ H B Q L k => k true H B (Same.refl _) L h
section
variable {tg iter elt : Expr} {scope : Scope} {own : List (Str × Nat)} {R : List PyData → Prop}
theorem blkE {s : Shared} {H : Hp} {C : Addr} {cl : List (Str × Addr)} {fp : List Addr} : PE (X.blk s H scope (compEnvC scope cl C X.env) fp) e (teB X scope e) := ⟨fun pins s0 _ _ _ I q => q _ ⟨s, H, C, cl, fp, rfl⟩ pins s0 I⟩
theorem blkT {s : Shared} {H : Hp} {C : Addr} {cl : List (Str × Addr)} {fp : List Addr} : PT (X.blk s H scope (compEnvC scope cl C X.env) fp) e (ttB X scope e) := ⟨fun pins s0 _ _ _ I q => q _ ⟨s, H, C, cl, fp, rfl⟩ pins s0 I⟩
/-- what the walk of a comprehension without a test asks -/
def LcA (X : Cx) (W : Wd) (tg iter elt : Expr) (scope : Scope) (ρ : List Sl) (js : List Nat) (dec : PyData → Option (List PyData)) (R : List PyData → Prop) : Prop :=
  Ei X W tg iter ρ fun ds => ds.length ≤ sizeLine ∧ ∃ P : Nat → List PyData → Prop, P 0 [] ∧ (∀ i d acc, ds[i]? = some d → P i acc → acc.length ≤ i → ∃ xs, dec d = some xs ∧
      ∀ Y, Blk X scope Y → ∀ W' : Wd, W'.T = W.T → Ev Y W' elt (setZ (disown (wipeZ ρ js)) js xs) fun y => P (i + 1) (acc ++ [y])) ∧ ∀ acc, P ds.length acc → acc.length ≤ ds.length → R acc
/-- .. with one test -/
def LcI (X : Cx) (W : Wd) (tg iter elt c : Expr) (scope : Scope) (ρ : List Sl) (js : List Nat) (dec : PyData → Option (List PyData)) (R : List PyData → Prop) : Prop :=
  Ei X W tg iter ρ fun ds => ds.length ≤ sizeLine ∧ ∃ P : Nat → List PyData → Prop, P 0 [] ∧ (∀ i d acc, ds[i]? = some d → P i acc → acc.length ≤ i → ∃ xs, dec d = some xs ∧
      ∀ Y, Blk X scope Y → ∀ W' : Wd, W'.T = W.T → Et Y W' c (setZ (disown (wipeZ ρ js)) js xs) fun k =>
        (k = true → ∀ Y, Blk X scope Y → ∀ W' : Wd, W'.T = W.T → Ev Y W' elt (setZ (disown (wipeZ ρ js)) js xs) fun y => P (i + 1) (acc ++ [y])) ∧ (k = false → P (i + 1) acc)) ∧ ∀ acc, P ds.length acc → acc.length ≤ ds.length → R acc
theorem LcA.go {g : TG} {js : List Nat} {dec : PyData → Option (List PyData)} (gz : GgZ X.K g js dec) (h : LcA X W tg iter elt scope ρ js dec R)
    {σ : L2.St} {H B : Hp} {Q : VK} (L : Lay X.K W B H σ ρ)
    (k : ∀ a vs H' B' ds, Same B B' → Lay X.K W B' H' σ ρ → B' a = none → W.H0 a = none → (∀ (i : Nat) (sl : Sl), ρ[i]? = some sl → sl.ow = true → σ[i]? ≠ some (some (.ref a))) → H' a = some (.lst vs) → DqAll X.K B' vs ds → R ds → Q (.ref a) H') :
    tLc (iW X tg iter) g tYes (teB X scope elt) js σ H Q := by
  refine lc_run gz ⟨fun σ H B Q L k => Ei.run h σ H B Q L fun J H' B' ds s L' wk ⟨hl, P, p0, turn, fin⟩ => k J H' B' ds s L' wk ⟨hl, P, p0, fun i d acc h1 h2 h3 => ?_, fin⟩⟩ L k
  obtain ⟨xs, e1, e2⟩ := turn i d acc h1 h2 h3
  exact ⟨xs, e1, ttYes ⟨fun _ => teZ e2, fun z => by cases z⟩⟩
theorem LcI.go {g : TG} {js : List Nat} {dec : PyData → Option (List PyData)} (gz : GgZ X.K g js dec) (h : LcI X W tg iter elt c scope ρ js dec R)
    {σ : L2.St} {H B : Hp} {Q : VK} (L : Lay X.K W B H σ ρ)
    (k : ∀ a vs H' B' ds, Same B B' → Lay X.K W B' H' σ ρ → B' a = none → W.H0 a = none → (∀ (i : Nat) (sl : Sl), ρ[i]? = some sl → sl.ow = true → σ[i]? ≠ some (some (.ref a))) → H' a = some (.lst vs) → DqAll X.K B' vs ds → R ds → Q (.ref a) H') :
    tLc (iW X tg iter) g (ttB X scope c) (teB X scope elt) js σ H Q := by
  refine lc_run gz ⟨fun σ H B Q L k => Ei.run h σ H B Q L fun J H' B' ds s L' wk ⟨hl, P, p0, turn, fin⟩ => k J H' B' ds s L' wk ⟨hl, P, p0, fun i d acc h1 h2 h3 => ?_, fin⟩⟩ L k
  obtain ⟨xs, e1, e2⟩ := turn i d acc h1 h2 h3
  exact ⟨xs, e1, ttZ fun Y hY W' hW => (e2 Y hY W' hW).imp fun k hk => ⟨fun z => teZ (hk.1 z), hk.2⟩⟩
/-- [elt for x in iter] -/
theorem el_lc {g : TG} {js : List Nat} {dec : PyData → Option (List PyData)} (gz : GgZ X.K g js dec) (hg : ∀ (s : Shared) (H : Hp) (C : Addr) (cl : List (Str × Addr)) (fp : List Addr), PG (X.blk s H scope (compEnvC scope cl C X.env) fp) tg g)
    (hc : X.calm = true) (nd : X.N.Nodup) (ok : BlkOk X.N X.env.scope scope own) (ej : own.map (·.2) = js) (h : LcA X W tg iter elt scope ρ js dec R)
    (hs : ∀ x, foldedSetIterable iter X.env x = pure x := by intro _; rfl) : El X W (.ListComp elt [⟨tg, iter, [], 0⟩] scope pos) ρ R := by
  subst ej
  exact ⟨fun σ H B Q L k => (pe_lc hc nd pi_w ok hg (fun _ _ _ _ _ => pts_nil) (fun _ _ _ _ _ => blkE) hs).toZ (h.go gz L k)⟩
/-- [elt for x in iter if c] -/
theorem el_lcI {g : TG} {js : List Nat} {dec : PyData → Option (List PyData)} (gz : GgZ X.K g js dec) (hg : ∀ (s : Shared) (H : Hp) (C : Addr) (cl : List (Str × Addr)) (fp : List Addr), PG (X.blk s H scope (compEnvC scope cl C X.env) fp) tg g)
    (hc : X.calm = true) (nd : X.N.Nodup) (ok : BlkOk X.N X.env.scope scope own) (ej : own.map (·.2) = js) (h : LcI X W tg iter elt c scope ρ js dec R)
    (hs : ∀ x, foldedSetIterable iter X.env x = pure x := by intro _; rfl) : El X W (.ListComp elt [⟨tg, iter, [c], 0⟩] scope pos) ρ R := by
  subst ej
  exact ⟨fun σ H B Q L k => (pe_lc hc nd pi_w ok hg (fun _ _ _ _ _ => pts_one blkT) (fun _ _ _ _ _ => blkE) hs).toZ (h.go gz L k)⟩
/-- y = [..], y a plain local -/
theorem es_lc (i : Nat) {y : Str} {py spos : Pos} {g : TG} {js : List Nat} {dec : PyData → Option (List PyData)} (gz : GgZ X.K g js dec) (hg : ∀ (s : Shared) (H : Hp) (C : Addr) (cl : List (Str × Addr)) (fp : List Addr), PG (X.blk s H scope (compEnvC scope cl C X.env) fp) tg g)
    (hc : X.calm = true) (nd : X.N.Nodup) (ok : BlkOk X.N X.env.scope scope own) (ej : own.map (·.2) = js) (h : LcA X W tg iter elt scope ρ js dec fun ds => D.nx (ρ.set i (.own ds)))
    (hsw : swapsWith (.ListComp elt [⟨tg, iter, [], 0⟩] scope pos) (some (.Name y py)) spos.line X.env = pure true) (hy : X.N[i]? = some y := by rfl) (hyl : X.env.scope.names.lookup y = some .local := by rfl)
    (hs : ∀ x, foldedSetIterable iter X.env x = pure x := by intro _; rfl) : Es X W (.Assign [.Name y py] (.ListComp elt [⟨tg, iter, [], 0⟩] scope pos) spos) ρ D := by
  subst ej
  exact ⟨fun σ H B L => (ps_setLc hc nd hy hyl hsw pi_w ok hg (fun _ _ _ _ _ => pts_nil) (fun _ _ _ _ _ => blkE) hs).toZ (h.go gz L fun p vs H' B' ds s L' h1 h2 h3 h4 h5 r => ⟨B', _, s, L'.own h1 h2 h3 h4 h5, r⟩)⟩
theorem es_lcI (i : Nat) {y : Str} {py spos : Pos} {g : TG} {js : List Nat} {dec : PyData → Option (List PyData)} (gz : GgZ X.K g js dec) (hg : ∀ (s : Shared) (H : Hp) (C : Addr) (cl : List (Str × Addr)) (fp : List Addr), PG (X.blk s H scope (compEnvC scope cl C X.env) fp) tg g)
    (hc : X.calm = true) (nd : X.N.Nodup) (ok : BlkOk X.N X.env.scope scope own) (ej : own.map (·.2) = js) (h : LcI X W tg iter elt c scope ρ js dec fun ds => D.nx (ρ.set i (.own ds)))
    (hsw : swapsWith (.ListComp elt [⟨tg, iter, [c], 0⟩] scope pos) (some (.Name y py)) spos.line X.env = pure true) (hy : X.N[i]? = some y := by rfl) (hyl : X.env.scope.names.lookup y = some .local := by rfl)
    (hs : ∀ x, foldedSetIterable iter X.env x = pure x := by intro _; rfl) : Es X W (.Assign [.Name y py] (.ListComp elt [⟨tg, iter, [c], 0⟩] scope pos) spos) ρ D := by
  subst ej
  exact ⟨fun σ H B L => (ps_setLc hc nd hy hyl hsw pi_w ok hg (fun _ _ _ _ _ => pts_one blkT) (fun _ _ _ _ _ => blkE) hs).toZ (h.go gz L fun p vs H' B' ds s L' h1 h2 h3 h4 h5 r => ⟨B', _, s, L'.own h1 h2 h3 h4 h5, r⟩)⟩
end

/-! ### built-ins -/
@[reducible] def rLen : PyData → (PyData → Prop) → Prop
  | .list ds, R => R (.int (ds.length : Int))
  | .tuple ds, R => R (.int (ds.length : Int))
  | _, _ => False
@[reducible] def rSeq : PyData → (List PyData → Prop) → Prop
  | .list ds, R => R ds
  | .tuple ds, R => R ds
  | _, _ => False
theorem ev_len {p : Pos} {R : PyData → Prop} (hm : X.mg "len" = none) (h : Ev X W e ρ fun d => rLen d R) (hg : Gl X "len" := by rfl)
    (he : starEach [e] X.env = (false, eval e X.env) :: starEach [] X.env := by rfl) (hpl : (backTo pos (starEach [] X.env)).any (·.1) = false := by rfl) : Ev X W (.Call (.Name "len" p) [e] [] pos) ρ R := by
  refine ⟨fun σ H B Q L k => (pe_callB call_len_seq hg hm PySem.boot_len (pa_cons pe_w pa_nil he) (by decide) (by decide) he hpl).toZ ?_⟩
  refine h.run σ H B _ L fun v H1 B1 d s1 L1 D1 h2 => ?_
  cases d <;> first | exact h2.elim | skip
  · obtain ⟨q, vs, rfl, h3, h4⟩ := dp_list D1
    refine ⟨q, vs, rfl, .inl (SqL.of (L1.gr.sub _ _ h3)), ?_⟩
    rw [dpAll_len h4]
    exact k _ H1 B1 _ s1 L1 (.int _) h2
  · obtain ⟨q, vs, rfl, h3, h4⟩ := dp_tup D1
    refine ⟨q, vs, rfl, .inr (seqT L1.gr.sub h3), ?_⟩
    rw [dpAll_len h4]
    exact k _ H1 B1 _ s1 L1 (.int _) h2
theorem ev_lenOwn (i : Nat) {x : Str} {px : Pos} {p : Pos} {R : PyData → Prop} {ds : List PyData} (hm : X.mg "len" = none) (hρ : ρ[i]? = some (.own ds)) (h : R (.int (ds.length : Int))) (hN : X.N[i]? = some x := by rfl) (hv : Vis X.env.scope x := by first | exact Or.inl rfl | exact Or.inr (Or.inl rfl) | exact Or.inr (Or.inr rfl)) (hg : Gl X "len" := by rfl)
    (hd : (x == ("__debug__" : Str)) = false := by decide) (hcd : (x == ("__classdict__" : Str)) = false := by decide)
    (he : starEach [.Name x px] X.env = (false, eval (.Name x px) X.env) :: starEach [] X.env := by rfl) (hpl : (backTo pos (starEach [] X.env)).any (·.1) = false := by rfl) : Ev X W (.Call (.Name "len" p) [.Name x px] [] pos) ρ R := by
  refine ⟨fun σ H B Q L k => (pe_callB call_len_seq hg hm PySem.boot_len (pa_cons (pe_var hN hv hd hcd) pa_nil he) (by decide) (by decide) he hpl).toZ ?_⟩
  obtain ⟨q, vs, e1, e2, e3, e4, e5⟩ := L.at' i _ hρ
  refine ⟨.ref q, e1, q, vs, rfl, .inl (SqL.of e4), ?_⟩
  rw [dpAll_len e5]
  exact k _ H B _ (Same.refl _) L (.int _) h
theorem boot_max : bootBuiltins "max" = some (.builtin "max") := by decide +kernel
theorem boot_min : bootBuiltins "min" = some (.builtin "min") := by decide +kernel
theorem boot_all : bootBuiltins "all" = some (.builtin "all") := by decide +kernel
theorem boot_list : bootBuiltins "list" = some (.type "list") := by decide +kernel
theorem boot_tuple : bootBuiltins "tuple" = some (.type "tuple") := by decide +kernel
theorem boot_sorted : bootBuiltins "sorted" = some (.builtin "sorted") := by decide +kernel
@[reducible] def r2I : PyData → PyData → (Int → Int → Prop) → Prop
  | .int i, .int j, K => K i j
  | _, _, _ => False
theorem ev_max2 {p : Pos} {R : PyData → Prop} (hc : X.calm = true) (hm : X.mg "max" = none) (h : Ev X W a ρ fun d => Ev X W b ρ fun d' => r2I d d' fun i j => ∀ m : Int, i ≤ m → j ≤ m → (m = i ∨ m = j) → R (.int m)) (hg : Gl X "max" := by rfl)
    (he : starEach [a, b] X.env = (false, eval a X.env) :: starEach [b] X.env := by rfl) (he2 : starEach [b] X.env = (false, eval b X.env) :: starEach [] X.env := by rfl) (hpl : (backTo pos (starEach [b] X.env)).any (·.1) = false := by rfl) : Ev X W (.Call (.Name "max" p) [a, b] [] pos) ρ R := by
  refine ⟨fun σ H B Q L k => (pe_callB (call_max2 hc) hg hm boot_max (pa_cons pe_w (pa_cons pe_w pa_nil he2) he) (by decide) (by decide) he hpl).toZ ?_⟩
  refine h.run σ H B _ L fun v H1 B1 d s1 L1 D1 h2 => ?_
  refine h2.run σ H1 B1 _ L1 fun u H2 B2 d' s2 L2 D2 h3 => ?_
  cases d <;> cases d' <;> first | exact h3.elim | skip
  rename_i i j
  cases dp_int D1
  cases dp_int D2
  exact ⟨i, j, rfl, k _ H2 B2 _ (s1.trans s2) L2 (.int _) (h3 _ (by split <;> omega) (by split <;> omega) (by split <;> simp))⟩
theorem ev_min2 {p : Pos} {R : PyData → Prop} (hc : X.calm = true) (hm : X.mg "min" = none) (h : Ev X W a ρ fun d => Ev X W b ρ fun d' => r2I d d' fun i j => ∀ m : Int, m ≤ i → m ≤ j → (m = i ∨ m = j) → R (.int m)) (hg : Gl X "min" := by rfl)
    (he : starEach [a, b] X.env = (false, eval a X.env) :: starEach [b] X.env := by rfl) (he2 : starEach [b] X.env = (false, eval b X.env) :: starEach [] X.env := by rfl) (hpl : (backTo pos (starEach [b] X.env)).any (·.1) = false := by rfl) : Ev X W (.Call (.Name "min" p) [a, b] [] pos) ρ R := by
  refine ⟨fun σ H B Q L k => (pe_callB (call_min2 hc) hg hm boot_min (pa_cons pe_w (pa_cons pe_w pa_nil he2) he) (by decide) (by decide) he hpl).toZ ?_⟩
  refine h.run σ H B _ L fun v H1 B1 d s1 L1 D1 h2 => ?_
  refine h2.run σ H1 B1 _ L1 fun u H2 B2 d' s2 L2 D2 h3 => ?_
  cases d <;> cases d' <;> first | exact h3.elim | skip
  rename_i i j
  cases dp_int D1
  cases dp_int D2
  exact ⟨i, j, rfl, k _ H2 B2 _ (s1.trans s2) L2 (.int _) (h3 _ (by split <;> omega) (by split <;> omega) (by split <;> simp))⟩
theorem dq_ints {K : PySem.W.Frag} {B : Hp} : ∀ {ns : List Int} {vs : List V}, DqAll K B vs (ns.map PyData.int) → vs = ns.map V.int
  | [], _, h => by cases h; rfl
  | n :: ns, _, h => by
    cases h with
    | cons h1 h2 => rw [dp_int h1, dq_ints h2]; rfl
theorem dq_bools {K : PySem.W.Frag} {B : Hp} : ∀ {ns : List Bool} {vs : List V}, DqAll K B vs (ns.map PyData.bool) → vs = ns.map V.bl
  | [], _, h => by cases h; rfl
  | n :: ns, _, h => by
    cases h with
    | cons h1 h2 => rw [dp_bool h1, dq_bools h2]; rfl
theorem ints_dq {K : PySem.W.Frag} {B : Hp} : ∀ ns : List Int, DqAll K B (ns.map V.int) (ns.map PyData.int)
  | [] => .nil
  | n :: ns => .cons (.int n) (ints_dq ns)
/-- min(xs) of a list of ints -/
theorem ev_minL {p : Pos} {R : PyData → Prop} (hc : X.calm = true) (hm : X.mg "min" = none) (h : Ev X W e ρ fun d => ∃ ns : List Int, d = .list (ns.map PyData.int) ∧ 0 < ns.length ∧ ∀ m, m ∈ ns → (∀ y, y ∈ ns → m ≤ y) → R (.int m)) (hg : Gl X "min" := by rfl)
    (he : starEach [e] X.env = (false, eval e X.env) :: starEach [] X.env := by rfl) (hpl : (backTo pos (starEach [] X.env)).any (·.1) = false := by rfl) : Ev X W (.Call (.Name "min" p) [e] [] pos) ρ R := by
  refine ⟨fun σ H B Q L k => (pe_callB (cr_min hc) hg hm boot_min (pa_cons pe_w pa_nil he) (by decide) (by decide) he hpl).toZ ?_⟩
  refine h.run σ H B _ L fun v H1 B1 d s1 L1 D1 h2 => ?_
  obtain ⟨ns, rfl, h3, h4⟩ := h2
  obtain ⟨q, vs, rfl, h5, h6⟩ := dp_list D1
  cases dq_ints h6
  exact ⟨q, ns, rfl, SqL.of (L1.gr.sub _ _ h5), h3, fun m h7 h8 => k _ H1 B1 _ s1 L1 (.int m) (h4 m h7 h8)⟩
/-- all(bs) of a list of bools -/
theorem ev_all {p : Pos} {R : PyData → Prop} (hc : X.calm = true) (hm : X.mg "all" = none) (h : Ev X W e ρ fun d => ∃ bs : List Bool, d = .list (bs.map PyData.bool) ∧ R (.bool (bs.all id))) (hg : Gl X "all" := by rfl)
    (he : starEach [e] X.env = (false, eval e X.env) :: starEach [] X.env := by rfl) (hpl : (backTo pos (starEach [] X.env)).any (·.1) = false := by rfl) : Ev X W (.Call (.Name "all" p) [e] [] pos) ρ R := by
  refine ⟨fun σ H B Q L k => (pe_callB (cr_all hc) hg hm boot_all (pa_cons pe_w pa_nil he) (by decide) (by decide) he hpl).toZ ?_⟩
  refine h.run σ H B _ L fun v H1 B1 d s1 L1 D1 h2 => ?_
  obtain ⟨bs, rfl, h3⟩ := h2
  obtain ⟨q, vs, rfl, h5, h6⟩ := dp_list D1
  cases dq_bools h6
  exact ⟨q, bs, rfl, SqL.of (L1.gr.sub _ _ h5), k _ H1 B1 _ s1 L1 (.bl _) h3⟩
/-- list(xs) -/
theorem el_list {p : Pos} {R : List PyData → Prop} (hm : X.mg "list" = none) (h : Ev X W e ρ fun d => rSeq d R) (hg : Gl X "list" := by rfl)
    (he : starEach [e] X.env = (false, eval e X.env) :: starEach [] X.env := by rfl) (hpl : (backTo pos (starEach [] X.env)).any (·.1) = false := by rfl) : El X W (.Call (.Name "list" p) [e] [] pos) ρ R := by
  refine ⟨fun σ H B Q L k => (pe_callTy call_list_of hg hm boot_list (pa_cons pe_w pa_nil he) (by decide) (by decide) he hpl).toZ ?_⟩
  refine h.run σ H B _ L fun v H1 B1 d s1 L1 D1 h2 => ?_
  cases d <;> first | exact h2.elim | skip
  · rename_i ds
    obtain ⟨q, vs, rfl, h3, h4⟩ := dp_list D1
    refine ⟨q, vs, rfl, .inl (SqL.of (L1.gr.sub _ _ h3)), fun l hl => ?_⟩
    obtain ⟨L', q1, q2, q3, q4⟩ := fresh_own L1 hl ds vs h4
    exact k l vs _ B1 ds s1 L' q1 q2 q3 q4 h4 h2
  · rename_i ds
    obtain ⟨q, vs, rfl, h3, h4⟩ := dp_tup D1
    refine ⟨q, vs, rfl, .inr (seqT L1.gr.sub h3), fun l hl => ?_⟩
    obtain ⟨L', q1, q2, q3, q4⟩ := fresh_own L1 hl ds vs h4
    exact k l vs _ B1 ds s1 L' q1 q2 q3 q4 h4 h2
/-- tuple(xs) -/
theorem ev_tupleOf {p : Pos} {R : PyData → Prop} (hm : X.mg "tuple" = none) (h : Ev X W e ρ fun d => match d with | .list ds => R (.tuple ds) | .tuple ds => R (.tuple ds) | _ => False) (hg : Gl X "tuple" := by rfl)
    (he : starEach [e] X.env = (false, eval e X.env) :: starEach [] X.env := by rfl) (hpl : (backTo pos (starEach [] X.env)).any (·.1) = false := by rfl) : Ev X W (.Call (.Name "tuple" p) [e] [] pos) ρ R := by
  refine ⟨fun σ H B Q L k => (pe_callTy call_tuple_of hg hm boot_tuple (pa_cons pe_w pa_nil he) (by decide) (by decide) he hpl).toZ ?_⟩
  refine h.run σ H B _ L fun v H1 B1 d s1 L1 D1 h2 => ?_
  cases d <;> first | exact h2.elim | skip
  · rename_i ds
    obtain ⟨q, vs, rfl, h3, h4⟩ := dp_list D1
    refine ⟨q, vs, rfl, .inl ⟨SqL.of (L1.gr.sub _ _ h3), fun l hl => ?_⟩⟩
    obtain ⟨s, L'⟩ := L1.fresh hl (.tup vs)
    exact k _ _ _ _ (s1.trans s) L' (.tup (SqT.of upd_same) (dpAllMono s _ _ h4)) h2
  · rename_i ds
    obtain ⟨q, vs, rfl, h3, h4⟩ := dp_tup D1
    exact ⟨q, vs, rfl, .inr ⟨seqT L1.gr.sub h3, k _ H1 B1 _ s1 L1 D1 h2⟩⟩
end

/-! ### defs -/
def startZ (N : List Str) (ds : List PyData) : List Sl := ds.map Sl.im ++ List.replicate (N.length - ds.length) Sl.no
theorem start_im {K : PySem.W.Frag} {B : Hp} : ∀ {ds : List PyData} {vs : List V}, DqAll K B vs ds → ∀ (i : Nat) (sl : Sl), (ds.map Sl.im)[i]? = some sl → ∃ v d, sl = .im d ∧ (vs.map some)[i]? = some (some v) ∧ Dq K B v d
  | [], _, _, i, sl, e => by simp at e
  | d :: ds, _, h, i, sl, e => by
    cases h with
    | cons h1 h2 =>
      cases i with
      | zero =>
        simp at e
        exact ⟨_, d, e.symm, by simp, h1⟩
      | succ i =>
        obtain ⟨v, d', a, b, c⟩ := start_im h2 i sl (by simpa using e)
        exact ⟨v, d', a, by simpa using b, c⟩
theorem start_ow {ds : List PyData} {n i : Nat} {sl : Sl} (e : (ds.map Sl.im ++ List.replicate n Sl.no)[i]? = some sl) : sl.ow = false := by
  have h := List.mem_of_getElem? e
  rcases List.mem_append.mp h with h | h
  · obtain ⟨d, _, rfl⟩ := List.mem_map.mp h
    rfl
  · rw [(List.mem_replicate.mp h).2]
    rfl
theorem start_lay {K : PySem.W.Frag} {B H : Hp} {N : List Str} {ds : List PyData} {vs : List V} {T : Option Addr} {ns : Addr × List Int} (s : Same B H) (t : ∀ a, T = some a → Tape ns B H a) (h : DqAll K B vs ds) : Lay K ⟨T, ns, B, H⟩ B H (L2.start N vs) (startZ N ds) := by
  have hl := dpAll_len h
  refine ⟨Gr.refl s t, by simp [L2.start, startZ, hl], fun i sl e => ?_, fun i j s t _ e1 _ o1 _ => by rw [start_ow e1] at o1; cases o1⟩
  unfold startZ at e
  by_cases hi : i < ds.length
  · rw [List.getElem?_append_left (by simpa using hi)] at e
    obtain ⟨v, d, rfl, e2, Dv⟩ := start_im h i sl e
    refine ⟨v, ?_, Dv⟩
    unfold L2.start
    rw [List.getElem?_append_left (by simp; omega)]
    exact e2
  · have e3 := List.mem_of_getElem? (by rw [List.getElem?_append_right (by simpa using hi)] at e; exact e)
    rw [(List.mem_replicate.mp e3).2]
    trivial
section
variable {P : Program} {w : World} {K : PySem.W.Frag} {mg : Str → Option Value} {base : Heap}
/-- the context of a def's body -/
abbrev Bx (P : Program) (w : World) (K : PySem.W.Frag) (mg : Str → Option Value) (base : Heap) (N : List Str) (qual : Str) (sc : Scope) (f : Addr) (cdv : Value) (A : Around) (outer : List Env) (s : Shared) (H : Hp) (E : XK) : Cx := (cxOf CX0 P w K mg base N qual sc f cdv A outer s H E).nox
theorem fn_con {x qual : Str} {st : Stmt} {f : Addr} {fd : FuncData} {N ps : List Str} {k : Nat} {P' : List PyData → (PyData → Prop) → Prop} (F : Fun K x qual st f fd) (S : FnScope N ps (defScope st)) (len : ∀ ds R, P' ds R → ds.length = ps.length)
    (body : ∀ (cdv : Value) (A : Around) (outer : List Env) (s : Shared) (H : Hp) (E : XK) (W : Wd) (ds : List PyData) (R : PyData → Prop), Room k (Bx P w K mg base N qual (defScope st) f cdv A outer s H E).A → P' ds R →
      Ess (Bx P w K mg base N qual (defScope st) f cdv A outer s H E) W (defBody st) (startZ N ds) { nx := fun _ => R .none, rt := R }) : FnOk P w K mg base CX0 (k + 1) f fd ps (Con K P') := by
  refine F.ok S (fun vs H Q E h => ?_) (fun cdv A outer s H vs Q E hr h => ?_)
  · obtain ⟨B, ds, R, _, h1, h2, _⟩ := h
    rw [dpAll_len h1]
    exact len ds R h2
  · obtain ⟨B, ds, R, sB, h1, h2, q⟩ := h
    refine ⟨_, pss_w, ?_⟩
    intro pins s0 I
    have L := start_lay (N := N) (T := none) (ns := (0, [])) sB (fun _ z => by cases z) h1
    refine thn ((body cdv A outer s H E ⟨none, (0, []), B, H⟩ ds R hr h2).run _ _ _ L pins s0 I) fun fl s' hs => ?_
    cases fl with
    | next => obtain ⟨σ', H', I', B', ρ', s', L', r⟩ := hs; exact ⟨σ', H', I', q .non H' B' .none L'.gr .non r⟩
    | brk => obtain ⟨σ', H', I', B', ρ', s', L', r⟩ := hs; exact r.elim
    | cont => obtain ⟨σ', H', I', B', ρ', s', L', r⟩ := hs; exact r.elim
    | ret u => obtain ⟨v, σ', H', I', r, B', d, g, Dv, rr⟩ := hs; exact ⟨v, σ', H', I', r, q v H' B' d g Dv rr⟩
/-- .. of a def that takes the tape first -/
theorem fn_conT {x qual : Str} {st : Stmt} {f : Addr} {fd : FuncData} {N ps : List Str} {k : Nat} {P' : List PyData → (PyData → Prop) → Prop} (F : Fun K x qual st f fd) (S : FnScope N ps (defScope st)) (len : ∀ ds R, P' ds R → ds.length + 1 = ps.length)
    (body : ∀ (cdv : Value) (A : Around) (outer : List Env) (s : Shared) (H : Hp) (E : XK) (W : Wd) (ds : List PyData) (R : PyData → Prop), Room k (Bx P w K mg base N qual (defScope st) f cdv A outer s H E).A → P' ds R →
      Ess (Bx P w K mg base N qual (defScope st) f cdv A outer s H E) W (defBody st) (.tape :: startZ N.tail ds) { nx := fun _ => R .none, rt := R }) (hN : N ≠ [] := by simp) : FnOk P w K mg base CX0 (k + 1) f fd ps (ConT K P') := by
  refine F.ok S (fun vs H Q E h => ?_) (fun cdv A outer s H vs Q E hr h => ?_)
  · obtain ⟨B, ds, R, T, ns, vs', rfl, _, _, h1, h2, _⟩ := h
    rw [List.length_cons, dpAll_len h1]
    exact len ds R h2
  · obtain ⟨B, ds, R, T, ns, vs', rfl, sB, tp, h1, h2, q⟩ := h
    refine ⟨_, pss_w, ?_⟩
    intro pins s0 I
    have tt : ∀ a, some T = some a → Tape ns B H a := fun a z => by cases z; exact tp
    have L0 := start_lay (N := N.tail) (T := some T) sB tt h1
    have e1 : L2.start N (V.ref T :: vs') = some (V.ref T) :: L2.start N.tail vs' := by
      cases N with
      | nil => exact absurd rfl hN
      | cons n N => simp [L2.start]
    have L : Lay K ⟨some T, ns, B, H⟩ B H (L2.start N (V.ref T :: vs')) (.tape :: startZ N.tail ds) := by
      rw [e1]
      refine ⟨L0.gr, by simp [L0.len], fun i sl e => ?_, fun i j s t hne f1 f2 o1 o2 => ?_⟩
      · cases i with
        | zero =>
          simp at e
          subst e
          exact ⟨T, rfl, by simp⟩
        | succ i => simpa using L0.at' i sl (by simpa using e)
      · cases i with
        | zero =>
          simp at f1
          subst f1
          cases o1
        | succ i =>
          have f1' : (startZ N.tail ds)[i]? = some s := by simpa using f1
          rw [start_ow f1'] at o1
          cases o1
    refine thn ((body cdv A outer s H E ⟨some T, ns, B, H⟩ ds R hr h2).run _ _ _ L pins s0 I) fun fl s' hs => ?_
    cases fl with
    | next => obtain ⟨σ', H', I', B', ρ', s', L', r⟩ := hs; exact ⟨σ', H', I', q .non H' B' .none L'.gr .non r⟩
    | brk => obtain ⟨σ', H', I', B', ρ', s', L', r⟩ := hs; exact r.elim
    | cont => obtain ⟨σ', H', I', B', ρ', s', L', r⟩ := hs; exact r.elim
    | ret u => obtain ⟨v, σ', H', I', r, B', d, g, Dv, rr⟩ := hs; exact ⟨v, σ', H', I', r, q v H' B' d g Dv rr⟩
end
end Z

namespace Z
open PySem PySem.Spec PyProof.Rows L2
theorem zu {k : Nat} {A : Around} (hr : Room k A) : A.units + 64 < cLine := by have := hr.un; omega
theorem zu5 {k : Nat} {A : Around} (hr : Room k A) : A.units + 65 < cLine := by have := hr.un; omega
theorem zu1 {k : Nat} {A : Around} (hr : Room k A) : A.units + 1 < cLine := by have := hr.un; omega
theorem dB {p A B : Prop} [Decidable p] (h1 : p → A) (h2 : ¬ p → B) : (decide p = true → A) ∧ (decide p = false → B) := ⟨fun h => h1 (of_decide_eq_true h), fun h => h2 (of_decide_eq_false h)⟩
theorem dN {p A B : Prop} [Decidable p] (h1 : ¬ p → A) (h2 : p → B) : ((!decide p) = true → A) ∧ ((!decide p) = false → B) := ⟨fun h => h1 (by simpa using h), fun h => h2 (by simpa using h)⟩
theorem divs {i j : Int} (h : 0 < j) (h2 : j < 10 ^ 60) : CDivW i j := wide_div (b := 200) h (by omega) (by decide) (by decide)
theorem mull {i j : Int} (h : -(2 ^ 63) ≤ i) (h2 : i ≤ 2 ^ 63) : CMul i j := .inl ⟨by omega, by omega⟩
theorem mulr {i j : Int} (h : -(2 ^ 63) ≤ j) (h2 : j ≤ 2 ^ 63) : CMul i j := .inr ⟨by omega, by omega⟩
/-- an item of a written list at a place within -/
theorem pick {ds : List PyData} {n : Int} {Pr : PyData → Prop} (h0 : 0 ≤ n) (h1 : n < ds.length) (h : ∀ d ∈ ds, Pr d) : ∃ d, atI ds n = some d ∧ Pr d := by
  obtain ⟨k, rfl⟩ := Int.eq_ofNat_of_zero_le h0
  have hk : k < ds.length := by omega
  exact ⟨ds[k], atI_nat (List.getElem?_eq_getElem hk), h _ (List.getElem_mem hk)⟩
section
variable {X : Cx} {W : Wd} {ρ : List Sl} {D : Dz} {R : PyData → Prop} {pos : Pos} {a b c e : Expr} {es : List Expr} {st : Stmt} {sts body : List Stmt}
theorem ev_powc {x y m : Int} {j1 j2 p1 p2} (h : R (.int m)) (hc : CPow x y := by exact ⟨by decide, by decide, by decide⟩) (hm : x ^ y.toNat = m := by decide) : Ev X W (.BinOp (.Constant (.int x) j1 p1) .Pow (.Constant (.int y) j2 p2) pos) ρ R := by
  subst hm
  exact ev_bin oz_pow (ev_int (ev_int ⟨hc, h⟩))
theorem Es.imp {D' : Dz} (h : Es X W st ρ D) (h1 : ∀ r, D.nx r → D'.nx r) (h2 : ∀ d, D.rt d → D'.rt d) (h3 : ∀ r, D.bk r → D'.bk r) (h4 : ∀ r, D.ct r → D'.ct r) : Es X W st ρ D' := by
  refine ⟨fun σ H B L pins s I => ?_⟩
  refine thn (h.run σ H B L pins s I) fun f s' q => ?_
  cases f with
  | next => obtain ⟨σ', H', I', B', ρ', s0, L', q⟩ := q; exact ⟨σ', H', I', B', ρ', s0, L', h1 _ q⟩
  | brk => obtain ⟨σ', H', I', B', ρ', s0, L', q⟩ := q; exact ⟨σ', H', I', B', ρ', s0, L', h3 _ q⟩
  | cont => obtain ⟨σ', H', I', B', ρ', s0, L', q⟩ := q; exact ⟨σ', H', I', B', ρ', s0, L', h4 _ q⟩
  | ret u => obtain ⟨v, σ', H', I', r, B', d, g, D1, q⟩ := q; exact ⟨v, σ', H', I', r, B', d, g, D1, h2 _ q⟩
/-- the ways of a statement join -/
theorem ess_cut (Mid : List Sl → Prop) (h : Es X W st ρ { D with nx := Mid }) (h2 : ∀ r, Mid r → Ess X W sts r D) : Ess X W (st :: sts) ρ D :=
  ess_cons (h.imp h2 (fun _ q => q) (fun _ q => q) fun _ q => q)
/-- a, b, c = x, y, z of plain locals -/
theorem es_par3 (i j l : Nat) {x y z : Str} {px py pz pt : Pos} {kt k2 pt2} (h : Ea X W [a, b, c] ρ fun ds => match ds with | [d, e, f] => D.nx (((ρ.set i (.im d)).set j (.im e)).set l (.im f)) | _ => False) (hc : X.calm = true) (hN : X.N.Nodup)
    (hi : X.N[i]? = some x := by rfl) (hj : X.N[j]? = some y := by rfl) (hl : X.N[l]? = some z := by rfl) (hij : i ≠ j := by decide) (hil : i ≠ l := by decide) (hjl : j ≠ l := by decide)
    (hx : X.env.scope.names.lookup x = some .local := by rfl) (hy : X.env.scope.names.lookup y = some .local := by rfl) (hz : X.env.scope.names.lookup z = some .local := by rfl)
    (hw : swappedStores [.Tuple [.Name x px, .Name y py, .Name z pz] kt pt] (.Tuple [a, b, c] k2 pt2) X.env = pure (some [x, y, z]) := by rfl)
    (hs : swapsWithSole [.Tuple [.Name x px, .Name y py, .Name z pz] kt pt] (.Tuple [a, b, c] k2 pt2) pos.line X.env = pure false := by rfl) :
    Es X W (.Assign [.Tuple [.Name x px, .Name y py, .Name z pz] kt pt] (.Tuple [a, b, c] k2 pt2) pos) ρ D := by
  refine ⟨fun σ H B L => (ps_par3 hc hN hi hj hl hij hil hjl hx hy hz pa_w hw hs).toZ ?_⟩
  refine h.run σ H B _ L fun vs H' B' ds s L' D' r => ?_
  cases D' with
  | nil => exact r.elim
  | cons h1 h2 =>
    cases h2 with
    | nil => exact r.elim
    | cons h3 h4 =>
      cases h4 with
      | nil => exact r.elim
      | cons h5 h6 =>
        cases h6 with
        | nil => exact ⟨_, _, _, rfl, B', _, s, ((L'.put h1).put h3).put h5, r⟩
        | cons _ _ => exact r.elim

/-! ### isinstance -/
def tyD : PyData → String
  | .none => "NoneType"
  | .bool _ => "bool"
  | .int _ => "int"
  | .str _ => "str"
  | .list _ => "list"
  | .tuple _ => "tuple"
  | .dict _ => "dict"
theorem tyX_of {K : PySem.W.Frag} {B H : Hp} {v : V} {d : PyData} (s : Same B H) (h : Dq K B v d) : TyX K H v (.type (tyD d)) := by
  cases h with
  | non => exact .base .non
  | bl b => exact .base (.bl b)
  | int i => exact .base (.int i)
  | str x => exact .base (.str x)
  | lst h _ => exact .base (.lst (s _ _ h))
  | tup h _ =>
    rcases seqT s h with (h | ⟨o, h⟩) | ⟨o, its, n, hk, hc, _⟩
    · exact .base (.tup h)
    · exact .fTuple h
    · exact .kTuple hk hc
/-- is d of the class T -/
def isD (T : String) (d : PyData) : Bool := (kitB (tyD d) T).getD false
theorem boot_isinstance : bootBuiltins "isinstance" = some (.builtin "isinstance") := by decide +kernel
theorem boot_ty : bootBuiltins "int" = some (.type "int") ∧ bootBuiltins "bool" = some (.type "bool") ∧ bootBuiltins "str" = some (.type "str") := by decide +kernel
theorem ev_isi {T : Str} {n : String} {p p2 : Pos} (hm : X.mg "isinstance" = none) (hT : X.mg T = none) (hb : bootBuiltins T = some (.type n)) (h : Ev X W e ρ fun d => (kitB (tyD d) n).isSome = true ∧ R (.bool (isD n d))) (hg : Gl X "isinstance" := by rfl) (hg2 : Gl X T := by rfl)
    (he : starEach [e, .Name T p2] X.env = (false, eval e X.env) :: starEach [.Name T p2] X.env := by rfl) (he2 : starEach [.Name T p2] X.env = (false, eval (.Name T p2) X.env) :: starEach [] X.env := by rfl) (hpl : (backTo pos (starEach [.Name T p2] X.env)).any (·.1) = false := by rfl)
    (hn : T ≠ "__name__" := by decide) (hd : (T == ("__debug__" : Str)) = false := by decide) : Ev X W (.Call (.Name "isinstance" p) [e, .Name T p2] [] pos) ρ R := by
  refine ⟨fun σ H B Q L k => (pe_callB call_isi hg hm boot_isinstance (pa_cons pe_w (pa_cons (pe_bltn hg2 hT hb (v := .ty n) rfl hn hd) pa_nil he2) he) (by decide) (by decide) he hpl).toZ ?_⟩
  refine h.run σ H B _ L fun v H1 B1 d s1 L1 D1 h2 => ?_
  obtain ⟨r, hr⟩ := Option.isSome_iff_exists.mp h2.1
  refine ⟨v, .ty n, _, _, r, rfl, .ty n, tyX_of L1.gr.sub D1, kit_ty hr, ?_⟩
  have e1 : isD n d = r := by unfold isD; rw [hr]; rfl
  rw [← e1]
  exact k _ H1 B1 _ s1 L1 (.bl _) h2.2
/-- isinstance(e, (list, tuple)) -/
def isLT : PyData → Bool
  | .list _ => true
  | .tuple _ => true
  | _ => false
theorem kit_tab : ∀ t ∈ ["NoneType", "bool", "int", "str", "list", "tuple", "dict"], ∀ n ∈ ["int", "bool", "str", "list", "tuple"], kitB t n = some (t == n || (t == "bool" && n == "int")) := by decide +kernel
theorem tyD_mem (d : PyData) : tyD d ∈ ["NoneType", "bool", "int", "str", "list", "tuple", "dict"] := by
  cases d <;> simp [tyD]
theorem kit_of_tab (d : PyData) {n : String} (hn : n ∈ ["int", "bool", "str", "list", "tuple"]) : kitB (tyD d) n = some (tyD d == n || (tyD d == "bool" && n == "int")) := kit_tab _ (tyD_mem d) n hn
theorem isD_of (d : PyData) {n : String} (hn : n ∈ ["int", "bool", "str", "list", "tuple"]) : isD n d = (tyD d == n || (tyD d == "bool" && n == "int")) := by
  unfold isD
  rw [kit_of_tab d hn]
  rfl
theorem isLT_kit {K : PySem.W.Frag} (d : PyData) : PySem.W.kitAny K (.type (tyD d)) [.type "list", .type "tuple"] = some (isLT d) := by
  have q : ∀ d : PyData, kitB (tyD d) "list" = some (match d with | .list _ => true | _ => false) ∧ kitB (tyD d) "tuple" = some (match d with | .tuple _ => true | _ => false) := by
    intro d
    rw [kit_of_tab d (by simp), kit_of_tab d (by simp)]
    cases d <;> exact ⟨rfl, rfl⟩
  obtain ⟨q1, q2⟩ := q d
  refine kitAny_cons (kit_ty q1) (fun z => kitAny_cons (kit_ty q2) (fun z2 => ?_) fun z2 => ?_) fun z => ?_
  · rw [kitAny_nil]
    cases d <;> first | rfl | (simp at z; done) | (simp at z2; done)
  · cases d <;> first | rfl | (simp at z2; done)
  · cases d <;> first | rfl | (simp at z; done)
theorem ev_isiLT {p p1 p2 p3 : Pos} {x1} (hm : X.mg "isinstance" = none) (h1 : X.mg "list" = none) (h2 : X.mg "tuple" = none) (h : Ev X W e ρ fun d => R (.bool (isLT d))) (hg : Gl X "isinstance" := by rfl) (hgl : Gl X "list" := by rfl) (hgt : Gl X "tuple" := by rfl)
    (he : starEach [e, .Tuple [.Name "list" p1, .Name "tuple" p2] x1 p3] X.env = (false, eval e X.env) :: starEach [.Tuple [.Name "list" p1, .Name "tuple" p2] x1 p3] X.env := by rfl)
    (he2 : starEach [.Tuple [.Name "list" p1, .Name "tuple" p2] x1 p3] X.env = (false, eval (.Tuple [.Name "list" p1, .Name "tuple" p2] x1 p3) X.env) :: starEach [] X.env := by rfl)
    (he3 : starEach [.Name "list" p1, .Name "tuple" p2] X.env = (false, eval (.Name "list" p1) X.env) :: starEach [.Name "tuple" p2] X.env := by rfl) (he4 : starEach [.Name "tuple" p2] X.env = (false, eval (.Name "tuple" p2) X.env) :: starEach [] X.env := by rfl)
    (hpl : (backTo pos (starEach [.Tuple [.Name "list" p1, .Name "tuple" p2] x1 p3] X.env)).any (·.1) = false := by rfl) : Ev X W (.Call (.Name "isinstance" p) [e, .Tuple [.Name "list" p1, .Name "tuple" p2] x1 p3] [] pos) ρ R := by
  refine ⟨fun σ H B Q L k => (pe_callB call_isiT hg hm boot_isinstance (pa_cons pe_w (pa_cons (pe_tup (pa_cons (pe_bltn hgl h1 boot_list (v := .ty "list") rfl) (pa_cons (pe_bltn hgt h2 boot_tuple (v := .ty "tuple") rfl) pa_nil he4) he3)) pa_nil he2) he) (by decide) (by decide) he hpl).toZ ?_⟩
  refine h.run σ H B _ L fun v H1 B1 d s1 L1 D1 h2 => ?_
  refine ⟨by show 2 ≤ sizeLine; decide, fun t ht => ?_⟩
  obtain ⟨s, L'⟩ := L1.fresh ht (.tup [.ty "list", .ty "tuple"])
  exact ⟨v, t, _, _, [.type "list", .type "tuple"], isLT d, rfl, upd_same, .cons (.ty _) (.cons (.ty _) .nil), tyX_of L'.gr.sub (dpMono s _ _ D1), isLT_kit d, k _ _ _ _ (s1.trans s) L' (.bl _) h2⟩

/-! ### the law's tape -/
theorem Lay.tape {K : PySem.W.Frag} {B H : Hp} {σ : L2.St} (L : Lay K W B H σ ρ) {T : Addr} (hT : W.T = some T) {vs : List V} (t : Tape W.ns B (upd H T (.lst vs)) T) : Lay K W B (upd H T (.lst vs)) σ ρ := by
  obtain ⟨t1, t2⟩ := L.gr.tp T hT
  refine ⟨⟨same_right L.gr.sub t2.1, L.gr.base, L.gr.new, fun a o h1 h2 => ?_, fun T' h => ?_⟩, L.len, fun i sl e => (L.at' i sl e).grow (Same.refl _) fun a u g1 g2 g3 g4 g5 => ⟨g3, ?_⟩, L.dis⟩
  · have ha : a ≠ T := by
      rintro rfl
      exact h2 hT
    rw [upd_ne ha]
    exact L.gr.keep a o h1 h2
  · rw [hT] at h
    cases h
    exact ⟨t1, t⟩
  · have ha : a ≠ T := by
      rintro rfl
      exact t1 g4
    rw [upd_ne ha]
    exact g5
/-- tape[0], tape[1], tape[2] -/
theorem ev_tape0 (i : Nat) {x : Str} {px p2 : Pos} {j2} (hρ : ρ[i]? = some .tape) (h : R (.list (W.ns.2.map PyData.int))) (hN : X.N[i]? = some x := by rfl) (hv : Vis X.env.scope x := by first | exact Or.inl rfl | exact Or.inr (Or.inl rfl) | exact Or.inr (Or.inr rfl))
    (hd : (x == ("__debug__" : Str)) = false := by decide) (hcd : (x == ("__classdict__" : Str)) = false := by decide) : Ev X W (.Subscript (.Name x px) (.Constant (.int 0) j2 p2) pos) ρ R := by
  refine ⟨fun σ H B Q L k => (pe_ix ix_list (pe_var hN hv hd hcd) pe_int fun _ _ => rfl).toZ ?_⟩
  obtain ⟨T, hT, e1⟩ := L.at' i _ hρ
  obtain ⟨_, _, z, c, e, _, _, q⟩ := L.gr.tp T hT
  exact ⟨.ref T, e1, T, _, 0, .ref W.ns.1, rfl, rfl, SqL.of e, rfl, k _ H B _ (Same.refl _) L (.lst q (ints_dq _)) h⟩
theorem ev_tape1 (i : Nat) {x : Str} {px p2 : Pos} {j2} (hρ : ρ[i]? = some .tape) (h : ∀ z : Int, 0 ≤ z → R (.int z)) (hN : X.N[i]? = some x := by rfl) (hv : Vis X.env.scope x := by first | exact Or.inl rfl | exact Or.inr (Or.inl rfl) | exact Or.inr (Or.inr rfl))
    (hd : (x == ("__debug__" : Str)) = false := by decide) (hcd : (x == ("__classdict__" : Str)) = false := by decide) : Ev X W (.Subscript (.Name x px) (.Constant (.int 1) j2 p2) pos) ρ R := by
  refine ⟨fun σ H B Q L k => (pe_ix ix_list (pe_var hN hv hd hcd) pe_int fun _ _ => rfl).toZ ?_⟩
  obtain ⟨T, hT, e1⟩ := L.at' i _ hρ
  obtain ⟨_, _, z, c, e, z0, _, q⟩ := L.gr.tp T hT
  exact ⟨.ref T, e1, T, _, 1, .int z, rfl, rfl, SqL.of e, rfl, k _ H B _ (Same.refl _) L (.int z) (h z z0)⟩
theorem ev_tape2 (i : Nat) {x : Str} {px p2 : Pos} {j2} (hρ : ρ[i]? = some .tape) (h : ∀ z : Int, 0 ≤ z → R (.int z)) (hN : X.N[i]? = some x := by rfl) (hv : Vis X.env.scope x := by first | exact Or.inl rfl | exact Or.inr (Or.inl rfl) | exact Or.inr (Or.inr rfl))
    (hd : (x == ("__debug__" : Str)) = false := by decide) (hcd : (x == ("__classdict__" : Str)) = false := by decide) : Ev X W (.Subscript (.Name x px) (.Constant (.int 2) j2 p2) pos) ρ R := by
  refine ⟨fun σ H B Q L k => (pe_ix ix_list (pe_var hN hv hd hcd) pe_int fun _ _ => rfl).toZ ?_⟩
  obtain ⟨T, hT, e1⟩ := L.at' i _ hρ
  obtain ⟨_, _, z, c, e, _, c0, q⟩ := L.gr.tp T hT
  exact ⟨.ref T, e1, T, _, 2, .int c, rfl, rfl, SqL.of e, rfl, k _ H B _ (Same.refl _) L (.int c) (h c c0)⟩
/-- tape[1] = e, tape[2] = e -/
theorem es_tape (i : Nat) {x : Str} {px p2 p3 : Pos} {j : Int} {j2} (hj : j = 1 ∨ j = 2) (hρ : ρ[i]? = some .tape) (h : Ev X W e ρ fun d => match d with | .int z => 0 ≤ z ∧ D.nx ρ | _ => False) (hN : X.N[i]? = some x := by rfl)
    (hv : Vis X.env.scope x := by first | exact Or.inl rfl | exact Or.inr (Or.inl rfl) | exact Or.inr (Or.inr rfl)) (hd : (x == ("__debug__" : Str)) = false := by decide) (hcd : (x == ("__classdict__" : Str)) = false := by decide)
    (ha : ∀ v, assign (.Subscript (.Name x px) (.Constant (.int j) j2 p3) p2) X.env v = (do
      let ov ← holding [v] (eval (.Name x px) X.env)
      let iv ← holding [v, ov] (eval (.Constant (.int j) j2 p3) X.env)
      standAt p2
      holding [v, ov, iv] (setItem ov iv v)
      release [v, ov, iv] []) := by intro _; rfl) (hs : swapsWithSole [.Subscript (.Name x px) (.Constant (.int j) j2 p3) p2] e pos.line X.env = pure false := by rfl) (hw : swappedStores [.Subscript (.Name x px) (.Constant (.int j) j2 p3) p2] e X.env = pure none := by rfl)
    (h1 : (assignEach [.Subscript (.Name x px) (.Constant (.int j) j2 p3) p2] X.env).map (·.2) = [assign (.Subscript (.Name x px) (.Constant (.int j) j2 p3) p2) X.env] := by rfl) : Es X W (.Assign [.Subscript (.Name x px) (.Constant (.int j) j2 p3) p2] e pos) ρ D := by
  refine ⟨fun σ H B L => (ps_asg pe_w (pg_sub (pe_var hN hv hd hcd) pe_int set_list ha) hs hw h1).toZ ?_⟩
  refine h.run σ H B _ L fun v H1 B1 d s1 L1 D1 h2 => ?_
  cases d <;> first | exact h2.elim | skip
  rename_i z
  cases dp_int D1
  obtain ⟨T, hT, e1⟩ := L1.at' i _ hρ
  obtain ⟨_, t1, z0, c, e, hz0, hc0, q⟩ := L1.gr.tp T hT
  rcases hj with rfl | rfl
  · exact ⟨.ref T, e1, T, _, 1, 1, rfl, rfl, e, rfl, B1, ρ, s1, L1.tape hT ⟨t1, z, c, upd_same, h2.1, hc0, q⟩, h2.2⟩
  · exact ⟨.ref T, e1, T, _, 2, 2, rfl, rfl, e, rfl, B1, ρ, s1, L1.tape hT ⟨t1, z0, z, upd_same, hz0, h2.1, q⟩, h2.2⟩
end
/-- the law's promise -/
def spLaw (K : PySem.W.Frag) : Sp := fun vs H Q _ => ∃ (a : Addr) (ns : List Int), vs = [.ref a] ∧ SqL K H a (ns.map V.int) ∧ ns.length ≤ 63 ∧ ∀ H', Q (.bl true) H'
section
variable {P : Program} {w : World} {K : PySem.W.Frag} {mg : Str → Option Value} {base : Heap}
theorem lay_start {K : PySem.W.Frag} {W : Wd} {B H : Hp} (g : Gr K W B H) {T : Addr} (hT : W.T = some T) {σ : L2.St} (i : Nat) (e : σ[i]? = some (some (.ref T))) : Lay K W B H σ ((List.replicate σ.length Sl.no).set i .tape) := by
  refine ⟨g, by simp, fun j sl q => ?_, fun j k s t hne q1 q2 o1 o2 => ?_⟩
  · by_cases hj : i = j
    · subst hj
      have hl := (List.getElem?_eq_some_iff.mp e).1
      rw [List.getElem?_set_self (by simpa using hl)] at q
      cases q
      exact ⟨T, hT, e⟩
    · rw [List.getElem?_set_ne hj] at q
      have := List.mem_of_getElem? q
      rw [(List.mem_replicate.mp this).2]
      trivial
  · by_cases hj : i = j
    · subst hj
      have hl := (List.getElem?_eq_some_iff.mp e).1
      rw [List.getElem?_set_self (by simpa using hl)] at q1
      cases q1
      cases o1
    · rw [List.getElem?_set_ne hj] at q1
      have := List.mem_of_getElem? q1
      rw [(List.mem_replicate.mp this).2] at o1
      cases o1
/-- the law: tape = [list(script), 0, 0], then the rest over the tape -/
theorem fn_law {st : Stmt} {f : Addr} {fd : FuncData} {N : List Str} {k : Nat} (i : Nat) (F : Fun K "law" "law" st f fd) (S : FnScope N ["script"] (defScope st)) (nl : mg "list" = none) {p1 p2 p3 p4 p5 p6 p7 p8 : Pos} {k1 k2} {rest : List Stmt}
    (hb : defBody st = .Assign [.Name "tape" p1] (.List [.Call (.Name "list" p2) [.Name "script" p3] [] p4, .Constant (.int 0) k1 p5, .Constant (.int 0) k2 p6] p7) p8 :: rest)
    (hi : N[i]? = some ("tape" : Str)) (h0 : N[0]? = some ("script" : Str)) (hx : Loc (defScope st) "tape") (hv : Vis (defScope st) "script") (hg : (defScope st).names.lookup ("list" : Str) = some .globalImplicit) (hi0 : i ≠ 0)
    (body : ∀ (cdv : Value) (A : Around) (outer : List Env) (s : Shared) (H : Hp) (E : XK) (W : Wd), Room k (Bx P w K mg base N "law" (defScope st) f cdv A outer s H E).A → W.ns.2.length ≤ 63 →
      Ess (Bx P w K mg base N "law" (defScope st) f cdv A outer s H E) W rest ((List.replicate N.length Sl.no).set i .tape) { nx := fun _ => False, rt := fun d => d = .bool true }) : FnOk P w K mg base CX0 (k + 1) f fd ["script"] (spLaw K) := by
  refine F.ok S (fun vs H Q E h => ?_) (fun cdv A outer s H vs Q E hr h => ?_)
  · obtain ⟨a, ns, rfl, _⟩ := h
    rfl
  · obtain ⟨a, ns, rfl, hS, hlen, q⟩ := h
    rw [hb]
    refine ⟨_, pss_cons (ps_set (i := i) S.nd hi hx (pe_lst (pa_cons (pe_callTy call_list_of hg nl boot_list (pa_cons (pe_var (i := 0) h0 hv) pa_nil)) (pa_cons pe_int (pa_cons pe_int pa_nil)))) (by rfl) (.inl rfl)) pss_w, ?_⟩
    have e0 : (L2.start N [V.ref a])[0]? = some (some (.ref a)) := by simp [L2.start]
    refine ⟨.ref a, e0, a, _, rfl, .inl hS, fun l hl => ⟨by show 3 ≤ sizeLine; decide, fun t ht => ?_⟩⟩
    intro pins s0 I
    have hlt : t ≠ l := by
      rintro rfl
      rw [upd_same] at ht
      cases ht
    have s1 : Same (upd H l (.lst (ns.map V.int))) (upd (upd H l (.lst (ns.map V.int))) t (.lst [.ref l, .int 0, .int 0])) := same_new ht
    have tp : ∀ x, some t = some x → Tape (l, ns) (upd H l (.lst (ns.map V.int))) (upd (upd H l (.lst (ns.map V.int))) t (.lst [.ref l, .int 0, .int 0])) x := fun x z => by
      cases z
      exact ⟨ht, 0, 0, upd_same, by decide, by decide, upd_same⟩
    have hl2 : i < (L2.start N [V.ref a]).length := by
      have := (List.getElem?_eq_some_iff.mp hi).1
      simp [L2.start]
      omega
    have L := lay_start (K := K) (Gr.refl s1 tp) (T := t) rfl (σ := (L2.start N [V.ref a]).set i (some (.ref t))) i (by rw [List.getElem?_set_self hl2])
    have el : ((L2.start N [V.ref a]).set i (some (.ref t))).length = N.length := by
      have := (List.getElem?_eq_some_iff.mp h0).1
      simp [L2.start]
      omega
    rw [el] at L
    refine thn ((body cdv A outer s H E ⟨some t, (l, ns), _, _⟩ hr hlen).run _ _ _ L pins s0 I) fun fl s' hs => ?_
    cases fl with
    | next => obtain ⟨σ', H', I', B', ρ', s', L', r⟩ := hs; exact r.elim
    | brk => obtain ⟨σ', H', I', B', ρ', s', L', r⟩ := hs; exact r.elim
    | cont => obtain ⟨σ', H', I', B', ρ', s', L', r⟩ := hs; exact r.elim
    | ret u =>
      obtain ⟨v, σ', H', I', r, B', d, g, Dv, rr⟩ := hs
      subst rr
      cases dp_bool Dv
      exact ⟨.bl true, σ', H', I', r, q H'⟩
end
end Z

namespace Z
open PySem PySem.Spec PyProof.Rows L2
def isIntD : PyData → Bool | .int _ => true | .bool _ => true | _ => false
def isBoolD : PyData → Bool | .bool _ => true | _ => false
def isListD : PyData → Bool | .list _ => true | _ => false
def isTupD : PyData → Bool | .tuple _ => true | _ => false
def isStrD : PyData → Bool | .str _ => true | _ => false
theorem boot_int' : bootBuiltins "int" = some (.type "int") := by decide +kernel
theorem boot_bool' : bootBuiltins "bool" = some (.type "bool") := by decide +kernel
theorem boot_str' : bootBuiltins "str" = some (.type "str") := by decide +kernel
theorem isD_int (d : PyData) : isD "int" d = isIntD d := by rw [isD_of d (by simp)]; cases d <;> rfl
theorem isD_bool (d : PyData) : isD "bool" d = isBoolD d := by rw [isD_of d (by simp)]; cases d <;> rfl
theorem isD_list (d : PyData) : isD "list" d = isListD d := by rw [isD_of d (by simp)]; cases d <;> rfl
theorem isD_tuple (d : PyData) : isD "tuple" d = isTupD d := by rw [isD_of d (by simp)]; cases d <;> rfl
theorem isD_str (d : PyData) : isD "str" d = isStrD d := by rw [isD_of d (by simp)]; cases d <;> rfl
section
variable {X : Cx} {W : Wd} {ρ : List Sl} {D : Dz} {R : PyData → Prop} {pos : Pos} {a b c e : Expr} {es : List Expr} {st : Stmt} {sts body : List Stmt}
theorem ev_isInt {p p2 : Pos} (hm : X.mg "isinstance" = none) (hT : X.mg "int" = none) (h : Ev X W e ρ fun d => R (.bool (isIntD d))) (hg : Gl X "isinstance" := by rfl) (hg2 : Gl X "int" := by rfl)
    (he : starEach [e, .Name "int" p2] X.env = (false, eval e X.env) :: starEach [.Name "int" p2] X.env := by rfl) (he2 : starEach [.Name "int" p2] X.env = (false, eval (.Name "int" p2) X.env) :: starEach [] X.env := by rfl) (hpl : (backTo pos (starEach [.Name "int" p2] X.env)).any (·.1) = false := by rfl) :
    Ev X W (.Call (.Name "isinstance" p) [e, .Name "int" p2] [] pos) ρ R :=
  ev_isi hm hT boot_int' (h.imp fun d q => ⟨by rw [kit_of_tab d (by simp)]; rfl, by rw [isD_int]; exact q⟩) hg hg2 he he2 hpl
theorem ev_isBool {p p2 : Pos} (hm : X.mg "isinstance" = none) (hT : X.mg "bool" = none) (h : Ev X W e ρ fun d => R (.bool (isBoolD d))) (hg : Gl X "isinstance" := by rfl) (hg2 : Gl X "bool" := by rfl)
    (he : starEach [e, .Name "bool" p2] X.env = (false, eval e X.env) :: starEach [.Name "bool" p2] X.env := by rfl) (he2 : starEach [.Name "bool" p2] X.env = (false, eval (.Name "bool" p2) X.env) :: starEach [] X.env := by rfl) (hpl : (backTo pos (starEach [.Name "bool" p2] X.env)).any (·.1) = false := by rfl) :
    Ev X W (.Call (.Name "isinstance" p) [e, .Name "bool" p2] [] pos) ρ R :=
  ev_isi hm hT boot_bool' (h.imp fun d q => ⟨by rw [kit_of_tab d (by simp)]; rfl, by rw [isD_bool]; exact q⟩) hg hg2 he he2 hpl
theorem ev_isList {p p2 : Pos} (hm : X.mg "isinstance" = none) (hT : X.mg "list" = none) (h : Ev X W e ρ fun d => R (.bool (isListD d))) (hg : Gl X "isinstance" := by rfl) (hg2 : Gl X "list" := by rfl)
    (he : starEach [e, .Name "list" p2] X.env = (false, eval e X.env) :: starEach [.Name "list" p2] X.env := by rfl) (he2 : starEach [.Name "list" p2] X.env = (false, eval (.Name "list" p2) X.env) :: starEach [] X.env := by rfl) (hpl : (backTo pos (starEach [.Name "list" p2] X.env)).any (·.1) = false := by rfl) :
    Ev X W (.Call (.Name "isinstance" p) [e, .Name "list" p2] [] pos) ρ R :=
  ev_isi hm hT boot_list (h.imp fun d q => ⟨by rw [kit_of_tab d (by simp)]; rfl, by rw [isD_list]; exact q⟩) hg hg2 he he2 hpl
theorem ev_isTup {p p2 : Pos} (hm : X.mg "isinstance" = none) (hT : X.mg "tuple" = none) (h : Ev X W e ρ fun d => R (.bool (isTupD d))) (hg : Gl X "isinstance" := by rfl) (hg2 : Gl X "tuple" := by rfl)
    (he : starEach [e, .Name "tuple" p2] X.env = (false, eval e X.env) :: starEach [.Name "tuple" p2] X.env := by rfl) (he2 : starEach [.Name "tuple" p2] X.env = (false, eval (.Name "tuple" p2) X.env) :: starEach [] X.env := by rfl) (hpl : (backTo pos (starEach [.Name "tuple" p2] X.env)).any (·.1) = false := by rfl) :
    Ev X W (.Call (.Name "isinstance" p) [e, .Name "tuple" p2] [] pos) ρ R :=
  ev_isi hm hT boot_tuple (h.imp fun d q => ⟨by rw [kit_of_tab d (by simp)]; rfl, by rw [isD_tuple]; exact q⟩) hg hg2 he he2 hpl
theorem ev_isStr {p p2 : Pos} (hm : X.mg "isinstance" = none) (hT : X.mg "str" = none) (h : Ev X W e ρ fun d => R (.bool (isStrD d))) (hg : Gl X "isinstance" := by rfl) (hg2 : Gl X "str" := by rfl)
    (he : starEach [e, .Name "str" p2] X.env = (false, eval e X.env) :: starEach [.Name "str" p2] X.env := by rfl) (he2 : starEach [.Name "str" p2] X.env = (false, eval (.Name "str" p2) X.env) :: starEach [] X.env := by rfl) (hpl : (backTo pos (starEach [.Name "str" p2] X.env)).any (·.1) = false := by rfl) :
    Ev X W (.Call (.Name "isinstance" p) [e, .Name "str" p2] [] pos) ρ R :=
  ev_isi hm hT boot_str' (h.imp fun d q => ⟨by rw [kit_of_tab d (by simp)]; rfl, by rw [isD_str]; exact q⟩) hg hg2 he he2 hpl
/-- == of two bools -/
theorem oz_eqB : OpZ X (compareOp .Eq) (fun x y R => match x, y with | .bool i, .bool j => R (.bool (decide (i = j))) | _, _ => False) := by
  refine ⟨_, op_eq, fun W σ ρ H B v u d e R Q L D1 D2 r k => ?_⟩
  cases d <;> cases e <;> first | exact r.elim | skip
  rename_i i j
  cases dp_bool D1
  cases dp_bool D2
  refine ⟨rfl, ?_⟩
  have e1 : decide (V.bl i = V.bl j) = decide (i = j) := by
    by_cases h : i = j
    · subst h; simp
    · rw [decide_eq_false h, decide_eq_false fun q => h (V.bl.inj q)]
  rw [e1]
  exact k _ H B _ (Same.refl _) L (.bl _) r
theorem oz_neB : OpZ X (compareOp .NotEq) (fun x y R => match x, y with | .bool i, .bool j => R (.bool (!decide (i = j))) | _, _ => False) := by
  refine ⟨_, op_ne, fun W σ ρ H B v u d e R Q L D1 D2 r k => ?_⟩
  cases d <;> cases e <;> first | exact r.elim | skip
  rename_i i j
  cases dp_bool D1
  cases dp_bool D2
  refine ⟨rfl, ?_⟩
  have e1 : decide (V.bl i = V.bl j) = decide (i = j) := by
    by_cases h : i = j
    · subst h; simp
    · rw [decide_eq_false h, decide_eq_false fun q => h (V.bl.inj q)]
  rw [e1]
  exact k _ H B _ (Same.refl _) L (.bl _) r
end
end Z

namespace Z
open PySem PySem.Spec PyProof.Rows L2
theorem noF {A B : Prop} (h : B) : (false = true → A) ∧ (false = false → B) := ⟨fun z => (by cases z), fun _ => h⟩
theorem yesT {A B : Prop} (h : A) : (true = true → A) ∧ (true = false → B) := ⟨fun _ => h, fun z => (by cases z)⟩
section
variable {X : Cx} {W : Wd} {ρ : List Sl} {D : Dz} {R : PyData → Prop} {pos : Pos} {a b c e : Expr} {es : List Expr} {st : Stmt} {sts body : List Stmt}
/-- is not True, of a bool -/
theorem et_notTrue {R : Bool → Prop} {j p2} (h : Ev X W e ρ (tst fun k => R (!k))) : Et X W (.Compare e [.IsNot] [.Constant (.bool true) j p2] pos) ρ R := by
  refine ⟨fun σ H B Q L k => (pt_cmpR op_isnot_bl pe_w pe_bl (nomark _)).toZ ?_⟩
  refine h.run σ H B _ L fun v H1 B1 d s1 L1 D1 h2 => ?_
  cases d <;> first | exact h2.elim | skip
  rename_i kk
  refine ⟨kk, true, dp_bool D1, rfl, _, rfl, ?_⟩
  have e1 : (!decide (kk = true)) = !kk := by cases kk <;> rfl
  rw [e1]
  exact k _ H1 B1 s1 L1 h2
/-- is True, of a bool -/
theorem ev_isTrue {j p2} (h : Ev X W e ρ (tst fun k => R (.bool k))) : Ev X W (.Compare e [.Is] [.Constant (.bool true) j p2] pos) ρ R := by
  refine ⟨fun σ H B Q L k => (pe_cmpR op_is_bl pe_w pe_bl (nomark _)).toZ ?_⟩
  refine h.run σ H B _ L fun v H1 B1 d s1 L1 D1 h2 => ?_
  cases d <;> first | exact h2.elim | skip
  rename_i kk
  refine ⟨kk, true, dp_bool D1, rfl, ?_⟩
  have e1 : (decide (kk = true)) = kk := by cases kk <;> rfl
  rw [e1]
  exact k _ H1 B1 _ s1 L1 (.bl _) h2
/-! ### slices -/
def cutD (xs : List PyData) (lo hi : Option Int) : List PyData := (xs.drop (HT.sIx xs.length 0 lo)).take (HT.sIx xs.length xs.length hi - HT.sIx xs.length 0 lo)
theorem cut_dq {K : PySem.W.Frag} {B : Hp} {ds : List PyData} {vs : List V} (h : DqAll K B vs ds) (lo hi : Option Int) : DqAll K B (cutV vs lo hi) (cutD ds lo hi) := by
  unfold cutV cutD
  rw [dpAll_len h]
  exact dpAll_take _ (dpAll_drop _ h)
def tWo (X : Cx) (o : Option Expr) : TO := match o with
  | none => tNoPart
  | some e => tPart (tW X e)
theorem po_w {o : Option Expr} : PO X o (tWo X o) := match o with
  | none => po_none
  | some _ => po_some pe_w
structure Eo (X : Cx) (W : Wd) (o : Option Expr) (ρ : List Sl) (R : Option Int → Prop) : Prop where
  run : ∀ (σ : L2.St) (H B : Hp) (Q : Option Int → Hp → Prop), Lay X.K W B H σ ρ → (∀ v H' B', Same B B' → Lay X.K W B' H' σ ρ → R v → Q v H') → tWo X o σ H Q
theorem eo_none {R : Option Int → Prop} (h : R none) : Eo X W none ρ R := ⟨fun σ H B Q L k => k none H B (Same.refl _) L h⟩
@[reducible] def rInt : PyData → (Int → Prop) → Prop
  | .int i, R => R i
  | _, _ => False
theorem eo_some {R : Option Int → Prop} (h : Ev X W e ρ fun d => rInt d fun i => R (some i)) : Eo X W (some e) ρ R := by
  refine ⟨fun σ H B Q L k => ?_⟩
  refine h.run σ H B _ L fun v H1 B1 d s1 L1 D1 h2 => ?_
  cases d <;> first | exact h2.elim | skip
  exact ⟨_, dp_int D1, k _ H1 B1 s1 L1 h2⟩
/-- t[lo:hi] of a tuple -/
theorem ev_slT {lo hi : Option Expr} {p2 : Pos} (h : Ev X W e ρ fun d => Eo X W lo ρ fun l => Eo X W hi ρ fun u => match d with | .tuple ds => R (.tuple (cutD ds l u)) | _ => False) : Ev X W (.Subscript e (.Slice lo hi none p2) pos) ρ R := by
  refine ⟨fun σ H B Q L k => (pe_slice sl_tupA pe_w po_w po_w).toZ ?_⟩
  refine h.run σ H B _ L fun v H1 B1 d s1 L1 D1 h2 => ?_
  refine h2.run σ H1 B1 _ L1 fun l H2 B2 s2 L2 h3 => ?_
  refine h3.run σ H2 B2 _ L2 fun u H3 B3 s3 L3 h4 => ?_
  cases d <;> first | exact h4.elim | skip
  rename_i ds
  obtain ⟨q, vs, rfl, h5, h6⟩ := dp_tup D1
  have h7 := dpAllMono (s2.trans s3) _ _ h6
  refine ⟨q, vs, rfl, seqT ((s2.trans s3).trans L3.gr.sub) h5, fun hw => ?_, fun _ p hp => ?_⟩
  · have e1 : cutD ds l u = ds := by
      unfold cutD
      rw [dpAll_len h6] at hw
      rw [hw.1, hw.2]
      simp
    have h4' : R (.tuple (cutD ds l u)) := h4
    rw [e1] at h4'
    exact k _ H3 B3 _ ((s1.trans s2).trans s3) L3 (dpMono (s2.trans s3) _ _ D1) h4'
  · obtain ⟨s, L'⟩ := L3.fresh hp (.tup (cutV vs l u))
    exact k _ _ _ _ (((s1.trans s2).trans s3).trans s) L' (.tup (SqT.of upd_same) (dpAllMono s _ _ (cut_dq h7 l u))) h4
/-- xs[lo:hi] of a list -/
theorem el_sl {lo hi : Option Expr} {p2 : Pos} {R : List PyData → Prop} (h : Ev X W e ρ fun d => Eo X W lo ρ fun l => Eo X W hi ρ fun u => match d with | .list ds => R (cutD ds l u) | _ => False) : El X W (.Subscript e (.Slice lo hi none p2) pos) ρ R := by
  refine ⟨fun σ H B Q L k => (pe_slice sl_list pe_w po_w po_w).toZ ?_⟩
  refine h.run σ H B _ L fun v H1 B1 d s1 L1 D1 h2 => ?_
  refine h2.run σ H1 B1 _ L1 fun l H2 B2 s2 L2 h3 => ?_
  refine h3.run σ H2 B2 _ L2 fun u H3 B3 s3 L3 h4 => ?_
  cases d <;> first | exact h4.elim | skip
  rename_i ds
  obtain ⟨q, vs, rfl, h5, h6⟩ := dp_list D1
  have h7 := cut_dq (dpAllMono (s2.trans s3) _ _ h6) l u
  refine ⟨q, vs, rfl, SqL.of (L3.gr.sub _ _ ((s2.trans s3) _ _ h5)), fun p hp => ?_⟩
  obtain ⟨L', q1, q2, q3, q4⟩ := fresh_own L3 hp (cutD ds l u) (cutV vs l u) h7
  exact k p _ _ B3 _ ((s1.trans s2).trans s3) L' q1 q2 q3 q4 h7 h4
end
end Z
namespace Z
open PySem PySem.Spec PyProof.Rows L2
section
variable {X : Cx} {W : Wd} {ρ : List Sl} {D : Dz} {pos : Pos} {a b c e : Expr} {es : List Expr} {st : Stmt} {sts body : List Stmt}
/-! ### an own list lent to a test -/
theorem Lay.lend (L : Lay X.K W B H σ ρ) {i : Nat} {ds : List PyData} (hρ : ρ[i]? = some (.own ds)) (ho : ∀ (j : Nat) (sl : Sl), j ≠ i → ρ[j]? = some sl → sl.ow = false) :
    ∃ B1, Same B B1 ∧ Lay X.K W B1 H σ (ρ.set i (.im (.list ds))) ∧ ∀ B' H', Same B1 B' → Lay X.K W B' H' σ (ρ.set i (.im (.list ds))) → ∃ B'', Same B B'' ∧ Lay X.K W B'' H' σ ρ := by
  obtain ⟨p, vs, e1, e2, e3, e4, e5⟩ := L.at' i _ hρ
  have hl : i < ρ.length := (List.getElem?_eq_some_iff.mp hρ).1
  obtain ⟨B1, s1, L1⟩ := L.frz hρ
  obtain ⟨v, q1, q2⟩ := L1.at' i (.im (.list ds)) (by rw [List.getElem?_set_self hl])
  rw [e1] at q1
  cases q1
  obtain ⟨p', us, h1, h2, h3⟩ := dp_list q2
  cases h1
  have hus : us = vs := by
    have := L1.gr.sub _ _ h2
    rw [e4] at this
    cases this
    rfl
  subst hus
  refine ⟨B1, s1, L1, fun B' H' s' L' => ?_⟩
  have hb : B' p = some (.lst us) := s' _ _ h2
  have hT : ∀ T, W.T = some T → T ≠ p := fun T h q => by
    subst q
    exact (L.gr.tp T h).1 e3
  have sB : Same B (fun x => if x = p then none else B' x) := fun x o q => by
    have hx : x ≠ p := by
      rintro rfl
      rw [e2] at q
      cases q
    show (if x = p then none else B' x) = some o
    rw [if_neg hx]
    exact s' _ _ (s1 _ _ q)
  refine ⟨fun x => if x = p then none else B' x, sB, ⟨⟨fun x o q => ?_, L.gr.base.trans sB, fun x q1 q2 => ?_, L'.gr.keep, fun T q => ?_⟩, L.len, fun j sl q => ?_, L.dis⟩⟩
  · have q : (if x = p then none else B' x) = some o := q
    by_cases hx : x = p
    · rw [if_pos hx] at q
      cases q
    · rw [if_neg hx] at q
      exact L'.gr.sub _ _ q
  · show (if x = p then none else B' x) = none
    by_cases hx : x = p
    · rw [if_pos hx]
    · rw [if_neg hx]
      exact L'.gr.new x q1 q2
  · obtain ⟨t1, t2, z, k, t3, t4, t5, t6⟩ := L'.gr.tp T q
    obtain ⟨_, _, z0, k0, u3, u4, u5, u6⟩ := L.gr.tp T q
    refine ⟨t1, ?_, z, k, t3, t4, t5, ?_⟩
    · show (if T = p then none else B' T) = none
      rw [if_neg (hT T q)]
      exact t2
    · exact sB _ _ u6
  · by_cases hj : j = i
    · subst hj
      rw [hρ] at q
      cases q
      refine ⟨p, us, e1, ?_, e3, L'.gr.sub _ _ hb, dpAllMono sB _ _ e5⟩
      show (if p = p then none else B' p) = none
      rw [if_pos rfl]
    · have hw := ho j sl hj q
      cases sl with
      | no => trivial
      | im d => obtain ⟨v, g1, g2⟩ := L.at' j _ q; exact ⟨v, g1, dpMono sB _ _ g2⟩
      | own _ => cases hw
      | dic _ => cases hw
      | tape => exact L.at' j _ q
      | obj _ _ _ _ => cases hw
      | obk _ _ _ _ => obtain ⟨fv, g1, g2, g5⟩ := L.at' j _ q; exact ⟨fv, g1, g2.mono sB, fsMono sB g5⟩
      | ptr _ => exact L.at' j _ q
theorem et_lend (i : Nat) {ds : List PyData} {R : Bool → Prop} (hρ : ρ[i]? = some (.own ds)) (ho : ∀ (j : Nat) (sl : Sl), j ≠ i → ρ[j]? = some sl → sl.ow = false) (h : Et X W e (ρ.set i (.im (.list ds))) R) : Et X W e ρ R := by
  refine ⟨fun σ H B Q L k => ?_⟩
  obtain ⟨B1, s1, L1, back⟩ := L.lend hρ ho
  refine h.run σ H B1 _ L1 fun b H' B' s' L' r => ?_
  obtain ⟨B'', s'', L''⟩ := back B' H' s' L'
  exact k b H' B'' s'' L'' r
/-- a def that hands back a fresh list -/
def ConL (K : PySem.W.Frag) (P : List PyData → (List PyData → Prop) → Prop) : Sp := fun vs H Q _ => ∃ B ds R, Same B H ∧ DqAll K B vs ds ∧ P ds R ∧ ∀ a us H' B' xs, Gr K ⟨none, (0, []), B, H⟩ B' H' → B' a = none → H a = none → H' a = some (.lst us) → DqAll K B' us xs → R xs → Q (.ref a) H'
theorem el_callL {f : Addr} {fd : FuncData} {ps : List Str} {k : Nat} {x : Str} {p : Pos} {R : List PyData → Prop} {P : List PyData → (List PyData → Prop) → Prop} (F : FnOk X.prog X.w X.K X.mg X.base CX0 k f fd ps (ConL X.K P)) (hr : Room k X.A) (hm : X.mg x = some (.ref f))
    (hk : PySem.W.keepIn X.K (.ref f) = true) (hb : Binds X.K fd ps []) (h : Ea X W (e :: es) ρ fun ds => P ds R) (hg : Gl X x := by rfl)
    (hs : starEach (e :: es) X.env = (false, eval e X.env) :: starEach es X.env := by rfl) (hpl : (backTo pos (starEach es X.env)).any (·.1) = false := by rfl) (hdb : (x == ("__debug__" : Str)) = false := by decide) : El X W (.Call (.Name x p) (e :: es) [] pos) ρ R := by
  refine ⟨fun σ H B Q L k => PE.toZ (t := tCall (ConL X.K P) [] E0 (tWa X (e :: es))) (pe_call F hr hg hm hk hb .nil pass0 pa_w hdb hs hpl) ?_⟩
  refine h.run σ H B _ L fun vs H1 B1 ds s1 L1 D1 h2 => ?_
  rw [List.append_nil]
  refine ⟨B1, ds, R, L1.gr.sub, D1, h2, fun a us H' B' xs g b1 b2 b3 b4 r => ?_⟩
  obtain ⟨s, L'⟩ := L1.called (.inl rfl) g
  refine k a us H' B' xs (s1.trans s) L' b1 ?_ ?_ b3 b4 r
  · cases q : W.H0 a with
    | none => rfl
    | some o =>
      by_cases ht : W.T = some a
      · obtain ⟨_, _, z, c, e, _⟩ := L1.gr.tp a ht
        rw [e] at b2
        cases b2
      · have := L1.gr.keep a o q ht
        rw [b2] at this
        cases this
  · intro j sl q1 q2 q3
    obtain ⟨a', o, g1, g2, g3, g4, _⟩ := (L1.at' j sl q1).owner q2
    rw [q3] at g1
    cases g1
    rw [b2] at g4
    cases g4
end
section
variable {P : Program} {w : World} {K : PySem.W.Frag} {mg : Str → Option Value} {base : Heap}
/-- .. whose body is one return -/
theorem fn_conL {x qual : Str} {st : Stmt} {f : Addr} {fd : FuncData} {N ps : List Str} {k : Nat} {P' : List PyData → (List PyData → Prop) → Prop} (F : Fun K x qual st f fd) (S : FnScope N ps (defScope st)) (len : ∀ ds R, P' ds R → ds.length = ps.length) {e : Expr} {pos : Pos} (hb : defBody st = [.Return (some e) pos])
    (body : ∀ (cdv : Value) (A : Around) (outer : List Env) (s : Shared) (H : Hp) (E : XK) (W : Wd) (ds : List PyData) (R : List PyData → Prop), Room k (Bx P w K mg base N qual (defScope st) f cdv A outer s H E).A → P' ds R →
      El (Bx P w K mg base N qual (defScope st) f cdv A outer s H E) W e (startZ N ds) R) : FnOk P w K mg base CX0 (k + 1) f fd ps (ConL K P') := by
  refine F.ok S (fun vs H Q E h => ?_) (fun cdv A outer s H vs Q E hr h => ?_)
  · obtain ⟨B, ds, R, _, h1, h2, _⟩ := h
    rw [dpAll_len h1]
    exact len ds R h2
  · obtain ⟨B, ds, R, sB, h1, h2, q⟩ := h
    rw [hb]
    refine ⟨_, pss_one (ps_ret pe_w), ?_⟩
    have L := start_lay (N := N) (T := none) (ns := (0, [])) sB (fun _ z => by cases z) h1
    exact (body cdv A outer s H E ⟨none, (0, []), B, H⟩ ds R hr h2).run _ _ _ _ L fun a us H' B' xs s' L' q1 q2 q3 q4 q5 r => q a us H' B' xs L'.gr q1 q2 q4 q5 r
end
end Z
namespace Z
open PySem PySem.Spec PyProof.Rows L2
/-- slots forgotten -/
inductive Wk : List Sl → List Sl → Prop
  | nil : Wk [] []
  | eq {x : Sl} {a b : List Sl} : Wk a b → Wk (x :: a) (x :: b)
  | no {x : Sl} {a b : List Sl} : Wk a b → Wk (.no :: a) (x :: b)
theorem Wk.len : ∀ {a b : List Sl}, Wk a b → a.length = b.length
  | _, _, .nil => rfl
  | _, _, .eq h => by simp [h.len]
  | _, _, .no h => by simp [h.len]
theorem Wk.at' : ∀ {a b : List Sl}, Wk a b → ∀ (i : Nat) (sl : Sl), a[i]? = some sl → sl = .no ∨ b[i]? = some sl
  | _, _, .nil, i, sl, e => by simp at e
  | _, _, .eq h, 0, sl, e => .inr e
  | _, _, .eq h, i + 1, sl, e => by simpa using h.at' i sl (by simpa using e)
  | _, _, .no h, 0, sl, e => by simp at e; exact .inl e.symm
  | _, _, .no h, i + 1, sl, e => by simpa using h.at' i sl (by simpa using e)
section
variable {X : Cx} {W : Wd} {ρ : List Sl} {D : Dz} {sts : List Stmt} {st : Stmt}
theorem Lay.weak {K : PySem.W.Frag} {B H : Hp} {σ : L2.St} (L : Lay K W B H σ ρ) {ρ' : List Sl} (w : Wk ρ' ρ) : Lay K W B H σ ρ' := by
  refine ⟨L.gr, by rw [w.len]; exact L.len, fun i sl e => ?_, fun i j s t hne e1 e2 o1 o2 => ?_⟩
  · rcases w.at' i sl e with q | q
    · subst q
      trivial
    · exact L.at' i sl q
  · rcases w.at' i s e1 with q | q
    · subst q
      cases o1
    · rcases w.at' j t e2 with q2 | q2
      · subst q2
        cases o2
      · exact L.dis i j s t hne q q2 o1 o2
theorem ess_weak (ρ' : List Sl) (w : Wk ρ' ρ) (h : Ess X W sts ρ' D) : Ess X W sts ρ D := ⟨fun σ H B L => h.run σ H B (L.weak w)⟩
theorem es_weak (ρ' : List Sl) (w : Wk ρ' ρ) (h : Es X W st ρ' D) : Es X W st ρ D := ⟨fun σ H B L => h.run σ H B (L.weak w)⟩
end
/-- no other slot is an owner -/
inductive No1 : Nat → List Sl → Prop
  | here {x : Sl} {a : List Sl} : (∀ sl ∈ a, sl.ow = false) → No1 0 (x :: a)
  | next {x : Sl} {i : Nat} {a : List Sl} : x.ow = false → No1 i a → No1 (i + 1) (x :: a)
theorem No1.at' : ∀ {i : Nat} {a : List Sl}, No1 i a → ∀ (j : Nat) (sl : Sl), j ≠ i → a[j]? = some sl → sl.ow = false
  | _, _, .here h, 0, sl, hj, e => absurd rfl hj
  | _, _, .here h, j + 1, sl, hj, e => h sl (List.mem_of_getElem? (by simpa using e))
  | _, _, .next h1 h2, 0, sl, hj, e => by simp at e; rw [← e]; exact h1
  | _, _, .next h1 h2, j + 1, sl, hj, e => h2.at' j sl (by omega) (by simpa using e)
end Z
namespace Z
open PySem PySem.Spec PyProof.Rows L2
section
variable {X : Cx} {W : Wd} {ρ : List Sl} {D : Dz} {R : PyData → Prop} {pos : Pos} {a b c e o : Expr} {es : List Expr}
/-- xs.index(e): the first place of an int -/
theorem ev_index {pa : Pos} (h : Ev X W o ρ fun d => ∃ ns : List Int, d = .list (ns.map PyData.int) ∧ Ev X W e ρ fun x => ∃ (m : Int) (j : Nat), x = .int m ∧ ns[j]? = some m ∧ (∀ k : Nat, k < j → ns[k]? ≠ some m) ∧ R (.int (j : Int)))
    (hbase : attributeBase o "index" X.env (eval o X.env) = eval o X.env := by rfl)
    (hfew : ((backTo pos (starEach [e] X.env)).all (fun x => !x.1) && (backToKw pos (keywordEach [] X.env)).all (fun x => x.1.isSome) && decide (([e] : List Expr).length + ([] : List Keyword).length + (if ([] : List Keyword).isEmpty then 0 else 1) < 30)) = true := by rfl)
    (hline : (pa.endLine == pos.line) = true := by rfl) (hse : starEach [e] X.env = (false, eval e X.env) :: starEach [] X.env := by rfl) (hpl : (backTo pos (starEach [] X.env)).any (·.1) = false := by rfl) :
    Ev X W (.Call (.Attribute o "index" pa) [e] [] pos) ρ R := by
  refine ⟨fun σ H B Q L k => (pe_bm PySem.F.plainAttrs_list PySem.F.slot_list_index PySem.F.type_list_index mt_index pe_w (pa_cons pe_w pa_nil hse) hbase hfew hline hse hpl).toZ ?_⟩
  refine h.run σ H B _ L fun v H1 B1 d s1 L1 D1 h2 => ?_
  obtain ⟨ns, rfl, h2⟩ := h2
  obtain ⟨p, vs, rfl, h3, h4⟩ := dp_list D1
  refine ⟨.inl ⟨rfl, vs, SqL.of (L1.gr.sub _ _ h3)⟩, ?_⟩
  refine h2.run σ H1 B1 _ L1 fun u H2 B2 d' s2 L2 D2 h5 => ?_
  obtain ⟨m, j, e2, e3, e4, e5⟩ := h5
  subst e2
  cases dp_int D2
  cases dq_ints h4
  refine ⟨p, ns.map V.int, .int m, j, .int m, rfl, rfl, SqL.of (L2.gr.sub _ _ (s2 _ _ h3)), rfl, ?_, ?_, ?_, fun q z hq hz => ?_, k _ H2 B2 _ (s1.trans s2) L2 (.int _) e5⟩
  · rw [List.all_eq_true]
    intro x hx
    obtain ⟨i, _, rfl⟩ := List.mem_map.mp hx
    rfl
  · rw [List.getElem?_map, e3]
    rfl
  · show (m == m) = true
    exact beq_self_eq_true m
  · rw [List.getElem?_map] at hz
    cases hq2 : ns[q]? with
    | none => rw [hq2] at hz; cases hz
    | some i =>
      rw [hq2] at hz
      cases hz
      have := e4 q hq
      rw [hq2] at this
      show (i == m) = false
      exact beq_eq_false_iff_ne.mpr fun e => this (by rw [e])
end
end Z

namespace Z
open PySem PySem.Spec PyProof.Rows L2
section
variable {X : Cx} {W : Wd} {ρ : List Sl} {D : Dz} {R : PyData → Prop} {pos : Pos} {a b c e : Expr} {es : List Expr} {st : Stmt} {sts body : List Stmt} {B H : Hp} {σ : L2.St}
/-! ### dicts with int keys -/
theorem fresh_any {K : PySem.W.Frag} {B H : Hp} {σ : L2.St} (L : Lay K W B H σ ρ) {p : Addr} (hp : H p = none) (o0 : HO) :
    Lay K W B (upd H p o0) σ ρ ∧ B p = none ∧ W.H0 p = none ∧ (∀ (j : Nat) (sl : Sl), ρ[j]? = some sl → sl.ow = true → σ[j]? ≠ some (some (.ref p))) ∧ (upd H p o0) p = some o0 := by
  have bp : B p = none := Same.free L.gr.sub hp
  have h0 : W.H0 p = none := by
    cases q : W.H0 p with
    | none => rfl
    | some u =>
      by_cases ht : W.T = some p
      · obtain ⟨_, t⟩ := L.gr.tp p ht
        obtain ⟨_, i, c, e, _⟩ := t
        rw [e] at hp
        cases hp
      · have := L.gr.keep p u q ht
        rw [hp] at this
        cases this
  have np : ∀ a u, H a = some u → a ≠ p := fun a u e => ne_of_none e hp
  refine ⟨⟨⟨same_right L.gr.sub bp, L.gr.base, L.gr.new, fun a o h1 h2 => ?_, fun T h => ?_⟩, L.len, fun i sl e => (L.at' i sl e).grow (Same.refl _) fun a u _ _ h2 _ h4 => ?_, L.dis⟩, bp, h0, fun j sl e1 e2 q => ?_, upd_same⟩
  · have := L.gr.keep a o h1 h2
    rw [upd_ne (np a o this)]
    exact this
  · obtain ⟨t1, t2⟩ := L.gr.tp T h
    obtain ⟨_, i, c, e, _⟩ := id t2
    exact ⟨t1, t2.mono (Same.refl _) t2.1 fun o ho => by rw [upd_ne (np T _ e)]; exact ho⟩
  · rw [upd_ne (np a u h4)]
    exact ⟨h2, h4⟩
  · obtain ⟨a, o, g1, g2, g3, g4, _⟩ := (L.at' j sl e1).owner e2
    rw [q] at g1
    cases g1
    rw [hp] at g4
    cases g4

theorem Lay.ownD (L : Lay X.K W B H σ ρ) {i : Nat} {p : Addr} {ws : List (Key × V)} {kvs : List (Key × PyData)} (h1 : B p = none) (h2 : W.H0 p = none) (h3 : ∀ (j : Nat) (sl : Sl), ρ[j]? = some sl → sl.ow = true → σ[j]? ≠ some (some (.ref p))) (h4 : H p = some (.dK ws)) (h5 : KvD X.K B ws kvs) :
    Lay X.K W B H (σ.set i (some (.ref p))) (ρ.set i (.dic kvs)) := by
  refine ⟨L.gr, by simp [L.len], fun j sl e => ?_, fun j k s t hne e1 e2 o1 o2 => ?_⟩
  · by_cases hj : i = j
    · subst hj
      have hl : i < ρ.length := by
        have := (List.getElem?_eq_some_iff.mp e).1
        simpa using this
      rw [List.getElem?_set_self hl] at e
      cases e
      rw [List.getElem?_set_self (by rw [L.len]; exact hl)]
      exact ⟨p, ws, rfl, h1, h2, h4, h5⟩
    · rw [List.getElem?_set_ne hj] at e ⊢
      exact L.at' j sl e
  · by_cases hj : i = j
    · subst hj
      have hl : i < ρ.length := by
        have := (List.getElem?_eq_some_iff.mp e1).1
        simpa using this
      rw [List.getElem?_set_self (by rw [L.len]; exact hl)]
      rw [List.getElem?_set_ne hne] at e2 ⊢
      exact fun q => h3 k t e2 o2 q.symm
    · by_cases hk : i = k
      · subst hk
        have hl : i < ρ.length := by
          have := (List.getElem?_eq_some_iff.mp e2).1
          simpa using this
        rw [List.getElem?_set_self (by rw [L.len]; exact hl)]
        rw [List.getElem?_set_ne hj] at e1 ⊢
        exact h3 j s e1 o1
      · rw [List.getElem?_set_ne hj] at e1 ⊢
        rw [List.getElem?_set_ne hk] at e2 ⊢
        exact L.dis j k s t hne e1 e2 o1 o2

theorem Lay.chgD (L : Lay X.K W B H σ ρ) {i : Nat} {p : Addr} {ws : List (Key × V)} {kvs kvs0 : List (Key × PyData)} (hρ : ρ[i]? = some (.dic kvs0)) (hσ : σ[i]? = some (some (.ref p))) (h5 : KvD X.K B ws kvs) : Lay X.K W B (upd H p (.dK ws)) σ (ρ.set i (.dic kvs)) := by
  obtain ⟨p', vs0, e1, e2, e3, e4, e5⟩ := L.at' i _ hρ
  rw [hσ] at e1
  cases e1
  have hl : i < ρ.length := (List.getElem?_eq_some_iff.mp hρ).1
  have hT : ∀ T, W.T = some T → T ≠ p := fun T h q => by
    subst q
    exact (L.gr.tp T h).1 e3
  refine ⟨⟨same_right L.gr.sub e2, L.gr.base, L.gr.new, fun a o h1 h2 => ?_, fun T h => ?_⟩, by simp [L.len], fun j sl e => ?_, fun j k s t hne f1 f2 o1 o2 => ?_⟩
  · have ha : a ≠ p := by
      rintro rfl
      rw [e3] at h1
      cases h1
    rw [upd_ne ha]
    exact L.gr.keep a o h1 h2
  · obtain ⟨t1, t2⟩ := L.gr.tp T h
    exact ⟨t1, t2.mono (Same.refl _) t2.1 fun o ho => by rw [upd_ne (hT T h)]; exact ho⟩
  · by_cases hj : i = j
    · subst hj
      rw [List.getElem?_set_self hl] at e
      cases e
      exact ⟨p, ws, hσ, e2, e3, upd_same, h5⟩
    · rw [List.getElem?_set_ne hj] at e
      refine (L.at' j sl e).grow (Same.refl _) fun a o g1 g2 g3 _ g5 => ⟨g3, ?_⟩
      have ha : a ≠ p := by
        rintro rfl
        exact L.dis i j _ sl hj hρ e rfl g2 (hσ.trans g1.symm)
      rw [upd_ne ha]
      exact g5
  · have q1 : ∃ s', ρ[j]? = some s' ∧ s'.ow = true := by
      by_cases hj : i = j
      · subst hj
        exact ⟨_, hρ, rfl⟩
      · rw [List.getElem?_set_ne hj] at f1
        exact ⟨s, f1, o1⟩
    have q2 : ∃ s', ρ[k]? = some s' ∧ s'.ow = true := by
      by_cases hj : i = k
      · subst hj
        exact ⟨_, hρ, rfl⟩
      · rw [List.getElem?_set_ne hj] at f2
        exact ⟨t, f2, o2⟩
    obtain ⟨s', g1, g2⟩ := q1
    obtain ⟨t', g3, g4⟩ := q2
    exact L.dis j k s' t' hne g1 g3 g2 g4

/-! what a dict holds, as data -/
def gtD (kvs : List (Key × PyData)) (k : Key) : Option PyData := (kvs.find? fun kv => decide (kv.1 = k)).map (·.2)
def ptD (kvs : List (Key × PyData)) (k : Key) (d : PyData) : List (Key × PyData) := if (gtD kvs k).isSome = true then kvs.map fun kv => if kv.1 = k then (kv.1, d) else kv else kvs ++ [(k, d)]
theorem gtD_nil {k : Key} : gtD [] k = none := rfl
theorem gtD_pos {p : Key × PyData} {r : List (Key × PyData)} {k : Key} (e : p.1 = k) : gtD (p :: r) k = some p.2 := by simp [gtD, List.find?_cons, e]
theorem gtD_neg {p : Key × PyData} {r : List (Key × PyData)} {k : Key} (e : ¬ p.1 = k) : gtD (p :: r) k = gtD r k := by simp [gtD, List.find?_cons, e]
theorem gtD_map (k j : Key) (y : PyData) : ∀ kvs : List (Key × PyData), gtD (kvs.map fun kv => if kv.1 = k then (kv.1, y) else kv) j = (gtD kvs j).map fun x => if j = k then y else x
  | [] => rfl
  | p :: r => by
    rw [List.map_cons]
    by_cases e : p.1 = k
    · rw [if_pos e]
      by_cases q : p.1 = j
      · rw [gtD_pos (p := (p.1, y)) q, gtD_pos q, Option.map_some, if_pos (q.symm.trans e)]
      · rw [gtD_neg (p := (p.1, y)) q, gtD_neg q, gtD_map]
    · rw [if_neg e]
      by_cases q : p.1 = j
      · rw [gtD_pos q, gtD_pos q, Option.map_some, if_neg (fun z => e (q.trans z))]
      · rw [gtD_neg q, gtD_neg q, gtD_map]
theorem gtD_snoc (k j : Key) (y : PyData) : ∀ kvs : List (Key × PyData), gtD kvs k = none → gtD (kvs ++ [(k, y)]) j = if j = k then some y else gtD kvs j
  | [], _ => by
    by_cases e : j = k
    · rw [if_pos e]
      exact gtD_pos e.symm
    · rw [if_neg e]
      exact gtD_neg fun z => e z.symm
  | p :: r, h => by
    by_cases e : p.1 = k
    · rw [gtD_pos e] at h
      cases h
    · rw [gtD_neg e] at h
      rw [List.cons_append]
      by_cases q : p.1 = j
      · rw [gtD_pos q, gtD_pos q, if_neg (fun z => e (q.trans z))]
      · rw [gtD_neg q, gtD_neg q, gtD_snoc k j y r h]
theorem gtD_put (kvs : List (Key × PyData)) (k j : Key) (y : PyData) : gtD (ptD kvs k y) j = if j = k then some y else gtD kvs j := by
  unfold ptD
  by_cases a : (gtD kvs k).isSome = true
  · rw [if_pos a, gtD_map]
    by_cases e : j = k
    · obtain ⟨x, hx⟩ := Option.isSome_iff_exists.mp a
      rw [if_pos e, e, hx, Option.map_some, if_pos rfl]
    · rw [if_neg e]
      cases gtD kvs j with
      | none => rfl
      | some x => rw [Option.map_some, if_neg e]
  · rw [if_neg a]
    refine gtD_snoc k j y kvs ?_
    cases q : gtD kvs k with
    | none => rfl
    | some x => rw [q] at a; exact (a rfl).elim
theorem ptD_len (kvs : List (Key × PyData)) (k : Key) (v : PyData) : (ptD kvs k v).length ≤ kvs.length + 1 := by
  unfold ptD
  split
  · rw [List.length_map]; omega
  · rw [List.length_append, List.length_cons, List.length_nil]; omega
theorem kv_val {K : PySem.W.Frag} {ws : List (Key × V)} {kvs : List (Key × PyData)} (h : KvD K B ws kvs) (k : Key) : (valV ws k = none ∧ gtD kvs k = none) ∨ ∃ v d, valV ws k = some v ∧ gtD kvs k = some d ∧ Dq K B v d := by
  unfold KvD at h
  induction h with
  | nil => exact .inl ⟨rfl, rfl⟩
  | @cons p q ps qs h t ih =>
    obtain ⟨h1, h2⟩ := h
    by_cases e : p.1 = k
    · exact .inr ⟨p.2, q.2, valV_pos e, gtD_pos (h1.symm.trans e), h2⟩
    · rw [valV_neg e, gtD_neg (fun z => e (h1.trans z))]
      exact ih
theorem kv_some {K : PySem.W.Frag} {ws : List (Key × V)} {kvs : List (Key × PyData)} (h : KvD K B ws kvs) (k : Key) : (valV ws k).isSome = (gtD kvs k).isSome := by
  rcases kv_val h k with ⟨e1, e2⟩ | ⟨v, d, e1, e2, _⟩ <;> rw [e1, e2] <;> rfl
theorem kv_put {K : PySem.W.Frag} {ws : List (Key × V)} {kvs : List (Key × PyData)} (h : KvD K B ws kvs) (k : Key) {v : V} {d : PyData} (hd : Dq K B v d) : KvD K B (putK ws k v) (ptD kvs k d) := by
  have hs := kv_some h k
  unfold putK ptD
  rw [valV_any, hs]
  by_cases q : (gtD kvs k).isSome = true
  · rw [if_pos q, if_pos q]
    unfold KvD at h ⊢
    clear q hs
    induction h with
    | nil => exact .nil
    | @cons p q ps qs h t ih =>
      rw [List.map_cons, List.map_cons]
      refine .cons ?_ ih
      obtain ⟨h1, h2⟩ := h
      by_cases e : p.1 = k
      · rw [if_pos e, if_pos (h1.symm.trans e)]; exact ⟨h1, hd⟩
      · rw [if_neg e, if_neg (fun z => e (h1.trans z))]; exact ⟨h1, h2⟩
  · rw [if_neg q, if_neg q]
    exact Paired.snoc h ⟨rfl, hd⟩
theorem kv_len {K : PySem.W.Frag} {ws : List (Key × V)} {kvs : List (Key × PyData)} (h : KvD K B ws kvs) : ws.length = kvs.length := Paired.length h
/-- a fresh, empty dict comes to a slot -/
theorem Lay.newD (L : Lay X.K W B H σ ρ) (i : Nat) {p : Addr} (hp : H p = none) : Lay X.K W B (upd H p (.dK [])) (σ.set i (some (.ref p))) (ρ.set i (.dic [])) := by
  obtain ⟨L', h1, h2, h3, h4⟩ := fresh_any L hp (.dK [])
  exact L'.ownD h1 h2 h3 h4 .nil
theorem no_put {p : Addr} {i : Nat} {v : V} {d : PyData} (h : ∀ (j : Nat) (sl : Sl), ρ[j]? = some sl → sl.ow = true → σ[j]? ≠ some (some (.ref p))) : ∀ (j : Nat) (sl : Sl), (ρ.set i (.im d))[j]? = some sl → sl.ow = true → (σ.set i (some v))[j]? ≠ some (some (.ref p)) := fun j sl e1 e2 => by
  by_cases hj : i = j
  · subst hj
    have hl : i < ρ.length := by
      have := (List.getElem?_eq_some_iff.mp e1).1
      simpa using this
    rw [List.getElem?_set_self hl] at e1
    cases e1
    cases e2
  · rw [List.getElem?_set_ne hj] at e1 ⊢
    exact h j sl e1 e2
/-- x = {} -/
theorem es_dic (i : Nat) {x : Str} {pos' dp : Pos} (h : D.nx (ρ.set i (.dic []))) (hN : X.N.Nodup) (hi : X.N[i]? = some x := by rfl) (hx : Loc X.env.scope x := by first | exact .inl rfl | exact .inr rfl) (hs : swapsWith (.Dict [] [] dp) (some (.Name x pos')) pos.line X.env = pure false := by rfl)
    (hf : X.fn x = true ∨ X.env.scope.names.lookup x = some .local := by first | exact .inl rfl | exact .inr rfl | assumption) : Es X W (.Assign [.Name x pos'] (.Dict [] [] dp) pos) ρ D :=
  ⟨fun σ H B L => (ps_set hN hi hx pe_dnewK hs hf).toZ fun p hp => ⟨B, _, Same.refl _, L.newD i hp, h⟩⟩
/-- x, y, z = {}, m, n -/
theorem es_par3D (i j l : Nat) {m n : Int} {x y z : Str} {px py pz pt dp p1 p2 : Pos} {kt k2 pt2 j1 j2} (h : D.nx (((ρ.set i (.dic [])).set j (.im (.int m))).set l (.im (.int n)))) (hc : X.calm = true) (hN : X.N.Nodup)
    (hi : X.N[i]? = some x := by rfl) (hj : X.N[j]? = some y := by rfl) (hl : X.N[l]? = some z := by rfl) (hij : i ≠ j := by decide) (hil : i ≠ l := by decide) (hjl : j ≠ l := by decide)
    (hx : X.env.scope.names.lookup x = some .local := by rfl) (hy : X.env.scope.names.lookup y = some .local := by rfl) (hz : X.env.scope.names.lookup z = some .local := by rfl)
    (hw : swappedStores [.Tuple [.Name x px, .Name y py, .Name z pz] kt pt] (.Tuple [.Dict [] [] dp, .Constant (.int m) j1 p1, .Constant (.int n) j2 p2] k2 pt2) X.env = pure (some [x, y, z]) := by rfl)
    (hs : swapsWithSole [.Tuple [.Name x px, .Name y py, .Name z pz] kt pt] (.Tuple [.Dict [] [] dp, .Constant (.int m) j1 p1, .Constant (.int n) j2 p2] k2 pt2) pos.line X.env = pure false := by rfl) :
    Es X W (.Assign [.Tuple [.Name x px, .Name y py, .Name z pz] kt pt] (.Tuple [.Dict [] [] dp, .Constant (.int m) j1 p1, .Constant (.int n) j2 p2] k2 pt2) pos) ρ D := by
  refine ⟨fun σ H B L => (ps_par3 hc hN hi hj hl hij hil hjl hx hy hz (pa_cons pe_dnewK (pa_cons pe_int (pa_cons pe_int pa_nil rfl) rfl) rfl) hw hs).toZ ?_⟩
  intro p hp
  exact ⟨_, _, _, rfl, B, _, Same.refl _, ((L.newD i hp).put (.int m)).put (.int n), h⟩
/-- x, y, z, t = a, m, n, {} -/
theorem es_par4D (i j l o : Nat) {m n : Int} {x y z t : Str} {px py pz pq pt dp p1 p2 : Pos} {kt k2 pt2 j1 j2} (h : Ev X W a ρ fun d => D.nx ((((ρ.set i (.im d)).set j (.im (.int m))).set l (.im (.int n))).set o (.dic []))) (hc : X.calm = true) (hN : X.N.Nodup)
    (hi : X.N[i]? = some x := by rfl) (hj : X.N[j]? = some y := by rfl) (hl : X.N[l]? = some z := by rfl) (ho : X.N[o]? = some t := by rfl)
    (hx : X.env.scope.names.lookup x = some .local := by rfl) (hy : X.env.scope.names.lookup y = some .local := by rfl) (hz : X.env.scope.names.lookup z = some .local := by rfl) (ht : X.env.scope.names.lookup t = some .local := by rfl)
    (hx' : Loc X.env.scope x := by first | exact .inl rfl | exact .inr rfl) (hy' : Loc X.env.scope y := by first | exact .inl rfl | exact .inr rfl) (hz' : Loc X.env.scope z := by first | exact .inl rfl | exact .inr rfl) (ht' : Loc X.env.scope t := by first | exact .inl rfl | exact .inr rfl)
    (n1 : (assignEach [.Name x px, .Name y py, .Name z pz, .Name t pq] X.env).map (·.2) = assign (.Name x px) X.env :: (assignEach [.Name y py, .Name z pz, .Name t pq] X.env).map (·.2) := by rfl)
    (n2 : (assignEach [.Name y py, .Name z pz, .Name t pq] X.env).map (·.2) = assign (.Name y py) X.env :: (assignEach [.Name z pz, .Name t pq] X.env).map (·.2) := by rfl)
    (n3 : (assignEach [.Name z pz, .Name t pq] X.env).map (·.2) = assign (.Name z pz) X.env :: (assignEach [.Name t pq] X.env).map (·.2) := by rfl)
    (n4 : (assignEach [.Name t pq] X.env).map (·.2) = assign (.Name t pq) X.env :: (assignEach [] X.env).map (·.2) := by rfl)
    (n5 : (assignEach [.Name x px, .Name y py, .Name z pz, .Name t pq] X.env).length = 4 := by rfl) (n6 : (assignEach [.Name x px, .Name y py, .Name z pz, .Name t pq] X.env).findIdx? (·.1) = none := by rfl)
    (hse : starEach [a, .Constant (.int m) j1 p1, .Constant (.int n) j2 p2, .Dict [] [] dp] X.env = (false, eval a X.env) :: starEach [.Constant (.int m) j1 p1, .Constant (.int n) j2 p2, .Dict [] [] dp] X.env := by rfl)
    (hs : swapsWithSole [.Tuple [.Name x px, .Name y py, .Name z pz, .Name t pq] kt pt] (.Tuple [a, .Constant (.int m) j1 p1, .Constant (.int n) j2 p2, .Dict [] [] dp] k2 pt2) pos.line X.env = pure false := by rfl)
    (hw : swappedStores [.Tuple [.Name x px, .Name y py, .Name z pz, .Name t pq] kt pt] (.Tuple [a, .Constant (.int m) j1 p1, .Constant (.int n) j2 p2, .Dict [] [] dp] k2 pt2) X.env = pure none := by rfl)
    (h1 : (assignEach [.Tuple [.Name x px, .Name y py, .Name z pz, .Name t pq] kt pt] X.env).map (·.2) = [assign (.Tuple [.Name x px, .Name y py, .Name z pz, .Name t pq] kt pt) X.env] := by rfl) :
    Es X W (.Assign [.Tuple [.Name x px, .Name y py, .Name z pz, .Name t pq] kt pt] (.Tuple [a, .Constant (.int m) j1 p1, .Constant (.int n) j2 p2, .Dict [] [] dp] k2 pt2) pos) ρ D := by
  refine ⟨fun σ H B L => (ps_asg (pe_tup (pa_cons pe_w (pa_cons pe_int (pa_cons pe_int (pa_cons pe_dnewK pa_nil rfl) rfl) rfl) hse))
    (pg_tup hc (pgs_cons (pg_name hN hi hx' (.inr hx)) (pgs_cons (pg_name hN hj hy' (.inr hy)) (pgs_cons (pg_name hN hl hz' (.inr hz)) (pgs_cons (pg_name hN ho ht' (.inr ht)) pgs_nil n4) n3) n2) n1) n5 n6) hs hw h1).toZ ?_⟩
  refine h.run σ H B _ L fun v H1 B1 d s1 L1 D1 h2 => ?_
  intro p hp
  refine ⟨by rw [sizeLine_eq]; exact (by decide : 4 ≤ 16777216), fun q hq => ?_⟩
  obtain ⟨L2, g1, g2, g3, g4⟩ := fresh_any L1 hp (.dK [])
  obtain ⟨L3, _⟩ := fresh_any L2 hq (.tup [v, .int m, .int n, .ref p])
  have hpq : p ≠ q := ne_of_none g4 hq
  have g5 : (upd (upd H1 p (.dK [])) q (.tup [v, .int m, .int n, .ref p])) p = some (.dK []) := by
    rw [upd_ne hpq]
    exact g4
  refine ⟨q, _, rfl, SqT.of upd_same, rfl, _, _, rfl, _, _, rfl, _, _, rfl, _, _, rfl, rfl, B1, _, s1, ?_, h2⟩
  refine Lay.ownD (((L3.put D1).put (.int m)).put (.int n)) g1 g2 (no_put (no_put (no_put g3))) g5 .nil
/-- e in d -/
theorem et_inD (i : Nat) {x : Str} {px : Pos} {kvs : List (Key × PyData)} {R : Bool → Prop} (hρ : ρ[i]? = some (.dic kvs)) (hu : X.A.units + 1 < cLine) (h : Ev X W a ρ fun y => match y with | .int z => R (gtD kvs (.inl z)).isSome | _ => False) (hN : X.N[i]? = some x := by rfl)
    (hv : Vis X.env.scope x := by first | exact Or.inl rfl | exact Or.inr (Or.inl rfl) | exact Or.inr (Or.inr rfl)) (hd : (x == ("__debug__" : Str)) = false := by decide) (hcd : (x == ("__classdict__" : Str)) = false := by decide) : Et X W (.Compare a [.In] [.Name x px] pos) ρ R := by
  refine ⟨fun σ H B Q L k => (pt_cmp (pc_din hu pe_w (pe_var hN hv hd hcd))).toZ ?_⟩
  refine h.run σ H B _ L fun v H1 B1 y s1 L1 D1 h2 => ?_
  cases y <;> first | exact h2.elim | skip
  rename_i z
  obtain ⟨p, ws, e1, e2, e3, e4, e5⟩ := L1.at' i _ hρ
  cases dp_int D1
  refine ⟨.ref p, e1, p, _, rfl, DGet.k (k := .inl z) e4, ?_⟩
  rw [kv_some e5]
  exact ⟨_, rfl, k _ H1 B1 s1 L1 h2⟩
theorem et_notInD (i : Nat) {x : Str} {px : Pos} {kvs : List (Key × PyData)} {R : Bool → Prop} (hρ : ρ[i]? = some (.dic kvs)) (hu : X.A.units + 1 < cLine) (h : Ev X W a ρ fun y => match y with | .int z => R (!(gtD kvs (.inl z)).isSome) | _ => False) (hN : X.N[i]? = some x := by rfl)
    (hv : Vis X.env.scope x := by first | exact Or.inl rfl | exact Or.inr (Or.inl rfl) | exact Or.inr (Or.inr rfl)) (hd : (x == ("__debug__" : Str)) = false := by decide) (hcd : (x == ("__classdict__" : Str)) = false := by decide) : Et X W (.Compare a [.NotIn] [.Name x px] pos) ρ R := by
  refine ⟨fun σ H B Q L k => (pt_cmp (pc_dnotin hu pe_w (pe_var hN hv hd hcd))).toZ ?_⟩
  refine h.run σ H B _ L fun v H1 B1 y s1 L1 D1 h2 => ?_
  cases y <;> first | exact h2.elim | skip
  rename_i z
  obtain ⟨p, ws, e1, e2, e3, e4, e5⟩ := L1.at' i _ hρ
  cases dp_int D1
  refine ⟨.ref p, e1, p, _, rfl, DGet.k (k := .inl z) e4, ?_⟩
  rw [kv_some e5]
  exact ⟨_, rfl, k _ H1 B1 s1 L1 h2⟩
/-- d[e] -/
theorem ev_ixD (i : Nat) {x : Str} {px : Pos} {kvs : List (Key × PyData)} (hρ : ρ[i]? = some (.dic kvs)) (hu : X.A.units + 1 < cLine) (h : Ev X W b ρ fun y => match y with | .int z => ∃ d, gtD kvs (.inl z) = some d ∧ R d | _ => False) (hN : X.N[i]? = some x := by rfl)
    (hs : NoSl b := by exact fun _ _ => rfl) (hv : Vis X.env.scope x := by first | exact Or.inl rfl | exact Or.inr (Or.inl rfl) | exact Or.inr (Or.inr rfl)) (hd : (x == ("__debug__" : Str)) = false := by decide) (hcd : (x == ("__classdict__" : Str)) = false := by decide) : Ev X W (.Subscript (.Name x px) b pos) ρ R := by
  refine ⟨fun σ H B Q L k => (pe_dget hu (pe_var hN hv hd hcd) pe_w hs).toZ ?_⟩
  obtain ⟨p, vs, e1, e2, e3, e4, e5⟩ := L.at' i _ hρ
  refine ⟨.ref p, e1, ?_⟩
  refine h.run σ H B _ L fun u H2 B2 y s2 L2 D2 h3 => ?_
  cases y <;> first | exact h3.elim | skip
  rename_i z
  obtain ⟨d, hd, r⟩ := h3
  obtain ⟨p', vs', f1, f2, f3, f4, f5⟩ := L2.at' i _ hρ
  rw [e1] at f1
  cases f1
  cases dp_int D2
  rcases kv_val f5 (.inl z) with ⟨q1, q2⟩ | ⟨v, d', q1, q2, q3⟩
  · rw [q2] at hd
    cases hd
  · rw [q2] at hd
    cases hd
    refine ⟨p, v, rfl, ?_, k v H2 B2 _ s2 L2 q3 r⟩
    rw [← q1]
    exact DGet.k (k := .inl z) f4
/-- d[b] = e -/
theorem es_putD (i : Nat) {x : Str} {px p2 : Pos} {kvs : List (Key × PyData)} (hρ : ρ[i]? = some (.dic kvs)) (hu : X.A.units + 1 < cLine) (h : Ev X W e ρ fun d => Ev X W b ρ fun y => match y with | .int z => kvs.length < sizeLine ∧ D.nx (ρ.set i (.dic (ptD kvs (.inl z) d))) | _ => False) (hN : X.N[i]? = some x := by rfl)
    (hv : Vis X.env.scope x := by first | exact Or.inl rfl | exact Or.inr (Or.inl rfl) | exact Or.inr (Or.inr rfl)) (hd : (x == ("__debug__" : Str)) = false := by decide) (hcd : (x == ("__classdict__" : Str)) = false := by decide)
    (hs : swapsWith e (some (.Subscript (.Name x px) b p2)) pos.line X.env = pure false := by rfl) : Es X W (.Assign [.Subscript (.Name x px) b p2] e pos) ρ D := by
  refine ⟨fun σ H B L => (ps_dput hu (pe_var hN hv hd hcd) pe_w pe_w hs).toZ ?_⟩
  refine h.run σ H B _ L fun v H1 B1 d s1 L1 D1 h2 => ?_
  obtain ⟨p, vs, e1, e2, e3, e4, e5⟩ := L1.at' i _ hρ
  refine ⟨.ref p, e1, ?_⟩
  refine h2.run σ H1 B1 _ L1 fun u H2 B2 y s2 L2 D2 h3 => ?_
  cases y <;> first | exact h3.elim | skip
  rename_i z
  obtain ⟨hl, hn⟩ := h3
  obtain ⟨p', vs', f1, f2, f3, f4, f5⟩ := L2.at' i _ hρ
  rw [e1] at f1
  cases f1
  cases dp_int D2
  exact ⟨p, _, rfl, DPut.k (k := .inl z) f4 (by rw [kv_len f5]; exact hl), B2, _, s1.trans s2, L2.chgD hρ e1 (kv_put f5 (.inl z) (dpMono s2 _ _ D1)), hn⟩
/-! ### len(set(xs)) -/
def tLenSetL (K : PySem.W.Frag) (ta : TE) : TE := fun σ H Q => ta σ H fun x H1 => ∃ (l : Addr) (ns : List Int), x = .ref l ∧ SqL K H1 l (ns.map V.int) ∧ ns.length ≤ 4000 ∧ Q (.int ((PyProof.Rows.firstMet (fun i => ns.getD i 0) ns.length).length : Nat)) H1
theorem pe_lenSetL {p p2 q : Pos} {ta : TE} (hg : Gl X "len") (hm : X.mg "len" = none) (hg2 : Gl X "set") (hm2 : X.mg "set" = none) (ha : PE X a ta) (hc : X.calm = true)
    (na : starEach [a] X.env = (false, eval a X.env) :: starEach [] X.env) (n2 : (starEach [.Call (.Name "set" p2) [a] [] q] X.env) = (false, eval (.Call (.Name "set" p2) [a] [] q) X.env) :: starEach [] X.env) : PE X (.Call (.Name "len" p) [.Call (.Name "set" p2) [a] [] q] [] pos) (tLenSetL X.K ta) := by
  refine ⟨fun pins s σ H Q I h => ?_⟩
  refine Call_ (ld_blt I hg hm boot_len ?_)
  refine PyProof.Rows.callWith_builtin1 (PyProof.Rows.args_cons ?_ n2) n2 rfl
  refine Call_ (ld_blt I hg2 hm2 boot_set ?_)
  refine PyProof.Rows.callWith_type1 (PyProof.Rows.args_cons (thn (ha.run pins s σ H _ I h) fun v s1 ⟨x, H1, I1, r1, q1⟩ => PyProof.Rows.args_nil ?_) na) na rfl
  obtain ⟨l, ns, rfl, hq, hl, q1⟩ := q1
  cases r1
  obtain ⟨its, r, pl, hz⟩ := I1.list hq
  have hlen : its.toArray.size = ns.length := by rw [List.size_toArray, ← r.length, List.length_map]
  refine call_set_list (I1.ok.hd hc) pl.isList (by simpa using RZ.intsAre_vals r) (by rw [hlen]; unfold scanBound; omega) fun h' tk hS hk => ?_
  refine PyProof.Rows.args_nil ?_
  rw [hlen] at hS
  obtain ⟨o, es, ep, t, ho, hex, hd, _, _, _, hf, hn⟩ := hS
  have I2 : Inv X pins σ H1 { s1 with heap := h', toks := tk } := I1.kept fun b o e => hk b o (Heap.lt_size e) e
  have hb := PyProof.Rows.firstMet_length_le (fun i => ns.getD i 0) ns.length
  exact call_len_set ho hex hd hf (by rw [hn] <;> omega) ⟨.int (PyProof.Rows.firstMet (fun i => ns.getD i 0) ns.length).length, H1, I2.tok _, ⟨_, by rw [hn]⟩, q1⟩
theorem ev_lenSetL {p p2 q : Pos} (hc : X.calm = true) (hm : X.mg "len" = none) (hm2 : X.mg "set" = none) (h : Ev X W a ρ fun d => ∃ ns : List Int, d = .list (ns.map PyData.int) ∧ ns.length ≤ 4000 ∧ R (.int ((PyProof.Rows.firstMet (fun i => ns.getD i 0) ns.length).length : Nat)))
    (hg : Gl X "len" := by rfl) (hg2 : Gl X "set" := by rfl) (na : starEach [a] X.env = (false, eval a X.env) :: starEach [] X.env := by rfl) (n2 : (starEach [.Call (.Name "set" p2) [a] [] q] X.env) = (false, eval (.Call (.Name "set" p2) [a] [] q) X.env) :: starEach [] X.env := by rfl) :
    Ev X W (.Call (.Name "len" p) [.Call (.Name "set" p2) [a] [] q] [] pos) ρ R := by
  refine ⟨fun σ H B Q L k => (pe_lenSetL hg hm hg2 hm2 pe_w hc na n2).toZ ?_⟩
  refine h.run σ H B _ L fun v H1 B1 d s1 L1 D1 h2 => ?_
  obtain ⟨ns, rfl, h3, h4⟩ := h2
  obtain ⟨q, vs, rfl, h5, h6⟩ := dp_list D1
  cases dq_ints h6
  exact ⟨q, ns, rfl, SqL.of (L1.gr.sub _ _ h5), h3, k _ H1 B1 _ s1 L1 (.int _) h4⟩
theorem setR_count {w : World} {h : Heap} {a : Addr} {ns : List Int} {c : Nat} (R : SetR w h a (fun j => decide (j ∈ ns)) c) (hn : ns.Nodup) : c = ns.length := by
  obtain ⟨o, es, ep, t, ho, hex, hd, _, hnd, hmem, _, _, hsz, _⟩ := R
  have hp : (es.toList.map keyOf).Perm ns := by
    refine (List.perm_ext_iff_of_nodup hnd hn).mpr fun k => ?_
    rw [← hmem k]
    simp
  have := hp.length_eq
  rw [List.length_map, Array.length_toList] at this
  omega
def tLenSetT (K : PySem.W.Frag) (ta : TE) : TE := fun σ H Q => ta σ H fun x H1 => ∃ (l : Addr) (ns : List Int), x = .ref l ∧ SqT K H1 l (ns.map V.int) ∧ ns.Nodup ∧ ns.length ≤ 4000 ∧ Q (.int (ns.length : Nat)) H1
theorem pe_lenSetT {p p2 q : Pos} {ta : TE} (hg : Gl X "len") (hm : X.mg "len" = none) (hg2 : Gl X "set") (hm2 : X.mg "set" = none) (ha : PE X a ta) (hc : X.calm = true)
    (na : starEach [a] X.env = (false, eval a X.env) :: starEach [] X.env) (n2 : (starEach [.Call (.Name "set" p2) [a] [] q] X.env) = (false, eval (.Call (.Name "set" p2) [a] [] q) X.env) :: starEach [] X.env) : PE X (.Call (.Name "len" p) [.Call (.Name "set" p2) [a] [] q] [] pos) (tLenSetT X.K ta) := by
  refine ⟨fun pins s σ H Q I h => ?_⟩
  refine Call_ (ld_blt I hg hm boot_len ?_)
  refine PyProof.Rows.callWith_builtin1 (PyProof.Rows.args_cons ?_ n2) n2 rfl
  refine Call_ (ld_blt I hg2 hm2 boot_set ?_)
  refine PyProof.Rows.callWith_type1 (PyProof.Rows.args_cons (thn (ha.run pins s σ H _ I h) fun v s1 ⟨x, H1, I1, r1, q1⟩ => PyProof.Rows.args_nil ?_) na) na rfl
  obtain ⟨l, ns, rfl, hq, hnd, hl, q1⟩ := q1
  cases r1
  obtain ⟨its, r, pl, hz⟩ := I1.tuple hq
  refine call_set_tupI ns (I1.ok.hd hc) pl (by simpa using RZ.intsAre_vals r) (by unfold scanBound; omega) fun h' tk c hS hc hk => ?_
  refine PyProof.Rows.args_nil ?_
  obtain rfl := setR_count hS hnd
  obtain ⟨o, es, ep, t, ho, hex, hd, _, _, _, _, hf, hn, _⟩ := hS
  have I2 : Inv X pins σ H1 { s1 with heap := h', toks := tk } := I1.kept fun b o e => hk b o e
  exact call_len_set ho hex hd hf (by rw [hn] <;> omega) ⟨.int ns.length, H1, I2.tok _, ⟨_, by rw [hn]⟩, q1⟩
theorem ev_lenSetT {p p2 q : Pos} (hc : X.calm = true) (hm : X.mg "len" = none) (hm2 : X.mg "set" = none) (h : Ev X W a ρ fun d => ∃ ns : List Int, d = .tuple (ns.map PyData.int) ∧ ns.Nodup ∧ ns.length ≤ 4000 ∧ R (.int (ns.length : Nat)))
    (hg : Gl X "len" := by rfl) (hg2 : Gl X "set" := by rfl) (na : starEach [a] X.env = (false, eval a X.env) :: starEach [] X.env := by rfl) (n2 : (starEach [.Call (.Name "set" p2) [a] [] q] X.env) = (false, eval (.Call (.Name "set" p2) [a] [] q) X.env) :: starEach [] X.env := by rfl) :
    Ev X W (.Call (.Name "len" p) [.Call (.Name "set" p2) [a] [] q] [] pos) ρ R := by
  refine ⟨fun σ H B Q L k => (pe_lenSetT hg hm hg2 hm2 pe_w hc na n2).toZ ?_⟩
  refine h.run σ H B _ L fun v H1 B1 d s1 L1 D1 h2 => ?_
  obtain ⟨ns, rfl, h3, h3', h4⟩ := h2
  obtain ⟨q, vs, rfl, h5, h6⟩ := dp_tup D1
  cases dq_ints h6
  exact ⟨q, ns, rfl, seqT L1.gr.sub h5, h3, h3', k _ H1 B1 _ s1 L1 (.int _) h4⟩
/-! ### zip of two lists -/
def zipD : List PyData → List PyData → List PyData
  | x :: xs, y :: ys => .tuple [x, y] :: zipD xs ys
  | _, _ => []
theorem zipD_len : ∀ xs ys : List PyData, (zipD xs ys).length = min xs.length ys.length
  | [], _ => by simp [zipD]
  | _ :: _, [] => by simp [zipD]
  | _ :: xs, _ :: ys => by simp [zipD, zipD_len xs ys]
theorem zipD_get : ∀ (xs ys : List PyData) (i : Nat) {x y : PyData}, xs[i]? = some x → ys[i]? = some y → (zipD xs ys)[i]? = some (.tuple [x, y])
  | [], _, i, _, _, h, _ => by simp at h
  | _ :: _, [], i, _, _, _, h => by simp at h
  | x :: xs, y :: ys, 0, _, _, h1, h2 => by
    simp at h1 h2
    simp [zipD, h1, h2]
  | x :: xs, y :: ys, i + 1, _, _, h1, h2 => by
    simp only [zipD, List.getElem?_cons_succ] at h1 h2 ⊢
    exact zipD_get xs ys i h1 h2
theorem walk_zip {K : PySem.W.Frag} {p q : Addr} {vs us : List V} {ds es : List PyData} {B : Hp} (h : B p = some (.lst vs)) (hd : DqAll K B vs ds) (h' : B q = some (.lst us)) (he : DqAll K B us es) : WalkZ K (Itz K p q) (zipD ds es) B where
  go := fun i B' H' s s' hi => by
    rw [zipD_len, ← dpAll_len hd, ← dpAll_len he] at hi
    have i1 : i < vs.length := by omega
    have i2 : i < us.length := by omega
    exact ⟨vs, us, vs[i], us[i], SqL.of (s' _ _ (s _ _ h)), SqL.of (s' _ _ (s _ _ h')), by simp [i1], by simp [i2]⟩
  stop := fun B' H' s s' => by
    refine ⟨vs, us, SqL.of (s' _ _ (s _ _ h)), SqL.of (s' _ _ (s _ _ h')), ?_⟩
    rw [zipD_len, ← dpAll_len hd, ← dpAll_len he]
    omega
  yld := fun i B' H' x H'' W σ ρ s L hy hi => by
    obtain ⟨T, x1, y1, rfl, hT, rfl, hx, hy⟩ := hy
    rw [zipD_len] at hi
    have hx := hx vs (SqL.of (L.gr.sub _ _ (s _ _ h)))
    have hy := hy us (SqL.of (L.gr.sub _ _ (s _ _ h')))
    have i1 : i < ds.length := by omega
    have i2 : i < es.length := by omega
    obtain ⟨v, h1, h2⟩ := dpAll_get hd (List.getElem?_eq_getElem i1)
    obtain ⟨u, h3, h4⟩ := dpAll_get he (List.getElem?_eq_getElem i2)
    rw [hx] at h1
    rw [hy] at h3
    cases h1
    cases h3
    obtain ⟨sB, L'⟩ := L.fresh hT (.tup [x1, y1])
    refine ⟨_, _, zipD_get ds es i (List.getElem?_eq_getElem i1) (List.getElem?_eq_getElem i2), sB, L', .tup (SqT.of upd_same) (.cons (dpMono (s.trans sB) _ _ h2) (.cons (dpMono (s.trans sB) _ _ h4) .nil)), fun b o q => ?_, fun b o q1 q2 => ?_⟩
    · rw [upd_ne (ne_of_none q hT)]
      exact q
    · rw [upd_ne (ne_of_none q1 hT)]
      exact q2
theorem ei_zip {p tpos : Pos} {elts : List Expr} {kk : Nat} {R : List PyData → Prop} (hm : X.mg "zip" = none) (h : Ev X W a ρ fun d => Ev X W b ρ fun d' => match d, d' with | .list xs, .list ys => R (zipD xs ys) | _, _ => False) (hg : Gl X "zip" := by rfl)
    (hs : starEach [a, b] X.env = (false, eval a X.env) :: starEach [b] X.env := by rfl) (hs2 : starEach [b] X.env = (false, eval b X.env) :: starEach [] X.env := by rfl) (hpl : (backTo pos (starEach [b] X.env)).any (·.1) = false := by rfl) : Ei X W (.Tuple elts kk tpos) (.Call (.Name "zip" p) [a, b] [] pos) ρ R := by
  refine ⟨fun σ H B Q L k => (RZ.pi_zipA hg hm (pa_cons pe_w (pa_cons pe_w pa_nil hs2) hs) hs hpl).toZ ?_⟩
  refine h.run σ H B _ L fun v H1 B1 d s1 L1 D1 h2 => ?_
  refine h2.run σ H1 B1 _ L1 fun u H2 B2 d' s2 L2 D2 h3 => ?_
  cases d <;> first | exact h3.elim | skip
  cases d' <;> first | exact h3.elim | skip
  obtain ⟨p, vs, rfl, h4, h5⟩ := dp_list D1
  obtain ⟨q, us, rfl, h6, h7⟩ := dp_list D2
  have h4' := s2 _ _ h4
  refine ⟨p, q, vs, us, rfl, .inl ⟨SqL.of (L2.gr.sub _ _ h4'), SqL.of (L2.gr.sub _ _ h6), k _ H2 B2 _ (s1.trans s2) L2 (walk_zip h4' (dpAllMono s2 _ _ h5) h6 h7) h3⟩⟩
/-! ### min of a list of pairs -/
def prZ (p : Int × Int) : PyData := .tuple [.int p.1, .int p.2]
def prLe (p q : Int × Int) : Prop := p.1 < q.1 ∨ (p.1 = q.1 ∧ p.2 ≤ q.2)
theorem prZ_lt (p q : Int × Int) : PySem.W.dataLt (prZ p) (prZ q) = decide (p.1 < q.1 ∨ (p.1 = q.1 ∧ p.2 < q.2)) := PySem.W.dataLt_ii _ _ _ _
theorem minD_pr (p : Int × Int) (ps : List (Int × Int)) : ∃ m, m ∈ p :: ps ∧ (∀ y ∈ p :: ps, prLe m y) ∧ PySem.W.minD (prZ p) (ps.map prZ) = prZ m := by
  unfold PySem.W.minD
  induction ps generalizing p with
  | nil => exact ⟨p, by simp, fun y hy => by simp at hy; subst hy; exact .inr ⟨rfl, Int.le_refl _⟩, rfl⟩
  | cons q qs ih =>
    rw [List.map_cons, List.foldl_cons, prZ_lt]
    by_cases h : q.1 < p.1 ∨ (q.1 = p.1 ∧ q.2 < p.2)
    · rw [decide_eq_true h, if_pos rfl]
      obtain ⟨m, h1, h2, h3⟩ := ih q
      refine ⟨m, List.mem_cons_of_mem _ h1, fun y hy => ?_, h3⟩
      rcases List.mem_cons.mp hy with rfl | hy
      · have := h2 q List.mem_cons_self
        unfold prLe at this ⊢
        omega
      · exact h2 y hy
    · rw [decide_eq_false h, if_neg (by decide)]
      obtain ⟨m, h1, h2, h3⟩ := ih p
      refine ⟨m, ?_, fun y hy => ?_, h3⟩
      · rcases List.mem_cons.mp h1 with rfl | h1
        · exact List.mem_cons_self
        · exact List.mem_cons_of_mem _ (List.mem_cons_of_mem _ h1)
      · rcases List.mem_cons.mp hy with rfl | hy
        · exact h2 y List.mem_cons_self
        · rcases List.mem_cons.mp hy with rfl | hy
          · have := h2 p List.mem_cons_self
            unfold prLe at this ⊢
            omega
          · exact h2 y (List.mem_cons_of_mem _ hy)
def rMinPr (K : PySem.W.Frag) : List V → Hp → VK → Prop := fun vs H Q => ∃ (a : Addr) (us : List V) (p : Int × Int) (ps : List (Int × Int)), vs = [V.ref a] ∧ SqL K H a us ∧ DpAll K H us ((p :: ps).map prZ) ∧ ∀ (i : Nat) m u, us[i]? = some u → ((p :: ps).map prZ)[i]? = some (prZ m) → (∀ y ∈ p :: ps, prLe m y) → Q u H
theorem prZ_inj {p q : Int × Int} (h : prZ p = prZ q) : p = q := by
  unfold prZ at h
  injection h with h
  injection h with h1 h
  injection h with h2 h
  injection h1 with h1
  injection h2 with h2
  exact Prod.ext h1 h2
theorem prZ_alike (p q : Int × Int) : PySem.W.alike (prZ p) (prZ q) = true := by
  unfold prZ
  first | rfl | decide | simp [PySem.W.alike, PySem.W.alikeAll]
theorem prZ_depth : ∀ ps : List (Int × Int), PyData.depthAll (ps.map prZ) ≤ 3
  | [] => by simp [PyData.depthAll]
  | p :: ps => by
    have h := prZ_depth ps
    rw [List.map_cons]
    simp only [PyData.depthAll, prZ, PyData.depth]
    omega
theorem prZ_alikeAll (ps : List (Int × Int)) : PySem.W.AlikeAll (ps.map prZ) := by
  refine ⟨fun x hx y hy => ?_, fun x hx => ?_⟩
  · obtain ⟨p, _, rfl⟩ := List.mem_map.mp hx
    obtain ⟨q, _, rfl⟩ := List.mem_map.mp hy
    exact prZ_alike p q
  · obtain ⟨p, _, rfl⟩ := List.mem_map.mp hx
    exact fun z => nomatch z
theorem cr_minPr (hc : X.calm = true) (hu : X.A.units + 64 < cLine) : CallR X (.builtin "min") (rMinPr X.K) := by
  intro pins s σ H vs us Q I r h
  obtain ⟨a, xs, p, ps, rfl, hs, hd, q⟩ := h
  obtain ⟨its, rv, hl, _⟩ := I.list hs
  rw [Vals.ref1 r]
  obtain ⟨as, rd⟩ := Dp.readsAll I _ _ _ hd rv
  have hdep := prZ_depth (p :: ps)
  rw [List.map_cons] at rd hdep
  refine PySem.W.min_list_data (I.ok.hd hc) hl.isList (by simpa using rd) (by rw [← List.map_cons]; exact prZ_alikeAll (p :: ps)) (by omega) fun i v h' tk bs hi r' hk => ?_
  obtain ⟨m, m1, m2, m3⟩ := minD_pr p ps
  rw [m3] at r'
  have hi' : its[i]? = some v := by simpa using hi
  obtain ⟨cs, rc, il, _⟩ := PySem.W.readsAll_at rd i v hi'
  have hln : i < xs.length := by
    have := (List.getElem?_eq_some_iff.mp hi').1
    rw [← rv.length] at this
    exact this
  obtain ⟨v', e1, e2⟩ := Vals.get rv (List.getElem?_eq_getElem hln)
  rw [hi'] at e1
  cases e1
  obtain ⟨e3, _⟩ := Reads.unique (Reads.keeps hk rc) _ _ r'
  refine ⟨xs[i], H, I.kept hk, e2, q i m _ (List.getElem?_eq_getElem hln) ?_ m2⟩
  rw [← e3, List.map_cons, List.getD_eq_getElem?_getD, List.getElem?_eq_getElem il]
  rfl
theorem ev_minPr {p : Pos} (hc : X.calm = true) (hu : X.A.units + 64 < cLine) (hm : X.mg "min" = none) (h : Ev X W e ρ fun d => ∃ (q : Int × Int) (ps : List (Int × Int)), d = .list ((q :: ps).map prZ) ∧ ∀ m ∈ q :: ps, (∀ y ∈ q :: ps, prLe m y) → R (prZ m)) (hg : Gl X "min" := by rfl)
    (he : starEach [e] X.env = (false, eval e X.env) :: starEach [] X.env := by rfl) (hpl : (backTo pos (starEach [] X.env)).any (·.1) = false := by rfl) : Ev X W (.Call (.Name "min" p) [e] [] pos) ρ R := by
  refine ⟨fun σ H B Q L k => (pe_callB (cr_minPr hc hu) hg hm boot_min (pa_cons pe_w pa_nil he) (by decide) (by decide) he hpl).toZ ?_⟩
  refine h.run σ H B _ L fun v H1 B1 d s1 L1 D1 h2 => ?_
  obtain ⟨m0, ps, rfl, h3⟩ := h2
  obtain ⟨q, vs, rfl, h5, h6⟩ := dp_list D1
  refine ⟨q, vs, m0, ps, rfl, SqL.of (L1.gr.sub _ _ h5), dqDpAll _ _ (dpAllMono L1.gr.sub _ _ h6), fun i m u hu hd hle => ?_⟩
  obtain ⟨v, e1, e2⟩ := dpAll_get h6 hd
  rw [hu] at e1
  cases e1
  have hm : m ∈ m0 :: ps := by
    obtain ⟨m', h1, h2⟩ := List.mem_map.mp (List.mem_of_getElem? hd)
    rw [← prZ_inj h2]
    exact h1
  exact k _ H1 B1 _ s1 L1 e2 (h3 m hm hle)
/-- x.extend(e), e a list -/
theorem es_extend (i : Nat) {x : Str} {px pa cp : Pos} {ds : List PyData} (hρ : ρ[i]? = some (.own ds)) (h : Ev X W e ρ fun d => match d with | .list ys => ds.length + ys.length ≤ sizeLine ∧ D.nx (ρ.set i (.own (ds ++ ys))) | _ => False) (hN : X.N[i]? = some x := by rfl) (hv : Vis X.env.scope x := by first | exact Or.inl rfl | exact Or.inr (Or.inl rfl) | exact Or.inr (Or.inr rfl))
    (hs : swapsWith (.Call (.Attribute (.Name x px) "extend" pa) [e] [] cp) none pos.line X.env = pure false := by rfl) (hd : (x == ("__debug__" : Str)) = false := by decide) (hcd : (x == ("__classdict__" : Str)) = false := by decide)
    (hbase : attributeBase (.Name x px) "extend" X.env (eval (.Name x px) X.env) = eval (.Name x px) X.env := by rfl)
    (hfew : ((backTo cp (starEach [e] X.env)).all (fun x => !x.1) && (backToKw cp (keywordEach [] X.env)).all (fun x => x.1.isSome) && decide (([e] : List Expr).length + ([] : List Keyword).length + (if ([] : List Keyword).isEmpty then 0 else 1) < 30)) = true := by rfl)
    (hline : (pa.endLine == cp.line) = true := by rfl) (hse : starEach [e] X.env = (false, eval e X.env) :: starEach [] X.env := by rfl) (hpl : (backTo cp (starEach [] X.env)).any (·.1) = false := by rfl) :
    Es X W (.Expr (.Call (.Attribute (.Name x px) "extend" pa) [e] [] cp) pos) ρ D := by
  refine ⟨fun σ H B L => (ps_expr (pe_bm PySem.F.plainAttrs_list PySem.F.slot_list_extend PySem.F.type_list_extend mt_extend (pe_var hN hv hd hcd) (pa_cons pe_w pa_nil hse) hbase hfew hline hse hpl) hs).toZ ?_⟩
  obtain ⟨p, vs, e1, e2, e3, e4, e5⟩ := L.at' i _ hρ
  refine ⟨.ref p, e1, .inl ⟨rfl, vs, SqL.of e4⟩, ?_⟩
  refine h.run σ H B _ L fun v H2 B2 d s2 L2 D2 h3 => ?_
  cases d <;> first | exact h3.elim | skip
  rename_i ys
  obtain ⟨p', vs', f1, f2, f3, f4, f5⟩ := L2.at' i _ hρ
  rw [e1] at f1
  cases f1
  obtain ⟨q, us, rfl, g1, g2⟩ := dp_list D2
  exact ⟨p, q, vs', us, rfl, rfl, f4, L2.gr.sub _ _ g1, by rw [dpAll_len f5, dpAll_len g2]; exact h3.1, B2, _, s2, L2.chg hρ e1 (dpAll_app f5 g2), h3.2⟩
/-- x, y = [], n -/
theorem es_parL (i j : Nat) {n : Int} {x y : Str} {px py pt p1 p2 : Pos} {kt k2 pt2 j2} (h : D.nx ((ρ.set i (.own [])).set j (.im (.int n)))) (hc : X.calm = true) (hN : X.N.Nodup) (hi : X.N[i]? = some x := by rfl) (hj : X.N[j]? = some y := by rfl) (hij : i ≠ j := by decide)
    (hx : X.env.scope.names.lookup x = some .local := by rfl) (hy : X.env.scope.names.lookup y = some .local := by rfl)
    (hw : swappedStores [.Tuple [.Name x px, .Name y py] kt pt] (.Tuple [.List [] p1, .Constant (.int n) j2 p2] k2 pt2) X.env = pure (some [x, y]) := by rfl)
    (hs : swapsWithSole [.Tuple [.Name x px, .Name y py] kt pt] (.Tuple [.List [] p1, .Constant (.int n) j2 p2] k2 pt2) pos.line X.env = pure false := by rfl) :
    Es X W (.Assign [.Tuple [.Name x px, .Name y py] kt pt] (.Tuple [.List [] p1, .Constant (.int n) j2 p2] k2 pt2) pos) ρ D := by
  refine ⟨fun σ H B L => (ps_par hc hN hi hj hij hx hy (pa_cons (pe_lst pa_nil) (pa_cons pe_int pa_nil rfl) rfl) hw hs).toZ ?_⟩
  refine ⟨Nat.zero_le _, fun p hp => ?_⟩
  obtain ⟨L', q1, q2, q3, q4⟩ := fresh_own L hp [] [] .nil
  exact ⟨_, _, rfl, B, _, Same.refl _, (L'.own q1 q2 q3 q4 .nil).put (.int n), h⟩
/-- lo, lo + k, .. -/
def rng3D (i k : Int) (n : Nat) : List PyData := (List.range n).map fun j => PyData.int (i + (j : Nat) * k)
theorem rng3D_len {i k : Int} {n : Nat} : (rng3D i k n).length = n := by simp [rng3D]
theorem rng3D_get {i k : Int} {n j : Nat} (h : j < n) : (rng3D i k n)[j]? = some (.int (i + (j : Nat) * k)) := by simp [rng3D, h]
theorem rgC_up {i j k : Int} (hi : 0 ≤ i) (hi2 : i ≤ 2 ^ 40) (hj : 0 ≤ j) (hj2 : j ≤ 2 ^ 40) (hk : 0 < k) (hk2 : k ≤ 1000000) : RgC i j k (if i < j then (j - i - 1) / k + 1 else 0).toNat := by
  have h0 : 0 ≤ (if i < j then (j - i - 1) / k + 1 else 0) ∧ (if i < j then (j - i - 1) / k + 1 else 0) ≤ 2 ^ 40 := by
    split
    · have h1 := Int.ediv_nonneg (a := j - i - 1) (b := k) (by omega) (by omega)
      have h2 := Int.ediv_le_self k (show (0 : Int) ≤ j - i - 1 by omega)
      omega
    · omega
  have hs : Builtin.Range.rangeSize i j k = (if i < j then (j - i - 1) / k + 1 else 0) := by
    unfold Builtin.Range.rangeSize
    rw [if_pos hk]
  refine ⟨by omega, by omega, ?_, by rw [hs]; omega⟩
  unfold Builtin.Range.small
  rw [hs]
  simp only [Builtin.Range.rangeFitsLong, Bool.and_eq_true, Bool.or_eq_true, decide_eq_true_eq, beq_iff_eq]
  rw [if_pos hk]
  generalize (if i < j then (j - i - 1) / k + 1 else 0) = n at h0
  refine ⟨⟨⟨⟨by omega, by omega⟩, by omega⟩, by omega⟩, .inr ?_⟩
  rw [Bool.and_eq_true, decide_eq_true_eq, decide_eq_true_eq]
  omega
theorem walk_rng3 {K : PySem.W.Frag} {lo k : Int} {n : Nat} {B : Hp} : WalkZ K (Itc lo k n) (rng3D lo k n) B where
  go := fun i B' H' s s' hi => by
    rw [rng3D_len] at hi
    exact hi
  stop := fun B' H' s s' => by
    show n ≤ (rng3D lo k n).length
    rw [rng3D_len]
    exact Nat.le_refl _
  yld := fun i B' H' x H'' W σ ρ s L hy hi => by
    obtain ⟨e, hx⟩ := hy
    subst e
    rw [rng3D_len] at hi
    exact ⟨_, B', rng3D_get hi, Same.refl _, L, by rw [hx]; exact .int _, fun _ _ q => q, fun _ _ _ q => q⟩
/-- the size of a range up -/
def rgN (i j k : Int) : Nat := (if i < j then (j - i - 1) / k + 1 else 0).toNat
theorem ei_range3 {tg : Expr} {p : Pos} {R : List PyData → Prop} (hm : X.mg "range" = none)
    (h : Ea X W [a, b, c] ρ fun ds => match ds with | [.int i, .int j, .int k] => (0 ≤ i ∧ i ≤ 2 ^ 40 ∧ 0 ≤ j ∧ j ≤ 2 ^ 40 ∧ 0 < k ∧ k ≤ 1000000) ∧ R (rng3D i k (rgN i j k)) | _ => False) (hg : Gl X "range" := by rfl)
    (hs : starEach [a, b, c] X.env = (false, eval a X.env) :: starEach [b, c] X.env := by rfl) (hpl : (backTo pos (starEach [b, c] X.env)).any (·.1) = false := by rfl) : Ei X W tg (.Call (.Name "range" p) [a, b, c] [] pos) ρ R := by
  refine ⟨fun σ H B Q L k => (pi_range3 hg hm pa_w hs hpl).toZ ?_⟩
  refine h.run σ H B _ L fun vs H1 B1 ds s1 L1 D1 h2 => ?_
  match ds, D1, h2 with
  | [.int i, .int j, .int l], .cons d1 (.cons d2 (.cons d3 .nil)), ⟨⟨h1, h2, h3, h4, h5, h6⟩, h7⟩ =>
    cases dp_int d1
    cases dp_int d2
    cases dp_int d3
    exact ⟨i, j, l, _, rfl, rgC_up h1 h2 h3 h4 h5 h6, k _ H1 B1 _ s1 L1 walk_rng3 h7⟩
/-- list(range(a, b, c)) -/
def rng3V (i k : Int) (n : Nat) : List V := (List.range n).map fun j => V.int (i + (j : Nat) * k)
theorem rng3_dq {K : PySem.W.Frag} {B : Hp} (i k : Int) (n : Nat) : DqAll K B (rng3V i k n) (rng3D i k n) := by
  have e1 : rng3V i k n = ((List.range n).map fun j => i + ((j : Nat) : Int) * k).map V.int := by rw [List.map_map]; rfl
  have e2 : rng3D i k n = ((List.range n).map fun j => i + ((j : Nat) : Int) * k).map PyData.int := by rw [List.map_map]; rfl
  rw [e1, e2]
  exact ints_dq _
theorem vals_rg3 {a k : Int} {n : Nat} {acc : Array Value} (h : ItemsOf (fun i v => ∃ t, v = .int (a + i * k) t) acc n) : Vals (rng3V a k n) acc.toList := by
  have e : acc.toList.length = n := by rw [Array.length_toList]; exact h.1
  unfold rng3V
  rw [← e]
  refine vals_of_get acc.toList _ fun j u hj => ?_
  obtain ⟨t, rfl⟩ := h.2 j u (by rw [← hj, Array.getElem?_toList])
  exact ⟨t, rfl⟩
def tListR3 (ta : TA) : TE := fun σ H Q => ta σ H fun vs H1 => ∃ (i j k : Int) (n : Nat), vs = [.int i, .int j, .int k] ∧ RgC i j k n ∧ n ≤ 2 ^ 24 ∧ ∀ q, H1 q = none → Q (.ref q) (upd H1 q (.lst (rng3V i k n)))
theorem pe_listR3 {p p2 q : Pos} {ta : TA} (hg : Gl X "list") (hm : X.mg "list" = none) (hg2 : Gl X "range") (hm2 : X.mg "range" = none) (ha : PA X [a, b, c] ta) (hc : X.calm = true)
    (hs : starEach [a, b, c] X.env = (false, eval a X.env) :: starEach [b, c] X.env) (hpl : (backTo q (starEach [b, c] X.env)).any (·.1) = false)
    (n2 : (starEach [.Call (.Name "range" p2) [a, b, c] [] q] X.env) = (false, eval (.Call (.Name "range" p2) [a, b, c] [] q) X.env) :: starEach [] X.env) : PE X (.Call (.Name "list" p) [.Call (.Name "range" p2) [a, b, c] [] q] [] pos) (tListR3 ta) := by
  refine ⟨fun pins s σ H Q I h => ?_⟩
  refine Call_ (ld_blt I hg hm boot_list ?_)
  refine PyProof.Rows.callWith_type1 (PyProof.Rows.args_cons ?_ n2) n2 rfl
  refine Call_ (ld_blt I hg2 hm2 boot_range (PyProof.Rows.callWith_type1 (thn (ha.run q pins s σ H _ I h) fun us s1 ⟨vs, H1, I1, r1, q1⟩ => ?_) hs hpl))
  obtain ⟨i, j, k, n, e, ⟨c0, c1, c2, c3⟩, hn, q1⟩ := q1
  subst e
  cases r1 with
  | cons r rr =>
  cases rr with
  | cons r' rr =>
  cases rr with
  | cons r'' rr =>
    cases rr
    obtain ⟨t1, rfl⟩ := r
    obtain ⟨t2, rfl⟩ := r'
    obtain ⟨t3, rfl⟩ := r''
    refine call_range_3 c0 ?_ (.inl (PyProof.noPylong_small c1))
    refine PyProof.Rows.args_nil ?_
    obtain ⟨s2, e2⟩ : ∃ s2 : Shared, s2 = { s1 with heap := s1.heap.push { cls := .type "range", data := .fields #[.int i t1, .int j t2, .int k t3] } } := ⟨_, rfl⟩
    have I2 : Inv X pins σ H1 s2 := by
      rw [e2]
      exact I1.kept (t' := s1.toks) fun b o e => Heap.get?_push_of_some _ e
    have hr : IsRange s2.heap s1.heap.objs.size i j k t1 t2 t3 := by
      rw [e2]
      exact IsRange.new ..
    rw [← e2]
    refine call_list_range (n := n) (I2.ok.hd hc) hr c2 c3 hn fun h' tk acc c' hk e' hi => ?_
    have hlen : (rng3V i k n).length = n := by simp [rng3V]
    refine ⟨.ref s2.heap.objs.size, upd H1 s2.heap.objs.size (.lst (rng3V i k n)), I2.laid hk (Nat.le_refl _) (show ObjOk X.prog X.w _ _ _ (.lst (rng3V i k n)) from ⟨?_, acc.toList, c', vals_rg3 hi, ?_⟩), rfl, q1 _ (I2.hok.fresh (Nat.le_refl _))⟩
    · rw [hlen, sizeLine_eq]
      omega
    · rw [Array.toArray_toList]; exact e'
theorem el_listR3 {p p2 q : Pos} {R : List PyData → Prop} (hc : X.calm = true) (hm : X.mg "list" = none) (hm2 : X.mg "range" = none)
    (h : Ea X W [a, b, c] ρ fun ds => match ds with | [.int i, .int j, .int k] => (0 ≤ i ∧ i ≤ 2 ^ 40 ∧ 0 ≤ j ∧ j ≤ 2 ^ 40 ∧ 0 < k ∧ k ≤ 1000000) ∧ rgN i j k ≤ 1000000 ∧ R (rng3D i k (rgN i j k)) | _ => False) (hg : Gl X "list" := by rfl) (hg2 : Gl X "range" := by rfl)
    (hs : starEach [a, b, c] X.env = (false, eval a X.env) :: starEach [b, c] X.env := by rfl) (hpl : (backTo q (starEach [b, c] X.env)).any (·.1) = false := by rfl)
    (n2 : (starEach [.Call (.Name "range" p2) [a, b, c] [] q] X.env) = (false, eval (.Call (.Name "range" p2) [a, b, c] [] q) X.env) :: starEach [] X.env := by rfl) :
    El X W (.Call (.Name "list" p) [.Call (.Name "range" p2) [a, b, c] [] q] [] pos) ρ R := by
  refine ⟨fun σ H B Q L k => (pe_listR3 hg hm hg2 hm2 pa_w hc hs hpl n2).toZ ?_⟩
  refine h.run σ H B _ L fun vs H1 B1 ds s1 L1 D1 h2 => ?_
  match ds, D1, h2 with
  | [.int i, .int j, .int l], .cons d1 (.cons d2 (.cons d3 .nil)), ⟨⟨h1, h2, h3, h4, h5, h6⟩, h7, h8⟩ =>
    cases dp_int d1
    cases dp_int d2
    cases dp_int d3
    refine ⟨i, j, l, _, rfl, rgC_up h1 h2 h3 h4 h5 h6, Nat.le_trans h7 (by decide), fun p hp => ?_⟩
    obtain ⟨L', q1, q2, q3, q4⟩ := fresh_own L1 hp (rng3D i l (rgN i j l)) (rng3V i l (rgN i j l)) (rng3_dq _ _ _)
    exact k p _ _ B1 _ s1 L' q1 q2 q3 q4 (rng3_dq _ _ _) h8
section
variable {X : Cx} {W : Wd} {ρ : List Sl} {D : Dz} {R : PyData → Prop} {pos : Pos} {a b c e : Expr} {es : List Expr} {st : Stmt} {sts body : List Stmt}
theorem dpAll_eraseIdx {K : PySem.W.Frag} {B : Hp} : ∀ {vs : List V} {ds : List PyData} (k : Nat), DqAll K B vs ds → DqAll K B (vs.eraseIdx k) (ds.eraseIdx k)
  | _, _, _, .nil => .nil
  | _, _, 0, .cons _ t => t
  | _, _, k + 1, .cons h t => .cons h (dpAll_eraseIdx k t)
theorem dpAll_rev {K : PySem.W.Frag} {B : Hp} : ∀ {vs : List V} {ds : List PyData}, DqAll K B vs ds → DqAll K B vs.reverse ds.reverse
  | _, _, .nil => .nil
  | _, _, .cons h t => by
    rw [List.reverse_cons, List.reverse_cons]
    exact dpAll_app (dpAll_rev t) (.cons h .nil)
/-- x.pop(e), its value thrown away -/
theorem es_popAt (i : Nat) {x : Str} {px pa cp : Pos} {ds : List PyData} (hρ : ρ[i]? = some (.own ds)) (h : Ev X W e ρ fun d => match d with | .int k => (0 ≤ k ∧ k < ds.length ∧ ds.length ≤ 1000000) ∧ D.nx (ρ.set i (.own (ds.eraseIdx k.toNat))) | _ => False) (hN : X.N[i]? = some x := by rfl) (hv : Vis X.env.scope x := by first | exact Or.inl rfl | exact Or.inr (Or.inl rfl) | exact Or.inr (Or.inr rfl))
    (hs : swapsWith (.Call (.Attribute (.Name x px) "pop" pa) [e] [] cp) none pos.line X.env = pure false := by rfl) (hd : (x == ("__debug__" : Str)) = false := by decide) (hcd : (x == ("__classdict__" : Str)) = false := by decide)
    (hbase : attributeBase (.Name x px) "pop" X.env (eval (.Name x px) X.env) = eval (.Name x px) X.env := by rfl)
    (hfew : ((backTo cp (starEach [e] X.env)).all (fun x => !x.1) && (backToKw cp (keywordEach [] X.env)).all (fun x => x.1.isSome) && decide (([e] : List Expr).length + ([] : List Keyword).length + (if ([] : List Keyword).isEmpty then 0 else 1) < 30)) = true := by rfl)
    (hline : (pa.endLine == cp.line) = true := by rfl) (hse : starEach [e] X.env = (false, eval e X.env) :: starEach [] X.env := by rfl) (hpl : (backTo cp (starEach [] X.env)).any (·.1) = false := by rfl) :
    Es X W (.Expr (.Call (.Attribute (.Name x px) "pop" pa) [e] [] cp) pos) ρ D := by
  refine ⟨fun σ H B L => (ps_expr (pe_bm PySem.F.plainAttrs_list PySem.F.slot_list_pop PySem.F.type_list_pop mt_popAt (pe_var hN hv hd hcd) (pa_cons pe_w pa_nil hse) hbase hfew hline hse hpl) hs).toZ ?_⟩
  obtain ⟨p, vs, e1, e2, e3, e4, e5⟩ := L.at' i _ hρ
  refine ⟨.ref p, e1, .inl ⟨rfl, vs, SqL.of e4⟩, ?_⟩
  refine h.run σ H B _ L fun v H2 B2 d s2 L2 D2 h3 => ?_
  cases d <;> first | exact h3.elim | skip
  rename_i k
  obtain ⟨⟨k0, k1, k2⟩, h4⟩ := h3
  obtain ⟨p', vs', f1, f2, f3, f4, f5⟩ := L2.at' i _ hρ
  rw [e1] at f1
  cases f1
  cases dp_int D2
  have hl := dpAll_len f5
  have hk : k.toNat < vs'.length := by omega
  exact ⟨p, vs', k, k.toNat, vs'[k.toNat], rfl, rfl, f4, by omega, by omega, seqIndex_of k0 (by omega), List.getElem?_eq_getElem hk, B2, _, s2, L2.chg hρ e1 (dpAll_eraseIdx _ f5), h4⟩
/-- x.insert(b, e) -/
theorem es_insert (i : Nat) {x : Str} {px pa cp : Pos} {ds : List PyData} (hρ : ρ[i]? = some (.own ds)) (h : Ea X W [b, e] ρ fun us => match us with | [.int k, d] => (0 ≤ k ∧ k < 2 ^ 63 ∧ ds.length < sizeLine) ∧ D.nx (ρ.set i (.own (ds.take k.toNat ++ [d] ++ ds.drop k.toNat))) | _ => False) (hN : X.N[i]? = some x := by rfl) (hv : Vis X.env.scope x := by first | exact Or.inl rfl | exact Or.inr (Or.inl rfl) | exact Or.inr (Or.inr rfl))
    (hs : swapsWith (.Call (.Attribute (.Name x px) "insert" pa) [b, e] [] cp) none pos.line X.env = pure false := by rfl) (hd : (x == ("__debug__" : Str)) = false := by decide) (hcd : (x == ("__classdict__" : Str)) = false := by decide)
    (hbase : attributeBase (.Name x px) "insert" X.env (eval (.Name x px) X.env) = eval (.Name x px) X.env := by rfl)
    (hfew : ((backTo cp (starEach [b, e] X.env)).all (fun x => !x.1) && (backToKw cp (keywordEach [] X.env)).all (fun x => x.1.isSome) && decide (([b, e] : List Expr).length + ([] : List Keyword).length + (if ([] : List Keyword).isEmpty then 0 else 1) < 30)) = true := by rfl)
    (hline : (pa.endLine == cp.line) = true := by rfl) (hse : starEach [b, e] X.env = (false, eval b X.env) :: starEach [e] X.env := by rfl) (hpl : (backTo cp (starEach [e] X.env)).any (·.1) = false := by rfl) :
    Es X W (.Expr (.Call (.Attribute (.Name x px) "insert" pa) [b, e] [] cp) pos) ρ D := by
  refine ⟨fun σ H B L => (ps_expr (pe_bm PySem.F.plainAttrs_list PySem.F.slot_list_insert PySem.F.type_list_insert mt_insert (pe_var hN hv hd hcd) pa_w hbase hfew hline hse hpl) hs).toZ ?_⟩
  obtain ⟨p, vs, e1, e2, e3, e4, e5⟩ := L.at' i _ hρ
  refine ⟨.ref p, e1, .inl ⟨rfl, vs, SqL.of e4⟩, ?_⟩
  refine h.run σ H B _ L fun us H2 B2 ds2 s2 L2 D2 h3 => ?_
  match ds2, D2, h3 with
  | [.int k, d], .cons d1 (.cons d2 .nil), ⟨⟨k0, k1, k2⟩, h4⟩ =>
    obtain ⟨p', vs', f1, f2, f3, f4, f5⟩ := L2.at' i _ hρ
    rw [e1] at f1
    cases f1
    cases dp_int d1
    have hl := dpAll_len f5
    exact ⟨p, vs', k, _, rfl, rfl, f4, by omega, k0, k1, B2, _, s2, L2.chg hρ e1 (dpAll_app (dpAll_app (dpAll_take _ f5) (.cons d2 .nil)) (dpAll_drop _ f5)), h4⟩
/-- x[::-1] of an own list -/
theorem el_revOwn (i : Nat) {x : Str} {ds : List PyData} {px p1 p2 p3 : Pos} {kk : Nat} {R : List PyData → Prop} (hρ : ρ[i]? = some (.own ds)) (h : R ds.reverse) (hN : X.N[i]? = some x := by rfl) (hv : Vis X.env.scope x := by first | exact Or.inl rfl | exact Or.inr (Or.inl rfl) | exact Or.inr (Or.inr rfl))
    (hd : (x == ("__debug__" : Str)) = false := by decide) (hcd : (x == ("__classdict__" : Str)) = false := by decide) : El X W (.Subscript (.Name x px) (.Slice none none (some (.UnaryOp .USub (.Constant (.int 1) kk p1) p2)) p3) pos) ρ R := by
  refine ⟨fun σ H B Q L k => (pe_revL (pe_var hN hv hd hcd)).toZ ?_⟩
  obtain ⟨p, vs, e1, e2, e3, e4, e5⟩ := L.at' i _ hρ
  refine ⟨.ref p, e1, p, vs, rfl, SqL.of e4, fun q hq => ?_⟩
  obtain ⟨L', q1, q2, q3, q4⟩ := fresh_own L hq ds.reverse vs.reverse (dpAll_rev e5)
  exact k q _ _ B _ (Same.refl _) L' q1 q2 q3 q4 (dpAll_rev e5) h
/-- z[lo:hi] of a text -/
theorem ev_slS {lo hi : Option Expr} {p2 : Pos} (h : Ev X W e ρ fun d => Eo X W lo ρ fun l => Eo X W hi ρ fun u => match d with | .str z => z.length ≤ sizeLine ∧ R (.str (cutS z l u)) | _ => False) : Ev X W (.Subscript e (.Slice lo hi none p2) pos) ρ R := by
  refine ⟨fun σ H B Q L k => (pe_slice sl_str pe_w po_w po_w).toZ ?_⟩
  refine h.run σ H B _ L fun v H1 B1 d s1 L1 D1 h2 => ?_
  refine h2.run σ H1 B1 _ L1 fun l H2 B2 s2 L2 h3 => ?_
  refine h3.run σ H2 B2 _ L2 fun u H3 B3 s3 L3 h4 => ?_
  cases d <;> first | exact h4.elim | skip
  rename_i z
  cases dp_str D1
  exact ⟨z, rfl, h4.1, k _ H3 B3 _ ((s1.trans s2).trans s3) L3 (.str _) h4.2⟩
theorem isTL_kit {K : PySem.W.Frag} (d : PyData) : PySem.W.kitAny K (.type (tyD d)) [.type "tuple", .type "list"] = some (isLT d) := by
  have q : ∀ d : PyData, kitB (tyD d) "list" = some (match d with | .list _ => true | _ => false) ∧ kitB (tyD d) "tuple" = some (match d with | .tuple _ => true | _ => false) := by
    intro d
    rw [kit_of_tab d (by simp), kit_of_tab d (by simp)]
    cases d <;> exact ⟨rfl, rfl⟩
  obtain ⟨q1, q2⟩ := q d
  refine kitAny_cons (kit_ty q2) (fun z => kitAny_cons (kit_ty q1) (fun z2 => ?_) fun z2 => ?_) fun z => ?_
  · rw [kitAny_nil]
    cases d <;> first | rfl | (simp at z; done) | (simp at z2; done)
  · cases d <;> first | rfl | (simp at z2; done)
  · cases d <;> first | rfl | (simp at z; done)
/-- isinstance(e, (tuple, list)) -/
theorem ev_isiTL {p p1 p2 p3 : Pos} {x1} (hm : X.mg "isinstance" = none) (h1 : X.mg "list" = none) (h2 : X.mg "tuple" = none) (h : Ev X W e ρ fun d => R (.bool (isLT d))) (hg : Gl X "isinstance" := by rfl) (hgl : Gl X "list" := by rfl) (hgt : Gl X "tuple" := by rfl)
    (he : starEach [e, .Tuple [.Name "tuple" p1, .Name "list" p2] x1 p3] X.env = (false, eval e X.env) :: starEach [.Tuple [.Name "tuple" p1, .Name "list" p2] x1 p3] X.env := by rfl)
    (he2 : starEach [.Tuple [.Name "tuple" p1, .Name "list" p2] x1 p3] X.env = (false, eval (.Tuple [.Name "tuple" p1, .Name "list" p2] x1 p3) X.env) :: starEach [] X.env := by rfl)
    (he3 : starEach [.Name "tuple" p1, .Name "list" p2] X.env = (false, eval (.Name "tuple" p1) X.env) :: starEach [.Name "list" p2] X.env := by rfl) (he4 : starEach [.Name "list" p2] X.env = (false, eval (.Name "list" p2) X.env) :: starEach [] X.env := by rfl)
    (hpl : (backTo pos (starEach [.Tuple [.Name "tuple" p1, .Name "list" p2] x1 p3] X.env)).any (·.1) = false := by rfl) : Ev X W (.Call (.Name "isinstance" p) [e, .Tuple [.Name "tuple" p1, .Name "list" p2] x1 p3] [] pos) ρ R := by
  refine ⟨fun σ H B Q L k => (pe_callB call_isiT hg hm boot_isinstance (pa_cons pe_w (pa_cons (pe_tup (pa_cons (pe_bltn hgt h2 boot_tuple (v := .ty "tuple") rfl) (pa_cons (pe_bltn hgl h1 boot_list (v := .ty "list") rfl) pa_nil he4) he3)) pa_nil he2) he) (by decide) (by decide) he hpl).toZ ?_⟩
  refine h.run σ H B _ L fun v H1 B1 d s1 L1 D1 h2 => ?_
  refine ⟨by show 2 ≤ sizeLine; decide, fun t ht => ?_⟩
  obtain ⟨s, L'⟩ := L1.fresh ht (.tup [.ty "tuple", .ty "list"])
  exact ⟨v, t, _, _, [.type "tuple", .type "list"], isLT d, rfl, upd_same, .cons (.ty _) (.cons (.ty _) .nil), tyX_of L'.gr.sub (dpMono s _ _ D1), isTL_kit d, k _ _ _ _ (s1.trans s) L' (.bl _) h2⟩
end
/-- len(z) of a text -/
theorem ev_lenS {X : Cx} {W : Wd} {ρ : List Sl} {pos : Pos} {e : Expr} {p : Pos} {R : PyData → Prop} (hm : X.mg "len" = none) (h : Ev X W e ρ fun d => match d with | .str z => z.length ≤ sizeLine ∧ R (.int (z.length : Int)) | _ => False) (hg : Gl X "len" := by rfl)
    (he : starEach [e] X.env = (false, eval e X.env) :: starEach [] X.env := by rfl) (hpl : (backTo pos (starEach [] X.env)).any (·.1) = false := by rfl) : Ev X W (.Call (.Name "len" p) [e] [] pos) ρ R := by
  refine ⟨fun σ H B Q L k => (pe_callB call_len_str hg hm PySem.boot_len (pa_cons pe_w pa_nil he) (by decide) (by decide) he hpl).toZ ?_⟩
  refine h.run σ H B _ L fun v H1 B1 d s1 L1 D1 h2 => ?_
  cases d <;> first | exact h2.elim | skip
  rename_i z
  cases dp_str D1
  exact ⟨z, rfl, h2.1, k _ H1 B1 _ s1 L1 (.int _) h2.2⟩
/-- a + b of two lists, a fresh one -/
theorem el_add {X : Cx} {W : Wd} {ρ : List Sl} {pos : Pos} {a b : Expr} {R : List PyData → Prop} (h : Ev X W a ρ fun d => Ev X W b ρ fun d' => match d, d' with | .list xs, .list ys => xs.length + ys.length ≤ sizeLine ∧ R (xs ++ ys) | _, _ => False) : El X W (.BinOp a .Add b pos) ρ R := by
  refine ⟨fun σ H B Q L k => (pe_op op_cat pe_w pe_w).toZ ?_⟩
  refine h.run σ H B _ L fun v H1 B1 d s1 L1 D1 h2 => ?_
  refine h2.run σ H1 B1 _ L1 fun u H2 B2 d' s2 L2 D2 h3 => ?_
  cases d <;> first | exact h3.elim | skip
  cases d' <;> first | exact h3.elim | skip
  rename_i xs ys
  obtain ⟨p, vs, rfl, g1, g2⟩ := dp_list D1
  obtain ⟨q, us, rfl, g3, g4⟩ := dp_list D2
  have g2' := dpAllMono s2 _ _ g2
  refine ⟨p, q, vs, us, rfl, rfl, L2.gr.sub _ _ (s2 _ _ g1), L2.gr.sub _ _ g3, by rw [dpAll_len g2, dpAll_len g4]; exact h3.1, fun t ht => ?_⟩
  obtain ⟨L', q1, q2, q3, q4⟩ := fresh_own L2 ht (xs ++ ys) (vs ++ us) (dpAll_app g2' g4)
  exact k t _ _ B2 _ (s1.trans s2) L' q1 q2 q3 q4 (dpAll_app g2' g4) h3.2
/-! ### tuples backwards -/
theorem sliceApplied_rev {prog : Program} {w : World} {A : Around} {E : Value → Shared → Prop} {s : Shared} {sl : Addr} {vs : Value} {n : Nat} {Q : Int × Int × Nat → Shared → Prop} (hs : s.heap.IsSliceOf sl .none .none vs) (ps : IsPart vs (some (-1)))
    (h : Q ((n : Int) - 1, -1, n) s) : wpAny (model prog w) A (Builtin.Slice.sliceApplied (.ref sl) (pure (n : Int))) Q E s := by
  obtain ⟨os, hos, hcs, hds⟩ := id hs
  unfold Builtin.Slice.sliceApplied Builtin.Slice.sliceFields
  refine wpAny_bind (wpAny_bind (wpAny_field hos hds (x := .none) rfl (wpAny_bind (wpAny_field hos hds (x := .none) rfl (wpAny_bind (wpAny_field hos hds (x := vs) rfl (wpAny_pure ?_)))))))
  refine wpAny_bind (HT.slicePart_ ps ?_)
  show wpAny _ _ (if ((-1 : Int) == 0) = true then _ else _) _ _ s
  rw [if_neg (by decide)]
  refine wpAny_bind (HT.slicePart_ .none (wpAny_bind (HT.slicePart_ .none (wpAny_bind (wpAny_pure ?_)))))
  have e1 : Builtin.Slice.sliceAdjust none none (-1) (n : Int) = ((n : Int) - 1, -1) := by
    unfold Builtin.Slice.sliceAdjust
    simp
  have e2 : Builtin.Slice.slicePlaces ((n : Int) - 1) (-1) (-1) = n := by
    unfold Builtin.Slice.slicePlaces
    simp
    omega
  show wpAny _ _ (match Builtin.Slice.sliceAdjust none none (-1) (n : Int) with | (lo, hi) => pure (lo, (-1 : Int), Builtin.Slice.slicePlaces lo hi (-1))) _ _ s
  rw [e1]
  show wpAny _ _ (pure ((n : Int) - 1, (-1 : Int), Builtin.Slice.slicePlaces ((n : Int) - 1) (-1) (-1))) _ _ s
  rw [e2]
  exact wpAny_pure h
theorem pick_rev (xs : Array Value) : ((List.range xs.size).filterMap fun (m : Nat) => xs[(((xs.size : Int) - 1) + (m : Int) * (-1)).toNat]?).toArray = xs.toList.reverse.toArray := by
  have e : (fun (m : Nat) => xs[(((xs.size : Int) - 1) + (m : Int) * (-1)).toNat]?) = fun m => xs[xs.size - 1 - m]? := by
    funext m
    have : (((xs.size : Int) - 1) + (m : Int) * (-1)).toNat = xs.size - 1 - m := by omega
    rw [this]
  rw [e]
  have h := PySem.W.krv_all xs
  have h2 : (List.range xs.size).filterMap (fun m => xs[xs.size - 1 - m]?) = ((List.range xs.size).map (fun k => xs.size - 1 - k)).filterMap (xs[·]?) := by
    rw [List.filterMap_map]
    rfl
  rw [h2, PySem.W.krv_range, List.filterMap_reverse, h]
theorem getItem_tuple_rev {prog : Program} {w : World} {A : Around} {E : Value → Shared → Prop} {s : Shared} {t sl : Addr} {items : Array Value} {vs : Value} {Q : Value → Shared → Prop} (ht : IsTup s.heap t items) (hs : s.heap.IsSliceOf sl .none .none vs) (ps : IsPart vs (some (-1)))
    (h : Q (.ref s.heap.objs.size) { s with heap := s.heap.push { cls := .type "tuple", data := .seq items.toList.reverse.toArray } }) (hsz : items.size ≤ sizeLine) : wpAny (model prog w) A (getItem (.ref t) (.ref sl)) Q E s := by
  have htake : sizeOk (.seq items.toList.reverse.toArray) := by
    show items.toList.reverse.toArray.size ≤ sizeLine
    rw [List.size_toArray, List.length_reverse, Array.length_toList]
    exact hsz
  obtain ⟨os, hos, hcs, hds⟩ := id hs
  have hTs : s.TypeIs (.ref sl) "slice" := ⟨os, hos, hcs⟩
  unfold getItem
  try with_reducible refine wpAny_holding ?_
  first | refine wpAny_bind (wpAny_pure ?_) | skip
  refine wpAny_bind (wpAny_sequenceKey ht.typeIs (by decide) ?_)
  refine wpAny_bind (wpAny_callSpecial?_slot (name := Str.ofString "__getitem__") ht.typeIs PyProof.Rows.slot_tuple_getitem
    (wpAny_call_entry PyProof.Rows.slot_tuple_getitem ht.typeIs entry_tuple_getitem ?_ (args_tuple_getitem _ _)))
  show wpAny _ _ (Builtin.Tuple.tupleItemsOf (.ref t) >>= _) _ _ s
  refine wpAny_bind (tupleItemsOf_ ht ?_)
  refine wpAny_bind (wpAny_typeOf hTs ?_)
  rw [if_pos (by decide)]
  refine wpAny_bind (sliceApplied_rev hs ps ?_)
  have hno : ¬ ((((items.size : Int) - 1) == 0 && (-1 : Int) == 1 && items.size == items.size) = true) := by
    intro q
    rw [Bool.and_eq_true, Bool.and_eq_true] at q
    exact absurd q.1.2 (by decide)
  show wpAny _ _ (if (((items.size : Int) - 1) == 0 && (-1 : Int) == 1 && items.size == items.size) = true then _ else _) _ _ s
  rw [if_neg hno, pick_rev]
  first
    | exact wpAny_bind (m := Builtin.Tuple.tupleExact _) (wpAny_newObj_type (wpAny_pure ⟨_, rfl, wpAny_pure h⟩) htake)
    | exact wpAny_bind (m := Builtin.Tuple.tupleExact _) (wpAny_newObj_type (wpAny_bind (wpAny_pure (wpAny_pure ⟨_, rfl, wpAny_pure h⟩))) htake)
    | exact wpAny_bind (wpAny_bind (m := Builtin.Tuple.tupleExact _) (wpAny_newObj_type (wpAny_pure (wpAny_pure ⟨_, rfl, wpAny_pure h⟩)) htake))
    | exact wpAny_bind (wpAny_bind (m := Builtin.Tuple.tupleExact _) (wpAny_newObj_type (wpAny_pure ⟨_, rfl, wpAny_pure h⟩) htake))
section
variable {X : Cx} {W : Wd} {ρ : List Sl} {D : Dz} {R : PyData → Prop} {pos : Pos} {a b c e : Expr} {es : List Expr}
/-- t[::-1] -/
def tRevT (K : PySem.W.Frag) (te : TE) : TE := fun σ H Q => te σ H fun x H1 => ∃ a xs, x = .ref a ∧ SqT K H1 a xs ∧ ∀ p, H1 p = none → Q (.ref p) (upd H1 p (.tup xs.reverse))
theorem pe_revT {te : TE} {k : Nat} {p1 p2 p3 : Pos} (he : PE X e te) : PE X (.Subscript e (.Slice none none (some (.UnaryOp .USub (.Constant (.int 1) k p1) p2)) p3) pos) (tRevT X.K te) := by
  refine ⟨fun pins s σ H Q I h => ?_⟩
  refine Subscript_ (thn (he.run pins s σ H _ I h) fun v s1 ⟨x, H1, I1, r1, q1⟩ => ?_)
  obtain ⟨a, xs, ex, hx, q⟩ := q1
  subst ex
  cases r1
  have hst : PO X (some (.UnaryOp .USub (.Constant (.int 1) k p1) p2)) (tPart (tUn (rU fun i => .int (-i)) (tC (.int 1)))) := po_some (pe_un un_neg pe_int)
  refine wpAny_Slice (thn (po_none.run pins s1 σ H1 (fun o H2 => o = none ∧ H2 = H1) I1 ⟨rfl, rfl⟩) fun vl s2 ⟨l, H2, I2, pl, el, e2⟩ => ?_)
  subst el e2
  refine thn (po_none.run pins s2 σ H2 (fun o H3 => o = none ∧ H3 = H2) I2 ⟨rfl, rfl⟩) fun vu s3 ⟨u, H3, I3, pu, eu, e3⟩ => ?_
  subst eu e3
  refine thn (hst.run pins s3 σ H3 (fun o H4 => o = some (-1) ∧ H4 = H3) I3 ⟨1, rfl, -1, rfl, rfl, rfl⟩) fun vs s4 ⟨o, H4, I4, ps, eo, e4⟩ => ?_
  subst eo e4
  have hvl : vl = .none := by cases pl; rfl
  have hvu : vu = .none := by cases pu; rfl
  subst hvl hvu
  have I5 : Inv X pins σ H4 { s4 with heap := s4.heap.push { cls := .type "slice", data := .fields #[.none, .none, vs] } } := I4.kept (t' := s4.toks) fun b ob q => Heap.get?_push_of_some _ q
  obtain ⟨its, r, ht, hz⟩ := I5.tuple hx
  show wpAny (model X.prog X.w) X.A (subscriptTail e (.Slice none none (some (.UnaryOp .USub (.Constant (.int 1) k p1) p2)) p3) (.ref a) (.ref s4.heap.objs.size)) (EP X pins σ Q) X.xe { s4 with heap := s4.heap.push { cls := .type "slice", data := .fields #[.none, .none, vs] } }
  refine tail_any (ops := [.ref a, .ref s4.heap.objs.size]) ht.typeIs (PyProof.Rows.slot_tuple_getitem.lookup) ?_ (by with_unfolding_all rfl)
  refine getItem_tuple_rev ht (Heap.IsSliceOf.new _ .none .none vs) ps ?_ (by rw [List.size_toArray, ← r.length]; exact hz)
  refine ⟨.ref _, _, I5.laid (t' := s4.toks) (o := .tup xs.reverse) (fun b ob q => Heap.get?_push_of_some _ q) (Nat.le_refl _) ?_, rfl, q _ (I5.hok.fresh (Nat.le_refl _))⟩
  exact ⟨by rw [List.length_reverse]; exact hz, _, r.reverse, IsTup.new _ _⟩
theorem ev_revT {p1 p2 p3 : Pos} {kk : Nat} (h : Ev X W e ρ fun d => match d with | .tuple ds => R (.tuple ds.reverse) | _ => False) : Ev X W (.Subscript e (.Slice none none (some (.UnaryOp .USub (.Constant (.int 1) kk p1) p2)) p3) pos) ρ R := by
  refine ⟨fun σ H B Q L k => (pe_revT pe_w).toZ ?_⟩
  refine h.run σ H B _ L fun v H1 B1 d s1 L1 D1 h2 => ?_
  cases d <;> first | exact h2.elim | skip
  rename_i ds
  obtain ⟨q, vs, rfl, h5, h6⟩ := dp_tup D1
  refine ⟨q, vs, rfl, seqT L1.gr.sub h5, fun p hp => ?_⟩
  obtain ⟨s, L'⟩ := L1.fresh hp (.tup vs.reverse)
  exact k _ _ _ _ (s1.trans s) L' (.tup (SqT.of upd_same) (dpAllMono s _ _ (dpAll_rev h6))) h2
/-- list(range(n)) -/
theorem rgV_dq {K : PySem.W.Frag} {B : Hp} (i j : Int) : DqAll K B (rgV i j) (rngD i (j - i).toNat) := by
  have e1 : rgV i j = ((List.range (j - i).toNat).map fun k => i + ((k : Nat) : Int)).map V.int := by unfold rgV; rw [List.map_map]; rfl
  have e2 : rngD i (j - i).toNat = ((List.range (j - i).toNat).map fun k => i + ((k : Nat) : Int)).map PyData.int := by unfold rngD; rw [List.map_map]; rfl
  rw [e1, e2]
  exact ints_dq _
theorem el_listR1 {p p2 q : Pos} {R : List PyData → Prop} (hc : X.calm = true) (hm : X.mg "list" = none) (hm2 : X.mg "range" = none)
    (h : Ev X W a ρ fun d => match d with | .int n => (0 ≤ n ∧ n ≤ 1000000) ∧ R (rngD 0 n.toNat) | _ => False) (hg : Gl X "list" := by rfl) (hg2 : Gl X "range" := by rfl)
    (na : starEach [a] X.env = (false, eval a X.env) :: starEach [] X.env := by rfl)
    (n2 : (starEach [.Call (.Name "range" p2) [a] [] q] X.env) = (false, eval (.Call (.Name "range" p2) [a] [] q) X.env) :: starEach [] X.env := by rfl) :
    El X W (.Call (.Name "list" p) [.Call (.Name "range" p2) [a] [] q] [] pos) ρ R := by
  refine ⟨fun σ H B Q L k => (pe_listRg hc hg hm (prg_1 hg2 hm2 pe_w na) n2).toZ ?_⟩
  refine h.run σ H B _ L fun v H1 B1 d s1 L1 D1 h2 => ?_
  cases d <;> first | exact h2.elim | skip
  rename_i n
  cases dp_int D1
  obtain ⟨⟨n0, n1⟩, h3⟩ := h2
  refine ⟨n, rfl, ⟨by decide, by decide, by omega, by omega, by omega⟩, fun p hp => ?_⟩
  have hd : DqAll X.K B1 (rgV 0 n) (rngD 0 n.toNat) := by
    have := rgV_dq (K := X.K) (B := B1) 0 n
    rw [Int.sub_zero] at this
    exact this
  obtain ⟨L', q1, q2, q3, q4⟩ := fresh_own L1 hp (rngD 0 n.toNat) (rgV 0 n) hd
  exact k p _ _ B1 _ s1 L' q1 q2 q3 q4 hd h3
/-- sorted(xs), xs a list of ints -/
theorem el_sorted {p : Pos} {R : List PyData → Prop} (hm : X.mg "sorted" = none) (h : Ev X W a ρ fun d => ∃ ns : List Int, d = .list (ns.map PyData.int) ∧ ∀ ms : List Int, ms.Perm ns → ms.Pairwise (· ≤ ·) → R (ms.map PyData.int)) (hg : Gl X "sorted" := by rfl)
    (he : starEach [a] X.env = (false, eval a X.env) :: starEach [] X.env := by rfl) (hpl : (backTo pos (starEach [] X.env)).any (·.1) = false := by rfl) : El X W (.Call (.Name "sorted" p) [a] [] pos) ρ R := by
  refine ⟨fun σ H B Q L k => (pe_callB cr_sortedI hg hm boot_sorted (pa_cons pe_w pa_nil he) (by decide) (by decide) he hpl).toZ ?_⟩
  refine h.run σ H B _ L fun v H1 B1 d s1 L1 D1 h2 => ?_
  obtain ⟨ns, rfl, h3⟩ := h2
  obtain ⟨q, vs, rfl, h5, h6⟩ := dp_list D1
  cases dq_ints h6
  refine ⟨q, ns, rfl, SqL.of (L1.gr.sub _ _ h5), fun ms t h7 h8 ht => ?_⟩
  obtain ⟨L', q1, q2, q3, q4⟩ := fresh_own L1 ht (ms.map PyData.int) (ms.map V.int) (ints_dq ms)
  exact k t _ _ B1 _ s1 L' q1 q2 q3 q4 (ints_dq ms) (h3 ms h7 h8)
end
/-! ### x.extend(t), t a tuple -/
open AutoSeq1 in
theorem list_extend_tup (l : Addr) (items : Array Value) (n : Nat) (b : Addr) (items2 : Array Value) (n2 : Nat) (dd : Option Addr) (sl : Array (Option Value)) (hs0 : ¬(!items.isEmpty && Builtin.List.listTooLong (items.size + items2.size)) = true) (hs1 : items.size ≤ sizeLine) (hs2 : items.size + items2.size ≤ sizeLine + 1) :
    Meets (Builtin.«list.extend» ⟨[.ref l, .ref b], []⟩) (fun _ R s => s.heap.get? l = some { cls := .type "list", dict := none, data := .seq items n, slots := #[] } ∧ s.heap.get? b = some { cls := .type "tuple", dict := dd, data := .seq items2 n2, slots := sl } ∧ R (.ok (.ret Value.none)) { s with heap := s.heap.update l (Obj.mapSeq fun x => x ++ items2), toks := s.toks }) :=
  .of_wp fun prog w A R s h => by
    obtain ⟨hp, g, d, tk, os⟩ := s
    obtain ⟨hl, hb, h⟩ := h
    have f1 := idx_int
    have f2 := F.sub_tuple_tuple
    have f3 := F.sub_list_list
    have f4 := F.sub_tuple_list
    have f5 := F.sub_list_tuple
    have hz' : (items ++ items2).size ≤ sizeLine + 1 := by rw [Array.size_append]; exact hs2
    wp_walk using (wpAny_updateSeq hl rfl (hz := hs1) (_hz' := hz')), wpAny_loadPart' hl, wpAny_loadPart' hb
    exact ⟨_, rfl, h⟩
def rExtendT (K : PySem.W.Frag) : V → List V → Hp → VK → Prop := fun x vs H Q => ∃ l b xs zs, x = .ref l ∧ vs = [.ref b] ∧ H l = some (.lst xs) ∧ SqT K H b zs ∧ xs.length + zs.length ≤ sizeLine ∧ Q .non (upd H l (.lst (xs ++ zs)))
theorem mt_extendT {X : Cx} : MtM X "list.extend" (rExtendT X.K) := by
  intro pins s σ H x vs v us Q I rx rv h
  obtain ⟨l, b, xs, zs, rfl, rfl, hH, hB, hz, q⟩ := h
  cases rx
  obtain ⟨u, rfl, ru⟩ := rv.one
  cases ru
  obtain ⟨z, its, n, r, hl, e⟩ := I.lstM hH
  obtain ⟨its2, r2, ⟨⟨ocls, dd, odata, sl⟩, ho, hc, n2, hd⟩, _⟩ := I.tuple hB
  simp only at hc hd
  subst hc hd
  have hl2 := r2.length
  have hsz : its.toArray.size + its2.toArray.size ≤ sizeLine := by rw [List.size_toArray, List.size_toArray]; omega
  have hlong : ¬ (!its.toArray.isEmpty && Builtin.List.listTooLong (its.toArray.size + its2.toArray.size)) = true := by
    rw [notLongL hsz, Bool.and_false]
    exact Bool.false_ne_true
  refine call_meets F.slot_list_extend ⟨_, e, rfl⟩ F.entry_list_extend (F.args_list_extend_2 _ _)
    (list_extend_tup l its.toArray n b its2.toArray n2 dd sl hlong (by rw [List.size_toArray]; omega) (by omega)) ⟨e, ho, ?_⟩
  refine ⟨.non, _, I.lset (its' := its ++ its2) hH e (by simp) (r.append r2) ?_, rfl, q⟩
  rw [List.length_append]
  omega
theorem es_extendT {X : Cx} {W : Wd} {ρ : List Sl} {D : Dz} {pos : Pos} {e : Expr} (i : Nat) {x : Str} {px pa cp : Pos} {ds : List PyData} (hρ : ρ[i]? = some (.own ds)) (h : Ev X W e ρ fun d => match d with | .tuple ys => ds.length + ys.length ≤ sizeLine ∧ D.nx (ρ.set i (.own (ds ++ ys))) | _ => False) (hN : X.N[i]? = some x := by rfl) (hv : Vis X.env.scope x := by first | exact Or.inl rfl | exact Or.inr (Or.inl rfl) | exact Or.inr (Or.inr rfl))
    (hs : swapsWith (.Call (.Attribute (.Name x px) "extend" pa) [e] [] cp) none pos.line X.env = pure false := by rfl) (hd : (x == ("__debug__" : Str)) = false := by decide) (hcd : (x == ("__classdict__" : Str)) = false := by decide)
    (hbase : attributeBase (.Name x px) "extend" X.env (eval (.Name x px) X.env) = eval (.Name x px) X.env := by rfl)
    (hfew : ((backTo cp (starEach [e] X.env)).all (fun x => !x.1) && (backToKw cp (keywordEach [] X.env)).all (fun x => x.1.isSome) && decide (([e] : List Expr).length + ([] : List Keyword).length + (if ([] : List Keyword).isEmpty then 0 else 1) < 30)) = true := by rfl)
    (hline : (pa.endLine == cp.line) = true := by rfl) (hse : starEach [e] X.env = (false, eval e X.env) :: starEach [] X.env := by rfl) (hpl : (backTo cp (starEach [] X.env)).any (·.1) = false := by rfl) :
    Es X W (.Expr (.Call (.Attribute (.Name x px) "extend" pa) [e] [] cp) pos) ρ D := by
  refine ⟨fun σ H B L => (ps_expr (pe_bm PySem.F.plainAttrs_list PySem.F.slot_list_extend PySem.F.type_list_extend mt_extendT (pe_var hN hv hd hcd) (pa_cons pe_w pa_nil hse) hbase hfew hline hse hpl) hs).toZ ?_⟩
  obtain ⟨p, vs, e1, e2, e3, e4, e5⟩ := L.at' i _ hρ
  refine ⟨.ref p, e1, .inl ⟨rfl, vs, SqL.of e4⟩, ?_⟩
  refine h.run σ H B _ L fun v H2 B2 d s2 L2 D2 h3 => ?_
  cases d <;> first | exact h3.elim | skip
  rename_i ys
  obtain ⟨p', vs', f1, f2, f3, f4, f5⟩ := L2.at' i _ hρ
  rw [e1] at f1
  cases f1
  obtain ⟨q, us, rfl, g1, g2⟩ := dp_tup D2
  exact ⟨p, q, vs', us, rfl, rfl, f4, seqT L2.gr.sub g1, by rw [dpAll_len f5, dpAll_len g2]; exact h3.1, B2, _, s2, L2.chg hρ e1 (dpAll_app f5 g2), h3.2⟩
/-- x + b of an own list and another, a fresh one -/
theorem el_addOwn {X : Cx} {W : Wd} {ρ : List Sl} {pos : Pos} {b : Expr} (i : Nat) {x : Str} {px : Pos} {ds : List PyData} {R : List PyData → Prop} (hρ : ρ[i]? = some (.own ds)) (h : Ev X W b ρ fun d' => match d' with | .list ys => ds.length + ys.length ≤ sizeLine ∧ R (ds ++ ys) | _ => False) (hN : X.N[i]? = some x := by rfl) (hv : Vis X.env.scope x := by first | exact Or.inl rfl | exact Or.inr (Or.inl rfl) | exact Or.inr (Or.inr rfl))
    (hd : (x == ("__debug__" : Str)) = false := by decide) (hcd : (x == ("__classdict__" : Str)) = false := by decide) : El X W (.BinOp (.Name x px) .Add b pos) ρ R := by
  refine ⟨fun σ H B Q L k => (pe_op op_cat (pe_var hN hv hd hcd) pe_w).toZ ?_⟩
  obtain ⟨p, vs, e1, e2, e3, e4, e5⟩ := L.at' i _ hρ
  refine ⟨.ref p, e1, ?_⟩
  refine h.run σ H B _ L fun u H2 B2 d' s2 L2 D2 h3 => ?_
  cases d' <;> first | exact h3.elim | skip
  rename_i ys
  obtain ⟨p', vs', f1, f2, f3, f4, f5⟩ := L2.at' i _ hρ
  rw [e1] at f1
  cases f1
  obtain ⟨q, us, rfl, g3, g4⟩ := dp_list D2
  refine ⟨p, q, vs', us, rfl, rfl, f4, L2.gr.sub _ _ g3, by rw [dpAll_len f5, dpAll_len g4]; exact h3.1, fun t ht => ?_⟩
  obtain ⟨L', q1, q2, q3, q4⟩ := fresh_own L2 ht (ds ++ ys) (vs' ++ us) (dpAll_app f5 g4)
  exact k t _ _ B2 _ s2 L' q1 q2 q3 q4 (dpAll_app f5 g4) h3.2
end
section
variable {X : Cx} {W : Wd} {ρ : List Sl} {tg e : Expr}
/-! ### for x in xs, xs a list or a tuple -/
def iSeq (K : PySem.W.Frag) (tl : TE) : TI := fun σ H R => tl σ H fun x H1 => ∃ a, x = V.ref a ∧ (((∃ xs, SqL K H1 a xs) ∧ R (Itl K a) H1) ∨ ((∃ xs, SqT K H1 a xs) ∧ R (Itt K a) H1))
theorem pi_seq {tl : TE} (hl : PE X e tl) : PI X tg e (iSeq X.K tl) := by
  refine ⟨fun pins s σ H R I h => ?_⟩
  refine thn (hl.run pins s σ H _ I h) fun v s1 ⟨x, H1, I1, r1, q1⟩ => ?_
  obtain ⟨a, e, hh⟩ := q1
  subst e
  cases r1
  rcases hh with ⟨⟨xs, hq⟩, q⟩ | ⟨⟨xs, hq⟩, q⟩
  · obtain ⟨its, rv, p, hz⟩ := I1.list hq
    refine wpAny_pyIter_list p.isList ?_
    refine ⟨s1.heap.objs.size, [s1.heap.objs.size], _, _, H1, rfl, I1.kept (t' := s1.toks) fun b o e => Heap.get?_push_of_some _ e, turn_list a _, ⟨_, Heap.get?_push_size _ rfl, rfl, rfl⟩, fun b hb => ?_, q⟩
    have e : b = s1.heap.objs.size := by simpa using hb
    subst e
    exact I1.fpOk (Nat.le_refl _) (I1.hok.fresh (Nat.le_refl _))
  · obtain ⟨its, rv, p, hz⟩ := I1.tuple hq
    refine wpAny_pyIter_tuple (show s1.heap.IsTuple a its.toArray from p) ?_
    refine ⟨s1.heap.objs.size, [s1.heap.objs.size], _, _, H1, rfl, I1.kept (t' := s1.toks) fun b o e => Heap.get?_push_of_some _ e, turn_tuple a _, ⟨_, Heap.get?_push_size _ rfl, rfl, rfl⟩, fun b hb => ?_, q⟩
    have e : b = s1.heap.objs.size := by simpa using hb
    subst e
    exact I1.fpOk (Nat.le_refl _) (I1.hok.fresh (Nat.le_refl _))
theorem ei_seq {R : List PyData → Prop} (h : Ev X W e ρ fun d => ∃ ds, (d = .tuple ds ∨ d = .list ds) ∧ R ds) : Ei X W tg e ρ R := by
  refine ⟨fun σ H B Q L k => (pi_seq pe_w).toZ ?_⟩
  refine h.run σ H B _ L fun v H1 B1 d s1 L1 D1 h2 => ?_
  obtain ⟨ds, h2, h5⟩ := h2
  rcases h2 with rfl | rfl
  · obtain ⟨p, vs, rfl, h3, h4⟩ := dp_tup D1
    exact ⟨p, rfl, .inr ⟨⟨vs, seqT L1.gr.sub h3⟩, k _ H1 B1 _ s1 L1 (walk_tup h3 h4) h5⟩⟩
  · obtain ⟨p, vs, rfl, h3, h4⟩ := dp_list D1
    exact ⟨p, rfl, .inl ⟨⟨vs, SqL.of (L1.gr.sub _ _ h3)⟩, k _ H1 B1 _ s1 L1 (walk_list h3 h4) h5⟩⟩
end
end Z

namespace Z
open PySem PySem.Spec PyProof.Rows L2 GenW
section
variable {M : Model} {A : Around} {R : GenEnd} {Y : Protocol} {n : Nat} {s₀ : Shared} {c : Code} {fs : List Frame} {s : Shared} {env : Env}
  {K : Flow → Sem PySem.Fin} {H : Value → Sem PySem.Fin} {gd : Bool → Bool} {lv : List Value → List Value}
/-- if, in a generator's body -/
theorem seg_If {test : Expr} {body orelse : List Stmt} {pos : Pos}
    (h : wpAny M (A.over c fs) (isTrue test env (eval test env)) (fun b s' => if b = true then Seg M A R Y n s₀ c ((execs body env).wrap K H gd lv) fs s' else Seg M A R Y n s₀ c ((execs orelse env).wrap K H gd lv) fs s')
      (fun x s' => Seg M A R Y n s₀ c (H x) fs s') s) : Seg M A R Y n s₀ c ((exec (.If test body orelse pos) env).wrap K H gd lv) fs s := by
  refine seg_at ?_
  show Seg M A R Y n s₀ c ((isTrue test env (eval test env) >>= fun b => if b = true then execs body env else execs orelse env).wrap K H gd lv) fs s
  rw [Sem.bind_eq_wrap', Sem.wrap_wrap]
  refine seg_wrap (wpAny_mono h (fun b s' hb => ?_) fun _ _ x => x)
  cases b with
  | true =>
    rw [if_pos rfl] at hb
    exact hb
  | false =>
    rw [if_neg Bool.false_ne_true] at hb
    exact hb
/-- for, in a generator's body -/
theorem seg_For {target iter : Expr} {body orelse : List Stmt} {pos : Pos} (hs : ∀ x, foldedSetIterable iter env x = pure x)
    (h : wpAny M (A.over c fs) (eval iter env) (fun x s1 => wpAny M (A.over c fs) (pyIter x) (fun it s2 => ∀ p, Seg M A R Y n s₀ (.forLoop target it body orelse env) (M.den (.forLoop target it body orelse env))
      (.ret (fun r => ((match r with | .ok f => (.pure f : Sem Flow) | .error e => .raise e).onRaise (cameBack env)).wrap K H gd lv) none (gd false) (lv []) c p [] :: fs) s2) (fun x s' => Seg M A R Y n s₀ c (H x) fs s') s1) (fun x s' => Seg M A R Y n s₀ c (H x) fs s') s) :
    Seg M A R Y n s₀ c ((exec (.For target iter body orelse pos) env).wrap K H gd lv) fs s := by
  refine seg_at ?_
  have e : (do
      let x ← foldedSetIterable iter env (← eval iter env)
      standAt iter.pos
      runOwn (.forLoop target (← holding [x] (pyIter x)) body orelse env) env : Sem Flow) =
      ((do
        let x ← foldedSetIterable iter env (← eval iter env)
        standAt iter.pos
        holding [x] (pyIter x)) >>= fun it => runOwn (.forLoop target it body orelse env) env) := by
    simp only [bind_assoc]
  show Seg M A R Y n s₀ c ((do
      let x ← foldedSetIterable iter env (← eval iter env)
      standAt iter.pos
      runOwn (.forLoop target (← holding [x] (pyIter x)) body orelse env) env : Sem Flow).wrap K H gd lv) fs s
  rw [e, Sem.bind_eq_wrap', Sem.wrap_wrap]
  refine seg_wrap ?_
  refine wpAny_bind (wpAny_mono h (fun x s1 h1 => ?_) fun _ _ x => x)
  refine wpAny_bind (wpAny_of_eq (hs x) (wpAny_bind (wpAny_standAt (wpAny_holding (wpAny_mono h1 (fun it s2 h2 => ?_) fun _ _ x => x)))))
  exact seg_call h2
end
section
variable {prog : Program} {w : World} {A : Around} {R : GenEnd} {Y : Protocol} {n : Nat} {s₀ : Shared} {fs : List Frame} {s : Shared} {env : Env}
theorem noted_wrap (e : Value) : ((do noteFrame e env; theTreesLotGoes e : Sem Unit).bind fun _ => (Sem.raise e : Sem PySem.Fin)) = (do noteFrame e env; theTreesLotGoes e : Sem Unit).wrap (fun _ => .raise e) .raise id id := Sem.bind_eq_wrap _ _
theorem seg_forLoop {target : Expr} {it : Value} {body : List Stmt}
    (h : wpAny (model prog w) (A.over (.forLoop target it body [] env) fs) (pyNext it) (fun r s1 => match r with
        | none => Seg (model prog w) A R Y n s₀ (.block [] env) ((model prog w).den (.block [] env)) fs s1
        | some v => wpAny (model prog w) (A.over (.forLoop target it body [] env) fs) (letOwnedTupleGo target it v) (fun _ s2 => wpAny (model prog w) (A.over (.forLoop target it body [] env) fs) (assign target env v) (fun _ s3 =>
            Seg (model prog w) A R Y n s₀ (.forLoop target it body [] env) ((execs body env).wrap (fun f => match f with
              | .next | .cont => .pure (.again (.forLoop target it body [] env))
              | .brk => .pure (.done .next)
              | .ret v => .pure (.done (.ret v))) (fun e => (do noteFrame e env; theTreesLotGoes e : Sem Unit).wrap (fun _ => .raise e) .raise id id) id id) fs s3)
            (fun x s' => Seg (model prog w) A R Y n s₀ (.forLoop target it body [] env) ((do noteFrame x env; theTreesLotGoes x : Sem Unit).wrap (fun _ => .raise x) .raise id id) fs s') s2)
            (fun x s' => Seg (model prog w) A R Y n s₀ (.forLoop target it body [] env) ((do noteFrame x env; theTreesLotGoes x : Sem Unit).wrap (fun _ => .raise x) .raise id id) fs s') s1)
      (fun x s' => Seg (model prog w) A R Y n s₀ (.forLoop target it body [] env) ((do noteFrame x env; theTreesLotGoes x : Sem Unit).wrap (fun _ => .raise x) .raise id id) fs s') s) :
    Seg (model prog w) A R Y n s₀ (.forLoop target it body [] env) ((model prog w).den (.forLoop target it body [] env)) fs s := by
  show Seg _ A R Y n s₀ _ ((forTurn target it body [] env).onRaise (fun x => do noteFrame x env; theTreesLotGoes x)) fs s
  unfold forTurn
  rw [Sem.onRaise_eq_wrap, Sem.bind_eq_wrap', Sem.wrap_wrap]
  refine seg_wrap (wpAny_standAt ?_)
  dsimp only
  rw [Sem.bind_eq_wrap', Sem.wrap_wrap]
  refine seg_wrap (wpAny_onRaise (wpAny_mono h (fun r s1 h1 => ?_) fun x s' hx => wpAny_standAt ?_))
  · cases r with
    | none =>
      dsimp only
      exact seg_again rfl h1
    | some v =>
      dsimp only
      rw [Sem.bind_eq_wrap', Sem.wrap_wrap]
      refine seg_wrap (wpAny_mono h1 (fun _ s2 h2 => ?_) fun x s' hx => ?_)
      · try dsimp only
        rw [Sem.bind_eq_wrap', Sem.wrap_wrap]
        refine seg_wrap (wpAny_mono h2 (fun _ s3 h3 => ?_) fun x s' hx => ?_)
        · try dsimp only
          rw [Sem.bind_eq_wrap', Sem.wrap_wrap]
          rw [Sem.wrap_congr (execs body env) _ _ (K' := fun f => match f with
            | .next | .cont => .pure (.again (.forLoop target it body [] env))
            | .brk => .pure (.done .next)
            | .ret v => .pure (.done (.ret v))) (H' := (fun e => (do noteFrame e env; theTreesLotGoes e : Sem Unit).wrap (fun _ => .raise e) .raise id id))
            (fun f => by cases f <;> rfl)
            (fun e => by first | exact Sem.bind_eq_wrap _ _ | exact noted_wrap e)]
          exact h3
        · first | (rw [← noted_wrap] at hx; exact hx) | exact hx
      · first | (rw [← noted_wrap] at hx; exact hx) | exact hx
  · first | (rw [← noted_wrap] at hx; exact hx) | exact hx
end
section
variable {X : Cx}
/-! ### if, for -/
def tGIf (c : TT) (t u : TGn) : TGn := fun D ys σ H => c σ H fun b H1 => if b = true then t D ys σ H1 else u D ys σ H1
theorem gs_if {test : Expr} {body orelse : List Stmt} {pos : Pos} {tc : TT} {tb te : TGn} (hc : PT X test tc) (hb : GSs X body tb) (he : GSs X orelse te) : GS X (.If test body orelse pos) (tGIf tc tb te) := by
  refine ⟨fun A S ip R n ys s₀ c fs K J gd lv s σ H D g hn k hI ht => ?_⟩
  obtain ⟨acc, cc, r, I⟩ := hI
  refine seg_If ?_
  rw [g.over]
  refine wpAny_mono (hc.run _ s σ H _ I ht) (fun b s' hb' => ?_) fun x s' hx => k.exc n s₀ x s' hx
  obtain ⟨H2, I2, q2⟩ := hb'
  cases b with
  | true =>
    rw [if_pos rfl] at q2 ⊢
    exact hb.run A S ip R n ys s₀ c fs K J gd lv s' σ H2 D g hn k ⟨acc, cc, r, I2⟩ q2
  | false =>
    rw [if_neg Bool.false_ne_true] at q2 ⊢
    exact he.run A S ip R n ys s₀ c fs K J gd lv s' σ H2 D g hn k ⟨acc, cc, r, I2⟩ q2
def tGFor (wi : TI) (g : TG) (tb : TGn) : TGn := fun D ys σ H => wi σ H fun J H1 => ∃ W : Nat → Nat → List V → L2.St → Hp → Prop, (∃ m, W 0 m ys σ H1) ∧ ∀ i m ys σ H, W i m ys σ H →
  (J.stop i H ∧ D.nx ys σ H) ∨ (J.go i H ∧ ∃ N : List V → L2.St → Hp → Prop, (∀ ys' σ' H', N ys' σ' H' → ∃ m', m' < m ∧ W (i + 1) m' ys' σ' H') ∧ ∀ x H', J.yld i H x H' → g x σ H' fun σ2 H2 => tb { D with nx := N, ct := N, bk := D.nx } ys σ2 H2)
theorem gi_un {S : Addr} {ip pl : List (Addr × Obj)} {ys : List V} {σ : L2.St} {H : Hp} {s : Shared} (h : GI X S (ip ++ pl) ys σ H s) : GI X S ip ys σ H s := by
  obtain ⟨acc, c, r, I⟩ := h
  have e : (S, lstObj acc c) :: (ip ++ pl) = ((S, lstObj acc c) :: ip) ++ pl := rfl
  rw [e] at I
  exact ⟨acc, c, r, I.unpinned⟩
theorem gs_for {tg iter : Expr} {body : List Stmt} {pos : Pos} {wi : TI} {g : TG} {tb : TGn} (hp : PassesOwn (model X.prog X.w) X.A X.env X.xe) (hc : X.calm = true) (hi : PI X tg iter wi) (hg : PG X tg g) (hb : GSs X body tb)
    (hs : ∀ x, foldedSetIterable iter X.env x = pure x := by intro _; rfl) : GS X (.For tg iter body [] pos) (tGFor wi g tb) := by
  refine ⟨fun A S ip R n ys s₀ c fs K J gd lv s σ H D gc hn k hI ht => ?_⟩
  obtain ⟨acc, cc, r, I⟩ := hI
  refine seg_For hs ?_
  rw [gc.over]
  refine wpAny_mono (hi.run _ s σ H _ I ht) (fun v s1 h1 => wpAny_mono h1 (fun itv s2 h2 p => ?_) fun x s' hx => k.exc n s₀ x s' hx) fun x s' hx => k.exc n s₀ x s' hx
  obtain ⟨it, fp, tn, J', H2, e, I2, T, st2, f2, W, ⟨m0, w0⟩, turn⟩ := h2
  subst e
  have gl := fun (kk : Result → Sem PySem.Fin) => gc_loop (k := kk) (c' := .forLoop tg (.ref it) body [] X.env) (l := lv []) (kp := []) (p := p) gc rfl rfl
  have hfS : ∀ b ∈ fp, b ≠ S := fun b hb e => (f2 b hb).2.2.2.2.2 (S, lstObj acc cc) (List.mem_append_right _ List.mem_cons_self) e.symm
  have stat : ∀ {H' : Hp} {acc' : Array Value} {c' : Nat}, (∀ b ∈ fp, H' b = none) → ∀ b ∈ fp, FpOk X ((S, lstObj acc' c') :: ip) H' b := fun {H' acc' c'} hn b hb => by
    obtain ⟨q0, q1, q2, q3, q4, q5⟩ := f2 b hb
    refine ⟨hn b hb, q1, q2, q3, q4, fun p hp => ?_⟩
    rcases List.mem_append.mp hp with hp | hp
    · exact q5 p (List.mem_append_left _ hp)
    · rcases List.mem_cons.mp hp with hp | hp
      · rw [hp]
        exact fun z => hfS b hb z.symm
      · exact q5 p (List.mem_append_right _ (List.mem_cons_of_mem _ hp))
  have loop : ∀ (m i n : Nat) (ys : List V) (s₀ s : Shared) (σ : L2.St) (H : Hp), n + ys.length = sizeLine → W i m ys σ H → GI X S ip ys σ H s → tn i s.heap → (∀ b ∈ fp, H b = none) →
      Seg (model X.prog X.w) A R (GY X S) n s₀ (.forLoop tg (.ref it) body [] X.env) ((model X.prog X.w).den (.forLoop tg (.ref it) body [] X.env))
        (.ret (fun r => ((match r with | .ok f => (.pure f : Sem Flow) | .error e => .raise e).onRaise (cameBack X.env)).wrap K J gd lv) none (gd false) (lv []) c p [] :: fs) s := by
    intro m
    induction m using Nat.strongRecOn with
    | ind m ih =>
      intro i n ys s₀ s σ H hn w hI stn hfr
      have ee : ∀ (n : Nat) (s₀ : Shared) (x : Value) (s' : Shared), X.xe x s' → Seg (model X.prog X.w) A R (GY X S) n s₀ (.forLoop tg (.ref it) body [] X.env)
          ((do noteFrame x X.env; theTreesLotGoes x : Sem Unit).wrap (fun _ => .raise x) .raise id id)
          (.ret (fun r => ((match r with | .ok f => (.pure f : Sem Flow) | .error e => .raise e).onRaise (cameBack X.env)).wrap K J gd lv) none (gd false) (lv []) c p [] :: fs) s' := fun n s₀ x s' hx => by
        refine seg_wrap ?_
        rw [(gl _).over]
        refine wpAny_bind (wpAny_mono (hp x s' hx) (fun _ s'' hcb => wpAny_theTreesLotGoes ?_) fun y s'' hcb => ?_)
        · exact seg_leaf (.error x) (seg_cameBack gc k hcb)
        · exact seg_leaf (.error y) (seg_cameBack gc k hcb)
      refine seg_forLoop ?_
      rw [(gl _).over]
      obtain ⟨acc, cc, r, I⟩ := hI
      rcases turn i m ys σ H w with ⟨stop, qn⟩ | ⟨go, N, hN, step⟩
      · refine wpAny_mono (T.done X rfl rfl rfl hc i _ s σ H X.xe I (stat hfr) stn stop) (fun r' s4 hr => ?_) fun x s' hx => ee n s₀ x s' hx
        obtain ⟨hr, I4⟩ := hr
        subst hr
        exact seg_leaf (.ok .next) (k.ok n ys s₀ s4 .next hn ⟨σ, H, ⟨acc, cc, r, I4⟩, qn⟩)
      · refine wpAny_mono (T.item X rfl rfl rfl hc i _ s σ H X.xe I (stat hfr) stn go) (fun r' s4 hr => ?_) fun x s' hx => ee n s₀ x s' hx
        obtain ⟨u, hr, h4⟩ := hr
        subst hr
        refine wpAny_mono h4 (fun _ s5 h5 => ?_) fun x s' hx => ee n s₀ x s' hx
        obtain ⟨x, H5, I5, r5, y5, st5, fr5⟩ := h5
        have I5' := I5.pinned (stat fr5) (T.obj _ _ st5)
        refine wpAny_mono (hg.run _ s5 σ H5 x u _ I5' r5 (step x H5 y5)) (fun _ s6 h6 => ?_) fun x s' hx => ee n s₀ x s' hx
        obtain ⟨σ6, H6, I6, q6⟩ := h6
        have hip : ∀ q ∈ ip ++ pinsAt fp s5.heap, q.1 ≠ S := fun q hq => by
          rcases List.mem_append.mp hq with hq | hq
          · exact gc.ip q hq
          · exact hfS q.1 (of_pinsAt hq).1
        have gc2 : GC X S (ip ++ pinsAt fp s5.heap) A (.forLoop tg (.ref it) body [] X.env) (.ret (fun r => ((match r with | .ok f => (.pure f : Sem Flow) | .error e => .raise e).onRaise (cameBack X.env)).wrap K J gd lv) none (gd false) (lv []) c p [] :: fs) id :=
          ⟨gc.pn, hip, gc.apart, (gl _).over, (gl _).split, (gl _).guard, rfl⟩
        refine hb.run A S (ip ++ pinsAt fp s5.heap) R n ys s₀ _ _ _ _ id id s6 σ6 H6 { D with nx := N, ct := N, bk := D.nx } gc2 hn ⟨fun n' ys' s₀' s3 f hn' hs' => ?_, fun n' s₀' x s3 hx => ee n' s₀' x s3 hx⟩ ⟨acc, cc, r, I6⟩ q6
        have again : ∀ {σ7 : L2.St} {H7 : Hp}, GI X S (ip ++ pinsAt fp s5.heap) ys' σ7 H7 s3 → N ys' σ7 H7 → Seg (model X.prog X.w) A R (GY X S) n' s₀' (.forLoop tg (.ref it) body [] X.env) (.pure (.again (.forLoop tg (.ref it) body [] X.env)))
            (.ret (fun r => ((match r with | .ok f => (.pure f : Sem Flow) | .error e => .raise e).onRaise (cameBack X.env)).wrap K J gd lv) none (gd false) (lv []) c p [] :: fs) s3 := fun {σ7 H7} I7 n7 => by
          obtain ⟨m', hm, w7⟩ := hN ys' σ7 H7 n7
          obtain ⟨acc7, c7, r7, J7⟩ := id I7
          have pin7 : ∀ b ∈ fp, ∀ o, s5.heap.get? b = some o → s3.heap.get? b = some o ∧ H7 b = none := fun b hb o e => by
            have := J7.pin (b, o) (List.mem_append_right _ (List.mem_cons_of_mem _ (List.mem_append_right _ (mem_pinsAt hb e))))
            exact ⟨this.1, this.2.1⟩
          refine seg_again rfl (ih m' hm (i + 1) n' ys' s₀' s3 σ7 H7 hn' w7 (gi_un I7) (T.keep _ _ _ st5 fun b hb o e => (pin7 b hb o e).1) fun b hb => ?_)
          obtain ⟨o, e, _⟩ := T.obj _ _ st5 b hb
          exact (pin7 b hb o e).2
        cases f with
        | next =>
          obtain ⟨σ3, H3, I3, n3⟩ := hs'
          exact again I3 n3
        | cont =>
          obtain ⟨σ3, H3, I3, n3⟩ := hs'
          exact again I3 n3
        | brk =>
          obtain ⟨σ3, H3, I3, n3⟩ := hs'
          exact seg_leaf (.ok .next) (k.ok n' ys' s₀' s3 .next hn' ⟨σ3, H3, gi_un I3, n3⟩)
        | ret v =>
          obtain ⟨x3, σ3, H3, I3, r3, n3⟩ := hs'
          exact seg_leaf (.ok (.ret v)) (k.ok n' ys' s₀' s3 (.ret v) hn' ⟨x3, σ3, H3, gi_un I3, r3, n3⟩)
  exact loop m0 0 n ys s₀ s2 σ H2 hn w0 ⟨acc, cc, r, I2⟩ st2 fun b hb => (f2 b hb).1
end
section
variable (X : Cx)
def tGw (st : Stmt) : TGn := fun D ys σ H => ∀ (A : Around) (S : Addr) (ip : List (Addr × Obj)) (R : GenEnd) (n : Nat) (s₀ : Shared) (c : Code) (fs : List Frame) (K : Flow → Sem PySem.Fin) (J : Value → Sem PySem.Fin) (gd : Bool → Bool) (lv : List Value → List Value) (s : Shared),
    GC X S ip A c fs gd → n + ys.length = sizeLine → GK X S ip A R c fs K J D → GI X S ip ys σ H s →
    Seg (model X.prog X.w) A R (GY X S) n s₀ c ((exec st X.env).wrap K J gd lv) fs s
def tGws (st : List Stmt) : TGn := fun D ys σ H => ∀ (A : Around) (S : Addr) (ip : List (Addr × Obj)) (R : GenEnd) (n : Nat) (s₀ : Shared) (c : Code) (fs : List Frame) (K : Flow → Sem PySem.Fin) (J : Value → Sem PySem.Fin) (gd : Bool → Bool) (lv : List Value → List Value) (s : Shared),
    GC X S ip A c fs gd → n + ys.length = sizeLine → GK X S ip A R c fs K J D → GI X S ip ys σ H s →
    Seg (model X.prog X.w) A R (GY X S) n s₀ c ((execs st X.env).wrap K J gd lv) fs s
end
section
variable {X : Cx}
theorem gs_w {st : Stmt} : GS X st (tGw X st) := ⟨fun A S ip R n ys s₀ c fs K J gd lv s σ H D g hn k hI ht => ht A S ip R n s₀ c fs K J gd lv s g hn k hI⟩
theorem gss_w {st : List Stmt} : GSs X st (tGws X st) := ⟨fun A S ip R n ys s₀ c fs K J gd lv s σ H D g hn k hI ht => ht A S ip R n s₀ c fs K J gd lv s g hn k hI⟩
theorem _root_.L2.GS.toZ {st : Stmt} {t : TGn} (h : GS X st t) {D ys σ H} (q : t D ys σ H) : tGw X st D ys σ H := fun A S ip R n s₀ c fs K J gd lv s g hn k hI => h.run A S ip R n ys s₀ c fs K J gd lv s σ H D g hn k hI q
theorem _root_.L2.GSs.toZ {st : List Stmt} {t : TGn} (h : GSs X st t) {D ys σ H} (q : t D ys σ H) : tGws X st D ys σ H := fun A S ip R n s₀ c fs K J gd lv s g hn k hI => h.run A S ip R n ys s₀ c fs K J gd lv s σ H D g hn k hI q
/-- weaker ends -/
structure GLe (D D' : GEnds) : Prop where
  nx : ∀ ys σ H, D.nx ys σ H → D'.nx ys σ H
  rt : ∀ ys v H, D.rt ys v H → D'.rt ys v H
  bk : ∀ ys σ H, D.bk ys σ H → D'.bk ys σ H
  ct : ∀ ys σ H, D.ct ys σ H → D'.ct ys σ H
theorem _root_.L2.GK.weak {S : Addr} {ip : List (Addr × Obj)} {A : Around} {R : GenEnd} {c : Code} {fs : List Frame} {K : Flow → Sem PySem.Fin} {J : Value → Sem PySem.Fin} {D D' : GEnds} (l : GLe D D') (k : GK X S ip A R c fs K J D') : GK X S ip A R c fs K J D :=
  ⟨fun n ys s₀ s f hn hs => k.ok n ys s₀ s f hn (by
    cases f with
    | next => obtain ⟨σ, H, I, q⟩ := hs; exact ⟨σ, H, I, l.nx _ _ _ q⟩
    | brk => obtain ⟨σ, H, I, q⟩ := hs; exact ⟨σ, H, I, l.bk _ _ _ q⟩
    | cont => obtain ⟨σ, H, I, q⟩ := hs; exact ⟨σ, H, I, l.ct _ _ _ q⟩
    | ret u => obtain ⟨v, σ, H, I, r, q⟩ := hs; exact ⟨v, σ, H, I, r, l.rt _ _ _ q⟩), k.exc⟩
theorem tGw.weak {st : Stmt} {D D' : GEnds} {ys σ H} (h : tGw X st D ys σ H) (l : GLe D D') : tGw X st D' ys σ H := fun A S ip R n s₀ c fs K J gd lv s g hn k hI => h A S ip R n s₀ c fs K J gd lv s g hn (k.weak l) hI
theorem tGws.weak {st : List Stmt} {D D' : GEnds} {ys σ H} (h : tGws X st D ys σ H) (l : GLe D D') : tGws X st D' ys σ H := fun A S ip R n s₀ c fs K J gd lv s g hn k hI => h A S ip R n s₀ c fs K J gd lv s g hn (k.weak l) hI
theorem tWs.weak {st : Stmt} {D D' : Ends} {σ H} (h : tWs X st D σ H) (n : ∀ σ H, D.nx σ H → D'.nx σ H) (r : ∀ v H, D.rt v H → D'.rt v H) (b : ∀ σ H, D.bk σ H → D'.bk σ H) (c : ∀ σ H, D.ct σ H → D'.ct σ H) : tWs X st D' σ H := fun pins s I => thn (h pins s I) fun f s' q => by
  cases f with
  | next => obtain ⟨σ', H', I', q⟩ := q; exact ⟨σ', H', I', n _ _ q⟩
  | brk => obtain ⟨σ', H', I', q⟩ := q; exact ⟨σ', H', I', b _ _ q⟩
  | cont => obtain ⟨σ', H', I', q⟩ := q; exact ⟨σ', H', I', c _ _ q⟩
  | ret u => obtain ⟨v, σ', H', I', rr, q⟩ := q; exact ⟨v, σ', H', I', rr, r _ _ q⟩
end
/-- what is wanted behind a statement of a generator (no return in it): out so far, the frame -/
structure Gd where
  nx : List PyData → List Sl → Prop
  bk : List PyData → List Sl → Prop := fun _ _ => False
  ct : List PyData → List Sl → Prop := fun _ _ => False
def Gde (K : PySem.W.Frag) (W : Wd) (B0 : Hp) (D : Gd) : GEnds where
  nx := fun ys σ H => ∃ B ρ ds, Same B0 B ∧ Lay K W B H σ ρ ∧ DqAll K B ys ds ∧ D.nx ds ρ
  rt := fun _ _ _ => False
  bk := fun ys σ H => ∃ B ρ ds, Same B0 B ∧ Lay K W B H σ ρ ∧ DqAll K B ys ds ∧ D.bk ds ρ
  ct := fun ys σ H => ∃ B ρ ds, Same B0 B ∧ Lay K W B H σ ρ ∧ DqAll K B ys ds ∧ D.ct ds ρ
theorem gde_back {K : PySem.W.Frag} {W : Wd} {B B' : Hp} {D : Gd} (s : Same B B') : GLe (Gde K W B' D) (Gde K W B D) :=
  ⟨fun ys σ H ⟨B2, ρ, ds, s2, q⟩ => ⟨B2, ρ, ds, s.trans s2, q⟩, fun _ _ _ z => z, fun ys σ H ⟨B2, ρ, ds, s2, q⟩ => ⟨B2, ρ, ds, s.trans s2, q⟩, fun ys σ H ⟨B2, ρ, ds, s2, q⟩ => ⟨B2, ρ, ds, s.trans s2, q⟩⟩
structure Gs (X : Cx) (W : Wd) (st : Stmt) (o : List PyData) (ρ : List Sl) (D : Gd) : Prop where
  run : ∀ (σ : L2.St) (H B : Hp) (ys : List V), Lay X.K W B H σ ρ → DqAll X.K B ys o → tGw X st (Gde X.K W B D) ys σ H
structure Gss (X : Cx) (W : Wd) (st : List Stmt) (o : List PyData) (ρ : List Sl) (D : Gd) : Prop where
  run : ∀ (σ : L2.St) (H B : Hp) (ys : List V), Lay X.K W B H σ ρ → DqAll X.K B ys o → tGws X st (Gde X.K W B D) ys σ H
section
variable {X : Cx} {W : Wd} {o : List PyData} {ρ : List Sl} {D : Gd} {pos : Pos} {c e : Expr} {st : Stmt} {sts body : List Stmt}
/-- a statement that hands out nothing -/
theorem gz_plain (h : Es X W st ρ { nx := D.nx o, rt := fun _ => False, bk := D.bk o, ct := D.ct o }) : Gs X W st o ρ D := by
  refine ⟨fun σ H B ys L Y => (gs_ps ps_w).toZ ?_⟩
  show tWs X st ((Gde X.K W B D).at ys) σ H
  refine (h.run σ H B L).weak (fun σ H ⟨B', ρ', s, L', q⟩ => ?_) (fun v H ⟨B', d, g, dv, q⟩ => q) (fun σ H ⟨B', ρ', s, L', q⟩ => ?_) (fun σ H ⟨B', ρ', s, L', q⟩ => ?_)
  all_goals exact ⟨B', ρ', o, s, L', dpAllMono s _ _ Y, q⟩
theorem gz_yield {yp : Pos} (h : Ev X W e ρ fun d => o.length < sizeLine ∧ D.nx (o ++ [d]) ρ) (hlt : o.length < sizeLine) (hco : X.env.scope.isCoroutine = false := by rfl) (hi : interactive X.env = false := by rfl) : Gs X W (.Expr (.Yield (some e) yp) pos) o ρ D := by
  refine ⟨fun σ H B ys L Y => (gs_yield pe_w hco hi).toZ ⟨?_, ?_⟩⟩
  · rw [dpAll_len Y]
    exact hlt
  · refine h.run σ H B _ L fun v H1 B1 d s1 L1 D1 h2 => ?_
    exact ⟨B1, ρ, o ++ [d], s1, L1, dpAll_app (dpAllMono s1 _ _ Y) (.cons D1 .nil), h2.2⟩
theorem gz_if (h : Et X W c ρ fun k => (k = true → Gss X W body o ρ D) ∧ (k = false → Gss X W sts o ρ D)) : Gs X W (.If c body sts pos) o ρ D := by
  refine ⟨fun σ H B ys L Y => (gs_if pt_w gss_w gss_w).toZ ?_⟩
  refine h.run σ H B _ L fun k H1 B1 s L1 q => ?_
  cases k with
  | true =>
    rw [if_pos rfl]
    exact ((q.1 rfl).run σ H1 B1 ys L1 (dpAllMono s _ _ Y)).weak (gde_back s)
  | false =>
    rw [if_neg Bool.false_ne_true]
    exact ((q.2 rfl).run σ H1 B1 ys L1 (dpAllMono s _ _ Y)).weak (gde_back s)
theorem gzs_nil (h : D.nx o ρ) : Gss X W [] o ρ D := ⟨fun σ H B ys L Y => gss_nil.toZ (D := Gde X.K W B D) (show ∃ B' ρ ds, Same B B' ∧ Lay X.K W B' H σ ρ ∧ DqAll X.K B' ys ds ∧ D.nx ds ρ from ⟨B, ρ, o, Same.refl _, L, Y, h⟩)⟩
theorem gzs_cons (h : Gs X W st o ρ { D with nx := fun o r => Gss X W sts o r D }) : Gss X W (st :: sts) o ρ D := by
  refine ⟨fun σ H B ys L Y => (gss_cons gs_w gss_w).toZ ?_⟩
  show tGw X st { Gde X.K W B D with nx := fun ys' σ' H' => tGws X sts (Gde X.K W B D) ys' σ' H' } ys σ H
  refine (h.run σ H B ys L Y).weak ⟨fun ys' σ' H' ⟨B', ρ', ds, s, L', Y', q⟩ => ?_, fun _ _ _ z => z, fun _ _ _ z => z, fun _ _ _ z => z⟩
  exact (q.run σ' H' B' ys' L' Y').weak (gde_back s)
theorem gzs_one (h : Gs X W st o ρ D) : Gss X W [st] o ρ D := by
  refine gzs_cons ⟨fun σ H B ys L Y => (h.run σ H B ys L Y).weak ⟨fun ys' σ' H' ⟨B', ρ', ds, s, L', Y', q⟩ => ⟨B', ρ', ds, s, L', Y', gzs_nil q⟩, fun _ _ _ z => z, fun _ _ _ z => z, fun _ _ _ z => z⟩⟩
/-- plain statements first -/
theorem gzs_plain (h : Es X W st ρ { nx := fun r => Gss X W sts o r D, rt := fun _ => False, bk := D.bk o, ct := D.ct o }) : Gss X W (st :: sts) o ρ D := gzs_cons (gz_plain h)
theorem gzs_cut (Mid : List PyData → List Sl → Prop) (h : Gs X W st o ρ { D with nx := Mid }) (h2 : ∀ o r, Mid o r → Gss X W sts o r D) : Gss X W (st :: sts) o ρ D :=
  gzs_cons ⟨fun σ H B ys L Y => (h.run σ H B ys L Y).weak ⟨fun ys' σ' H' ⟨B', ρ', ds, s, L', Y', q⟩ => ⟨B', ρ', ds, s, L', Y', h2 _ _ q⟩, fun _ _ _ z => z, fun _ _ _ z => z, fun _ _ _ z => z⟩⟩
theorem gz_for {tg iter : Expr} (hp : PassesOwn (model X.prog X.w) X.A X.env X.xe) (hc : X.calm = true)
    (h : Ei X W tg iter ρ fun ds => ∃ P : Nat → List PyData → List Sl → Prop, P 0 o ρ ∧ (∀ i d o1 ρ1, ds[i]? = some d → P i o1 ρ1 → Tg X W tg d ρ1 fun ρ2 => Gss X W body o1 ρ2 { nx := P (i + 1), bk := D.nx, ct := P (i + 1) }) ∧ ∀ o1 ρ1, P ds.length o1 ρ1 → D.nx o1 ρ1)
    (hs : ∀ x, foldedSetIterable iter X.env x = pure x := by intro _; rfl) : Gs X W (.For tg iter body [] pos) o ρ D := by
  refine ⟨fun σ H B ys L Y => (gs_for hp hc pi_w pg_w gss_w hs).toZ ?_⟩
  refine h.run σ H B _ L fun J H1 B1 ds s1 L1 wk hP => ?_
  obtain ⟨P, p0, turn, fin⟩ := hP
  refine ⟨fun i m ys σ H => m = ds.length - i ∧ i ≤ ds.length ∧ ∃ B' ρ o, Same B1 B' ∧ Lay X.K W B' H σ ρ ∧ DqAll X.K B' ys o ∧ P i o ρ, ⟨_, rfl, Nat.zero_le _, B1, ρ, o, Same.refl _, L1, dpAllMono s1 _ _ Y, p0⟩, ?_⟩
  rintro i m ys σ H ⟨rfl, hi, B', ρ1, o1, sB, L, Y', hPi⟩
  by_cases hlt : i < ds.length
  · refine .inr ⟨wk.go i B' H sB L.gr.sub hlt, fun ys' σ' H' => ∃ B'' ρ' o', Same B B'' ∧ Lay X.K W B'' H' σ' ρ' ∧ DqAll X.K B'' ys' o' ∧ Same B1 B'' ∧ P (i + 1) o' ρ', fun ys' σ' H' ⟨B'', ρ', o', _, L', Y2, sB', hP'⟩ => ⟨ds.length - (i + 1), by omega, rfl, hlt, B'', ρ', o', sB', L', Y2, hP'⟩, fun x H' hy => ?_⟩
    obtain ⟨d, B'', hd, s'', L'', Dx, _⟩ := wk.yld i B' H x H' W σ ρ1 sB L hy hlt
    refine (turn i d o1 ρ1 hd hPi).run x σ H' B'' _ L'' Dx fun σ2 H2 B2 ρ2 s2 L2 hb => ?_
    have sb : Same B1 B2 := (sB.trans s'').trans s2
    refine (hb.run σ2 H2 B2 ys L2 (dpAllMono (s''.trans s2) _ _ Y')).weak ⟨fun ys' σ' H' ⟨B3, ρ', o', s3, L3, Y3, q⟩ => ?_, fun _ _ _ z => z, fun ys' σ' H' ⟨B3, ρ', o', s3, L3, Y3, q⟩ => ?_, fun ys' σ' H' ⟨B3, ρ', o', s3, L3, Y3, q⟩ => ?_⟩
    · exact ⟨B3, ρ', o', s1.trans (sb.trans s3), L3, Y3, sb.trans s3, q⟩
    · exact ⟨B3, ρ', o', s1.trans (sb.trans s3), L3, Y3, q⟩
    · exact ⟨B3, ρ', o', s1.trans (sb.trans s3), L3, Y3, sb.trans s3, q⟩
  · have e : i = ds.length := by omega
    subst e
    exact .inl ⟨wk.stop B' H sB L.gr.sub, B', ρ1, o1, s1.trans sB, L, Y', fin o1 ρ1 hPi⟩
end
section
variable {X : Cx} {W : Wd} {ρ : List Sl} {pos : Pos} {e : Expr} {es : List Expr}
/-- *t, .. -/
theorem ea_star {R : List PyData → Prop} {p : Pos} (h : Ev X W e ρ fun d => match d with | .tuple xs => Ea X W es ρ fun ds => R (xs ++ ds) | _ => False) (hs : starEach (.Starred e p :: es) X.env = (true, eval e X.env) :: starEach es X.env := by rfl) : Ea X W (.Starred e p :: es) ρ R := by
  refine ⟨fun σ H B Q L k => (StX.pa_star pe_w pa_w hs).toZ ?_⟩
  refine h.run σ H B _ L fun v H1 B1 d s1 L1 D1 h2 => ?_
  cases d <;> first | exact h2.elim | skip
  rename_i xs
  obtain ⟨q, vs, rfl, h3, h4⟩ := dp_tup D1
  refine ⟨q, vs, rfl, .inl (seqT L1.gr.sub h3), ?_⟩
  refine Ea.run h2 σ H1 B1 _ L1 fun us H2 B2 ds s2 L2 D2 h5 => ?_
  exact k _ H2 B2 _ (s1.trans s2) L2 (dpAll_app (dpAllMono s2 _ _ h4) D2) h5
end
/-! ### a generator def, list(f(..)) -/
def ConG (K : PySem.W.Frag) (P : List PyData → (List PyData → Prop) → Prop) : SpG := fun vs H Qf _ => ∃ B ds R, Same B H ∧ DqAll K B vs ds ∧ P ds R ∧ ∀ out H' B' xs, Gr K ⟨none, (0, []), B, H⟩ B' H' → DqAll K B' out xs → R xs → Qf out H'
section
variable {P : Program} {w : World} {K : PySem.W.Frag} {mg : Str → Option Value} {base : Heap}
abbrev GBx (P : Program) (w : World) (K : PySem.W.Frag) (mg : Str → Option Value) (base : Heap) (N : List Str) (qual : Str) (sc : Scope) (f : Addr) (cdv : Value) (A : Around) (outer : List Env) (s : Shared) (H : Hp) (E : XK) (pn : List (Addr × Obj)) : Cx := gcxOf P w K mg base N qual sc f cdv A outer s H E pn
theorem fn_conG {x qual : Str} {st : Stmt} {f : Addr} {fd : FuncData} {N ps : List Str} {k : Nat} {P' : List PyData → (List PyData → Prop) → Prop} (F : Fun K x qual st f fd) (S : GScope N ps (defScope st)) (len : ∀ ds R, P' ds R → ds.length = ps.length)
    (body : ∀ (cdv : Value) (A : Around) (outer : List Env) (s : Shared) (H : Hp) (E : XK) (pn : List (Addr × Obj)) (W : Wd) (ds : List PyData) (R : List PyData → Prop), Room k (GBx P w K mg base N qual (defScope st) f cdv A outer s H E pn).A → P' ds R →
      Gss (GBx P w K mg base N qual (defScope st) f cdv A outer s H E pn) W (defBody st) [] (startZ N ds) { nx := fun o _ => R o }) : GFn P w K mg base (k + 1) f fd ps (ConG K P') := by
  obtain ⟨oc, od, kV, doc, pm, an, cdv, ct, osl, rfl, lk, hcd⟩ := F.ex
  refine gfn_of lk hcd S (fun vs H Q E h => ?_) fun A outer s H vs Q E pn hr h => ?_
  · obtain ⟨B, ds, R, _, h1, h2, _⟩ := h
    rw [dpAll_len h1]
    exact len ds R h2
  · obtain ⟨B, ds, R, sB, h1, h2, q⟩ := h
    refine ⟨tGws _ (defBody st), gss_w, ?_⟩
    have L := start_lay (N := N) (T := none) (ns := (0, [])) sB (fun _ z => by cases z) h1
    refine tGws.weak ((body cdv A outer s H E pn ⟨none, (0, []), B, H⟩ ds R hr h2).run _ _ _ [] L .nil) ⟨fun ys σ' H' ⟨B', ρ', o, s', L', Y, r⟩ => ?_, fun _ _ _ z => z.elim, fun _ _ _ ⟨_, _, _, _, _, _, z⟩ => z.elim, fun _ _ _ ⟨_, _, _, _, _, _, z⟩ => z.elim⟩
    exact q ys H' B' o L'.gr Y r
end
section
variable {X : Cx} {W : Wd} {ρ : List Sl} {pos : Pos} {e : Expr} {es : List Expr}
theorem el_listG {f : Addr} {fd : FuncData} {ps : List Str} {k : Nat} {x : Str} {p p2 pos' : Pos} {R : List PyData → Prop} {P : List PyData → (List PyData → Prop) → Prop} (F : GFn X.prog X.w X.K X.mg X.base k f fd ps (ConG X.K P)) (hr : Room (k + 3) X.A) (hm : X.mg x = some (.ref f))
    (hk : PySem.W.keepIn X.K (.ref f) = true) (hb : Binds X.K fd ps []) (hl : X.mg "list" = none) (h : Ea X W (e :: es) ρ fun ds => P ds R) (hg : Gl X x := by rfl) (hgl : Gl X "list" := by rfl)
    (hs : starEach (e :: es) X.env = (false, eval e X.env) :: starEach es X.env := by rfl) (hpl : (backTo pos' (starEach es X.env)).any (·.1) = false := by rfl) (hdb : (x == ("__debug__" : Str)) = false := by decide)
    (hs2 : starEach [Expr.Call (.Name x p) (e :: es) [] pos'] X.env = (false, eval (Expr.Call (.Name x p) (e :: es) [] pos') X.env) :: starEach [] X.env := by rfl) : El X W (.Call (.Name "list" p2) [.Call (.Name x p) (e :: es) [] pos'] [] pos) ρ R := by
  refine ⟨fun σ H B Q L k' => PE.toZ (t := tListG (tCallG (ConG X.K P) [] E0 (tWa X (e :: es)))) (pe_listG (E := E0) (pgen_call F (hr.mono (by omega)) hg hm hk hb .nil pa_w hdb hs hpl) (fun _ _ _ _ _ _ _ z => ?_) (fun _ _ _ z => z.elim) hr hgl hl boot_list (by decide) (by decide) hs2) ?_⟩
  · obtain ⟨a, B, H', cls, d, _, _, _, _, _, _, _, z⟩ := z
    exact z.elim
  · refine h.run σ H B _ L fun vs H1 B1 ds s1 L1 D1 h2 => ?_
    rw [List.append_nil]
    refine ⟨B1, ds, R, L1.gr.sub, D1, h2, fun out H' B' xs g Y r q hq => ?_⟩
    obtain ⟨s, L'⟩ := L1.called (.inl rfl) g
    obtain ⟨L3, q1, q2, q3, q4⟩ := fresh_own L' hq xs out Y
    exact k' q out _ B' xs (s1.trans s) L3 q1 q2 q3 q4 Y r
end
end Z

/-! list(zip(t, xs)) of a tuple and a list -/
namespace Z
open PySem PySem.Spec PyProof.Rows L2
section
variable {prog : Program} {w : World} {A : Around} {E : Value → Shared → Prop} {s : Shared} {z TI TO i1 i2 : Addr} {fp1 fp2 : List Addr} {n1 n2 i : Nat} {P1 P2 : Nat → Value → Prop} {St1 St2 : Nat → Heap → Prop} {a1 a2 : Value}
theorem zd_next_item_held {T : Addr} {f : Bool} {oT : Obj} {Q : Value → Shared → Prop} (S : ZipSep2 z TI TO i1 i2 fp1 fp2) (D1 : Draws prog w A i1 fp1 n1 P1 St1) (D2 : Draws prog w A i2 fp2 n2 P2 St2)
    (hz : IsZipHeld s.heap z TI TO T f) (hT : s.heap.get? T = some oT) (hTI : IsTupOf2 s.heap TI (.ref i1) (.ref i2)) (st1 : St1 i s.heap) (st2 : St2 i s.heap) (hlt1 : i < n1) (hlt2 : i < n2)
    (hQ : ∀ x1 x2 h' tk, P1 i x1 → P2 i x2 → IsZipHeld h' z TI TO T true → St1 (i + 1) h' → St2 (i + 1) h' → IsTupOf2 h' s.heap.objs.size x1 x2 → h'.objs.size = s.heap.objs.size + 1 →
      (∀ c o, c ≠ z → c ≠ i1 → c ≠ i2 → s.heap.get? c = some o → h'.get? c = some o) → Q (.ref s.heap.objs.size) { s with heap := h', toks := tk }) :
    wpAny (model prog w) A (Builtin.«zip.__next__» ⟨[.ref z], []⟩) (fun fin s' => ∃ v, fin = .done (.ret v) ∧ Q v s') E s := by
  obtain ⟨hp, g, d, tk0, os⟩ := s
  show wpAny _ _ (field (.ref z) 2 >>= _) _ _ _
  refine wpAny_bind (wpAny_field hz rfl (x := .bool false) rfl ?_)
  show wpAny _ _ (field (.ref z) 3 >>= _) _ _ _
  refine wpAny_bind (wpAny_field hz rfl (x := .ref TI) rfl ?_)
  refine wpAny_bind (wpAny_seqItems hTI rfl ?_)
  show wpAny _ _ (Builtin.SmallTypes.ownedTupleIsFree (.ref z) >>= _) _ _ _
  refine wpAny_bind (wpAny_tupleHeld_zip hz hT fun h₁ hz₁ hs₁ => ?_)
  replace hs₁ : Heap.SameBut z hp h₁ := hs₁
  simp only [Bool.false_eq_true, if_false]
  refine wpAny_bind ?_
  rw [← Array.forIn_toList]
  simp only [List.forIn_cons, List.forIn_nil]
  refine wpAny_bind (wpAny_bind (wpAny_holding ?_))
  show wpAny _ _ (Builtin.SmallTypes.nextOf (.ref i1) >>= _) _ _ ⟨h₁, g, d, tk0, os⟩
  refine wpAny_bind (D1.item i _ _ _ hlt1 (D1.over st1 hs₁ S.zf1) fun x1 p1 tk1 hx1 sn1 hp1 => wpAny_pure ?_)
  replace hp1 : Heap.SameBut i1 h₁ p1 := hp1
  refine wpAny_pure ?_
  refine wpAny_bind (wpAny_bind (wpAny_holding ?_))
  show wpAny _ _ (Builtin.SmallTypes.nextOf (.ref i2) >>= _) _ _ ⟨p1, g, d, tk1, os⟩
  refine wpAny_bind (D2.item i _ _ _ hlt2 (D2.over (D2.over st2 hs₁ S.zf2) hp1 S.sep1_2) fun x2 p2 tk2 hx2 sn2 hp2 => wpAny_pure ?_)
  replace hp2 : Heap.SameBut i2 p1 p2 := hp2
  refine wpAny_pure (wpAny_pure ?_)
  show wpAny _ _ (newTuple [x1, x2] >>= _) _ _ ⟨p2, g, d, tk2, os⟩
  refine wpAny_bind (wpAny_newTuple ?_)
  have hsz : p2.objs.size = hp.objs.size := by rw [hp2.1, hp1.1, hs₁.1]
  have hz₃ : IsZipHeld p2 z TI TO T true := hp2.extBut _ _ S.zi2 (hp1.extBut _ _ S.zi1 hz₁)
  have hk : ∀ c o, c ≠ z → c ≠ i1 → c ≠ i2 → hp.get? c = some o → p2.get? c = some o := fun c o c1 c2 c3 e => hp2.extBut _ _ c3 (hp1.extBut _ _ c2 (hs₁.extBut _ _ c1 e))
  have hj1 : St1 (i + 1) p2 := D1.over sn1 hp2 S.sep2_1
  refine wpAny_pure ⟨_, rfl, ?_⟩
  show Q (.ref p2.objs.size) ⟨p2.push { cls := .type "tuple", data := .seq #[x1, x2] }, g, d, tk2, os⟩
  have hp' : IsTupOf2 (p2.push { cls := .type "tuple", data := .seq #[x1, x2] }) p2.objs.size x1 x2 := Heap.get?_push_size _ rfl
  have hz4 : (p2.push { cls := .type "tuple", data := .seq #[x1, x2] }).objs.size = p2.objs.size + 1 := Heap.size_push ..
  rw [hsz] at hp' hz4 ⊢
  exact hQ x1 x2 _ tk2 hx1 hx2 (Heap.get?_push_of_some _ hz₃) (D1.frame _ _ _ hj1 fun b _ o e => Heap.get?_push_of_some _ e) (D2.frame _ _ _ sn2 fun b _ o e => Heap.get?_push_of_some _ e) hp' hz4 fun c o c1 c2 c3 e => Heap.get?_push_of_some _ (hk c o c1 c2 c3 e)
theorem zd_next_end_held {T : Addr} {f : Bool} {oT : Obj} {Q : Fin → Shared → Prop} (S : ZipSep2 z TI TO i1 i2 fp1 fp2) (D1 : Draws prog w A i1 fp1 n1 P1 St1) (D2 : Draws prog w A i2 fp2 n2 P2 St2)
    (hz : IsZipHeld s.heap z TI TO T f) (hT : s.heap.get? T = some oT) (hTI : IsTupOf2 s.heap TI (.ref i1) (.ref i2)) (st1 : St1 i s.heap) (st2 : St2 i s.heap) (hle1 : i ≤ n1) (hle2 : i ≤ n2) (hend : i = n1 ∨ i = n2)
    (hE : ∀ h' tk e, (∀ c o, c ≠ z → c ≠ i1 → c ≠ i2 → s.heap.get? c = some o → h'.get? c = some o) → (∃ o, h'.get? e = some o ∧ o.cls = .type "StopIteration") → E (.ref e) { s with heap := h', toks := tk }) :
    wpAny (model prog w) A (Builtin.«zip.__next__» ⟨[.ref z], []⟩) Q E s := by
  obtain ⟨hp, g, d, tk0, os⟩ := s
  show wpAny _ _ (field (.ref z) 2 >>= _) _ _ _
  refine wpAny_bind (wpAny_field hz rfl (x := .bool false) rfl ?_)
  show wpAny _ _ (field (.ref z) 3 >>= _) _ _ _
  refine wpAny_bind (wpAny_field hz rfl (x := .ref TI) rfl ?_)
  refine wpAny_bind (wpAny_seqItems hTI rfl ?_)
  show wpAny _ _ (Builtin.SmallTypes.ownedTupleIsFree (.ref z) >>= _) _ _ _
  refine wpAny_bind (wpAny_tupleHeld_zip hz hT fun h₁ hz₁ hs₁ => ?_)
  replace hs₁ : Heap.SameBut z hp h₁ := hs₁
  simp only [Bool.false_eq_true, if_false]
  refine wpAny_bind ?_
  rw [← Array.forIn_toList]
  simp only [List.forIn_cons, List.forIn_nil]
  refine wpAny_bind (wpAny_bind (wpAny_holding ?_))
  show wpAny _ _ (Builtin.SmallTypes.nextOf (.ref i1) >>= _) _ _ ⟨h₁, g, d, tk0, os⟩
  by_cases hlt1 : i < n1
  · refine wpAny_bind (D1.item i _ _ _ hlt1 (D1.over st1 hs₁ S.zf1) fun x1 p1 tk1 hx1 sn1 hp1 => wpAny_pure ?_)
    replace hp1 : Heap.SameBut i1 h₁ p1 := hp1
    refine wpAny_pure ?_
    have hi2 : i = n2 := by omega
    refine wpAny_bind (wpAny_bind (wpAny_holding ?_))
    show wpAny _ _ (Builtin.SmallTypes.nextOf (.ref i2) >>= _) _ _ ⟨p1, g, d, tk1, os⟩
    refine wpAny_bind (D2.done ⟨p1, g, d, tk1, os⟩ _ _ (by rw [← hi2]; exact D2.over (D2.over st2 hs₁ S.zf2) hp1 S.sep1_2) fun q e hq he => ?_)
    replace hq : Heap.ExtBut i2 p1 q := hq
    exact hE q tk1 e (fun c o cz c1 c2 x => hq _ _ c2 (hp1.extBut _ _ c1 (hs₁.extBut _ _ cz x))) he
  · have hi1 : i = n1 := by omega
    refine wpAny_bind (D1.done ⟨h₁, g, d, tk0, os⟩ _ _ (by rw [← hi1]; exact D1.over st1 hs₁ S.zf1) fun q e hq he => ?_)
    replace hq : Heap.ExtBut i1 h₁ q := hq
    exact hE q tk0 e (fun c o cz c1 c2 x => hq _ _ c1 (hs₁.extBut _ _ cz x)) he
theorem pyNext_zd_item_held {T : Addr} {f : Bool} {oT : Obj} {Q : Option Value → Shared → Prop} (S : ZipSep2 z TI TO i1 i2 fp1 fp2) (D1 : Draws prog w A.in1 i1 fp1 n1 P1 St1) (D2 : Draws prog w A.in1 i2 fp2 n2 P2 St2)
    (hz : IsZipHeld s.heap z TI TO T f) (hT : s.heap.get? T = some oT) (hTI : IsTupOf2 s.heap TI (.ref i1) (.ref i2)) (st1 : St1 i s.heap) (st2 : St2 i s.heap) (hlt1 : i < n1) (hlt2 : i < n2)
    (hQ : ∀ x1 x2 h' tk, P1 i x1 → P2 i x2 → IsZipHeld h' z TI TO T true → St1 (i + 1) h' → St2 (i + 1) h' → IsTupOf2 h' s.heap.objs.size x1 x2 → h'.objs.size = s.heap.objs.size + 1 →
      (∀ c o, c ≠ z → c ≠ i1 → c ≠ i2 → s.heap.get? c = some o → h'.get? c = some o) → Q (some (.ref s.heap.objs.size)) { s with heap := h', toks := tk }) : wpAny (model prog w) A (pyNext (.ref z)) Q E s := by
  have hTy : s.TypeIs (.ref z) "zip" := ⟨_, hz, rfl⟩
  unfold pyNext
  exact wpAny_bind (wpAny_attempt (wpAny_callSpecial?_slot (name := Str.ofString "__next__") hTy F.slot_zip_next
    (wpAny_call_entry F.slot_zip_next hTy F.entry_zip_next
      (zd_next_item_held S D1 D2 hz hT hTI st1 st2 hlt1 hlt2 fun x1 x2 h' tk y1 y2 b1 d1 d2 b5 b6 b7 => wpAny_pure (hQ x1 x2 h' tk y1 y2 b1 d1 d2 b5 b6 b7)) (F.args_zip_next_1 _))))
theorem pyNext_zd_end_held {T : Addr} {f : Bool} {oT : Obj} {Q : Option Value → Shared → Prop} (S : ZipSep2 z TI TO i1 i2 fp1 fp2) (D1 : Draws prog w A.in1 i1 fp1 n1 P1 St1) (D2 : Draws prog w A.in1 i2 fp2 n2 P2 St2)
    (hz : IsZipHeld s.heap z TI TO T f) (hT : s.heap.get? T = some oT) (hTI : IsTupOf2 s.heap TI (.ref i1) (.ref i2)) (st1 : St1 i s.heap) (st2 : St2 i s.heap) (hle1 : i ≤ n1) (hle2 : i ≤ n2) (hend : i = n1 ∨ i = n2)
    (hQ : ∀ h' tk, (∀ c o, c ≠ z → c ≠ i1 → c ≠ i2 → s.heap.get? c = some o → h'.get? c = some o) → Q none { s with heap := h', toks := tk }) : wpAny (model prog w) A (pyNext (.ref z)) Q E s := by
  have hTy : s.TypeIs (.ref z) "zip" := ⟨_, hz, rfl⟩
  unfold pyNext
  refine wpAny_bind (wpAny_attempt (wpAny_callSpecial?_slot (name := Str.ofString "__next__") hTy F.slot_zip_next
    (wpAny_call_entry F.slot_zip_next hTy F.entry_zip_next (zd_next_end_held S D1 D2 hz hT hTI st1 st2 hle1 hle2 hend fun h' tk e hk he => ?_) (F.args_zip_next_1 _))))
  obtain ⟨o, ho, hc⟩ := he
  refine wpAny_bind (wpAny_isInstance (T := "StopIteration") (b := true) ⟨o, ho, hc⟩ isSubtype_stop ?_)
  exact wpAny_pure (hQ _ _ hk)
end
structure ZEnd (z TO i1 i2 S base : Addr) (P1 P2 : Nat → Value → Prop) (h0 : Heap) (i : Nat) (h : Heap) : Prop where
  tups : ∀ j, j < i → ∃ x y, P1 j x ∧ P2 j y ∧ IsTupOf2 h (base + j) x y
  lst : ∃ (acc : Array Value) (c : Nat), h.get? S = some (lstObj acc c) ∧ acc.size = i ∧ ∀ j v, acc[j]? = some v → v = Value.ref (base + j)
  keep : ∀ b o, b ≠ S → b ≠ z → b ≠ TO → b ≠ i1 → b ≠ i2 → h0.get? b = some o → h.get? b = some o
structure ZSt (z TI TO i1 i2 S base : Addr) (P1 P2 : Nat → Value → Prop) (St1 St2 : Nat → Heap → Prop) (h0 : Heap) (i : Nat) (h : Heap) : Prop where
  zip : (i = 0 ∧ IsZip h z TI TO .none) ∨ ∃ (f : Bool) (j : Nat), j < i ∧ IsZipHeld h z TI TO (base + j) f
  ti : IsTupOf2 h TI (.ref i1) (.ref i2)
  to : ∃ a b, IsTupOf2 h TO a b
  s1 : St1 i h
  s2 : St2 i h
  size : h.objs.size = base + i
  fin : ZEnd z TO i1 i2 S base P1 P2 h0 i h
section
variable {prog : Program} {w : World} {A : Around} {z TI TO i1 i2 S base : Addr} {fp1 fp2 : List Addr} {n1 n2 : Nat} {P1 P2 : Nat → Value → Prop} {St1 St2 : Nat → Heap → Prop} {h0 : Heap}
/-- behind one more turn: the pair is made, then it goes to the list -/
theorem ZSt.turn (Sp : ZipSep2 z TI TO i1 i2 fp1 fp2) (D1 : Draws prog w A i1 fp1 n1 P1 St1) (D2 : Draws prog w A i2 fp2 n2 P2 St2) (hS1 : S ∉ fp1) (hS2 : S ∉ fp2) (hSz : S ≠ z) (hST : S ≠ TI) (hSO : S ≠ TO)
    (hb : ∀ b, b = z ∨ b = TI ∨ b = TO ∨ b = i1 ∨ b = i2 ∨ b = S → b < base) {i : Nat} {h h' : Heap} {x y : Value} (st : ZSt z TI TO i1 i2 S base P1 P2 St1 St2 h0 i h) (hx : P1 i x) (hy : P2 i y) (hz : ∃ (f : Bool) (j : Nat), j < i + 1 ∧ IsZipHeld h' z TI TO (base + j) f) (hTO : ∃ a b, IsTupOf2 h' TO a b) (s1 : St1 (i + 1) h') (s2 : St2 (i + 1) h')
    (hT : IsTupOf2 h' (base + i) x y) (hsz : h'.objs.size = base + i + 1) (hk : ∀ c o, c ≠ z → c ≠ TO → c ≠ i1 → c ≠ i2 → h.get? c = some o → h'.get? c = some o) :
    ZSt z TI TO i1 i2 S base P1 P2 St1 St2 h0 (i + 1) (h'.update S (Obj.mapSeq (·.push (.ref (base + i))))) := by
  obtain ⟨acc, c, e1, e2, e3⟩ := st.fin.lst
  have i1S : S ≠ i1 := fun e => hS1 (by rw [e]; exact Sp.mem1)
  have i2S : S ≠ i2 := fun e => hS2 (by rw [e]; exact Sp.mem2)
  have e1' := hk S _ hSz hSO i1S i2S e1
  have up : ∀ b o, b ≠ S → h'.get? b = some o → (h'.update S (Obj.mapSeq (·.push (.ref (base + i))))).get? b = some o := fun b o hb e => (Heap.get?_update_other _ _ (Ne.symm hb)).trans e
  have lt := fun b hh => hb b hh
  have big : ∀ j : Nat, base + j ≠ S ∧ base + j ≠ z ∧ base + j ≠ TO ∧ base + j ≠ i1 ∧ base + j ≠ i2 := fun j => by
    have a1 := lt S (by simp)
    have a2 := lt z (by simp)
    have a3 := lt TO (by simp)
    have a4 := lt i1 (by simp)
    have a5 := lt i2 (by simp)
    have a6 : base ≤ base + j := Nat.le_add_right _ _
    exact ⟨Nat.ne_of_gt (Nat.lt_of_lt_of_le a1 a6), Nat.ne_of_gt (Nat.lt_of_lt_of_le a2 a6), Nat.ne_of_gt (Nat.lt_of_lt_of_le a3 a6), Nat.ne_of_gt (Nat.lt_of_lt_of_le a4 a6), Nat.ne_of_gt (Nat.lt_of_lt_of_le a5 a6)⟩
  obtain ⟨a, b, q⟩ := hTO
  obtain ⟨f, j0, hj0, hz⟩ := hz
  refine ⟨.inr ⟨f, j0, hj0, up z _ hSz.symm hz⟩, up TI _ hST.symm (hk TI _ Sp.TIz Sp.TITO Sp.TIi1 Sp.TIi2 st.ti), ⟨a, b, up TO _ hSO.symm q⟩, D1.frame _ _ _ s1 fun b hb o e => up b o (fun z => hS1 (z ▸ hb)) e, D2.frame _ _ _ s2 fun b hb o e => up b o (fun z => hS2 (z ▸ hb)) e, ?_, ⟨fun j hj => ?_, ?_, fun b o b1 b2 b3 b4 b5 e => up b o b1 (hk b o b2 b3 b4 b5 (st.fin.keep b o b1 b2 b3 b4 b5 e))⟩⟩
  · rw [Heap.size_update, hsz]
    rfl
  · obtain ⟨g1, g2, g3, g4, g5⟩ := big j
    by_cases hji : j = i
    · subst hji
      exact ⟨x, y, hx, hy, up _ _ g1 hT⟩
    · obtain ⟨x', y', q1, q2, q3⟩ := st.fin.tups j (by omega)
      exact ⟨x', y', q1, q2, up _ _ g1 (hk _ _ g2 g3 g4 g5 q3)⟩
  · refine ⟨acc.push (.ref (base + i)), _, Heap.get?_update_self _ e1' rfl, by rw [Array.size_push, e2], fun j v hj => ?_⟩
    rw [Array.getElem?_push] at hj
    split at hj
    · rename_i e
      cases hj
      rw [e, e2]
    · exact e3 j v hj
theorem zdrain {R : Result → Shared → Prop} {res : Value} (Sp : ZipSep2 z TI TO i1 i2 fp1 fp2) (D1 : Draws prog w A.in1.in1 i1 fp1 n1 P1 St1) (D2 : Draws prog w A.in1.in1 i2 fp2 n2 P2 St2) (hS1 : S ∉ fp1) (hS2 : S ∉ fp2) (hSz : S ≠ z) (hST : S ≠ TI) (hSO : S ≠ TO)
    (hb : ∀ b, b = z ∨ b = TI ∨ b = TO ∨ b = i1 ∨ b = i2 ∨ b = S → b < base) (hn : min n1 n2 ≤ 1000000) {g : Array GenState} {d : Drawn} {os : OsState}
    (hR : ∀ h' tk, ZEnd z TO i1 i2 S base P1 P2 h0 (min n1 n2) h' → R (.ok (.ret res)) ⟨h', g, d, tk, os⟩) : ∀ (k i : Nat) (h : Heap) (tk : Nat), min n1 n2 - i = k → i ≤ min n1 n2 → ZSt z TI TO i1 i2 S base P1 P2 St1 St2 h0 i h →
    codeAny (model prog w) A (.builtin "list.extend.loop" ⟨[.ref S, .ref z, res], []⟩) R ⟨h, g, d, tk, os⟩ := by
  have i1S : S ≠ i1 := fun e => hS1 (by rw [e]; exact Sp.mem1)
  have i2S : S ≠ i2 := fun e => hS2 (by rw [e]; exact Sp.mem2)
  have sl : (1000000 : Nat) < sizeLine := by decide
  have lt := fun b hh => hb b hh
  have big : ∀ j : Nat, base + j ≠ S ∧ base + j ≠ z ∧ base + j ≠ TO ∧ base + j ≠ i1 ∧ base + j ≠ i2 := fun j => by
    have a1 := lt S (by simp)
    have a2 := lt z (by simp)
    have a3 := lt TO (by simp)
    have a4 := lt i1 (by simp)
    have a5 := lt i2 (by simp)
    have a6 : base ≤ base + j := Nat.le_add_right _ _
    exact ⟨Nat.ne_of_gt (Nat.lt_of_lt_of_le a1 a6), Nat.ne_of_gt (Nat.lt_of_lt_of_le a2 a6), Nat.ne_of_gt (Nat.lt_of_lt_of_le a3 a6), Nat.ne_of_gt (Nat.lt_of_lt_of_le a4 a6), Nat.ne_of_gt (Nat.lt_of_lt_of_le a5 a6)⟩
  intro k
  induction k with
  | zero =>
    intro i h tk hk hi st
    have hin : i = min n1 n2 := by omega
    refine codeAny_builtin F.entry_extend_loop ?_
    rw [Around.under_plainId F.plain_extend_loop _]
    show wpAny _ A.in1 (pyNext (.ref z) >>= _) _ _ _
    refine wpAny_bind ?_
    have fin : ∀ (h' : Heap), (∀ c o, c ≠ z → c ≠ TO → c ≠ i1 → c ≠ i2 → h.get? c = some o → h'.get? c = some o) → ZEnd z TO i1 i2 S base P1 P2 h0 (min n1 n2) h' := fun h' hk' => by
      obtain ⟨acc, c, e1, e2, e3⟩ := st.fin.lst
      rw [← hin]
      refine ⟨fun j hj => ?_, ⟨acc, c, hk' S _ hSz hSO i1S i2S e1, e2, e3⟩, fun b o b1 b2 b3 b4 b5 e => hk' b o b2 b3 b4 b5 (st.fin.keep b o b1 b2 b3 b4 b5 e)⟩
      obtain ⟨x', y', q1, q2, q3⟩ := st.fin.tups j hj
      obtain ⟨g1, g2, g3, g4, g5⟩ := big j
      exact ⟨x', y', q1, q2, hk' _ _ g2 g3 g4 g5 q3⟩
    rcases st.zip with ⟨_, hz⟩ | ⟨f, j, ej, hz⟩
    · obtain ⟨a, b, hTO⟩ := st.to
      exact wpAny_pyNext_zipD2_end (s := ⟨h, g, d, tk, os⟩) Sp D1 D2 hz st.ti hTO st.s1 st.s2 (by omega) (by omega) (by omega) fun h' tk' hk' => wpAny_pure (hR h' tk' (fin h' hk'))
    · obtain ⟨x, y, _, _, hT⟩ := st.fin.tups j (by omega)
      exact pyNext_zd_end_held (s := ⟨h, g, d, tk, os⟩) Sp D1 D2 hz hT st.ti st.s1 st.s2 (by omega) (by omega) (by omega) fun h' tk' hk' => wpAny_pure (hR h' tk' (fin h' fun c o c1 _ c3 c4 e => hk' c o c1 c3 c4 e))
  | succ k ih =>
    intro i h tk hk hi st
    refine codeAny_builtin F.entry_extend_loop ?_
    rw [Around.under_plainId F.plain_extend_loop _]
    show wpAny _ A.in1 (pyNext (.ref z) >>= _) _ _ _
    refine wpAny_bind ?_
    have go : ∀ (x y : Value) (h' : Heap) (tk' : Nat), P1 i x → P2 i y → (∃ (f : Bool) (j : Nat), j < i + 1 ∧ IsZipHeld h' z TI TO (base + j) f) → (∃ a b, IsTupOf2 h' TO a b) → St1 (i + 1) h' → St2 (i + 1) h' → IsTupOf2 h' (base + i) x y → h'.objs.size = base + i + 1 → (∀ c o, c ≠ z → c ≠ TO → c ≠ i1 → c ≠ i2 → h.get? c = some o → h'.get? c = some o) →
        wpAny (model prog w) A.in1 (updateSeq S (·.push (.ref (base + i))) >>= fun _ => again (.builtin "list.extend.loop" ⟨[.ref S, .ref z, res], []⟩)) (fun fin s' => match fin with | .done f => R (.ok f) s' | .again c' => c'.quiet = true ∧ codeAny (model prog w) A c' R s') (fun e s' => R (.error e) s') ⟨h', g, d, tk', os⟩ := by
      intro x y h' tk' hx hy hz hTO s1 s2 hT hsz hk'
      obtain ⟨acc, c, e1, e2, e3⟩ := st.fin.lst
      have e1' := hk' S _ hSz hSO i1S i2S e1
      have nx := ZSt.turn Sp D1 D2 hS1 hS2 hSz hST hSO hb st hx hy hz hTO s1 s2 hT hsz hk'
      refine wpAny_bind (wpAny_updateSeq (s := ⟨h', g, d, tk', os⟩) e1' rfl (wpAny_pure ⟨plainId_quiet F.plain_extend_loop _, ih (i + 1) _ tk' (by omega) (by omega) nx⟩) (by rw [e2]; omega) (by show (acc.push _).size ≤ sizeLine + 1; rw [Array.size_push, e2]; omega))
    rcases st.zip with ⟨_, hz⟩ | ⟨f, j, ej, hz⟩
    · obtain ⟨a, b, hTO⟩ := st.to
      refine wpAny_pyNext_zipD2_item (s := ⟨h, g, d, tk, os⟩) Sp D1 D2 hz st.ti hTO st.s1 st.s2 (by omega) (by omega) fun x y h' tk' q1 q2 q3 q4 q5 q6 q7 q8 q9 => ?_
      have ez : (⟨h, g, d, tk, os⟩ : Shared).heap.objs.size = base + i := st.size
      rw [ez] at q3 q7 q8 ⊢
      exact go x y h' tk' q1 q2 ⟨false, i, by omega, q3⟩ ⟨_, _, q4⟩ q5 q6 q7 q8 q9
    · obtain ⟨x0, y0, _, _, hT⟩ := st.fin.tups j (by omega)
      obtain ⟨a, b, hTO⟩ := st.to
      refine pyNext_zd_item_held (s := ⟨h, g, d, tk, os⟩) Sp D1 D2 hz hT st.ti st.s1 st.s2 (by omega) (by omega) fun x y h' tk' q1 q2 q3 q5 q6 q7 q8 q9 => ?_
      have ez : (⟨h, g, d, tk, os⟩ : Shared).heap.objs.size = base + i := st.size
      rw [ez] at q7 q8 ⊢
      exact go x y h' tk' q1 q2 ⟨true, j, by omega, q3⟩ ⟨a, b, q9 TO _ Sp.TOz Sp.Ti1 Sp.Ti2 hTO⟩ q5 q6 q7 q8 fun c o c1 _ c3 c4 e => q9 c o c1 c3 c4 e
end
abbrev zmH1 (h : Heap) (l1 : Addr) : Heap := h.push { cls := .type "tuple_iterator", data := .fields #[.ref l1, .int 0 0] }
abbrev zmH2 (h : Heap) (l1 l2 : Addr) : Heap := (zmH1 h l1).push { cls := .type "list_iterator", data := .fields #[.ref l2, .int 0 0] }
abbrev zmH3 (h : Heap) (l1 l2 : Addr) : Heap := (zmH2 h l1 l2).push { cls := .type "tuple", data := .seq #[.ref h.objs.size, .ref (zmH1 h l1).objs.size] }
abbrev zmH4 (h : Heap) (l1 l2 : Addr) : Heap := (zmH3 h l1 l2).push { cls := .type "tuple", data := .seq #[.none, .none] }
abbrev zmH5 (h : Heap) (l1 l2 : Addr) : Heap := (zmH4 h l1 l2).push { cls := .type "zip", data := .fields #[.none, .bool false, .bool false, .ref (zmH2 h l1 l2).objs.size, .ref (zmH3 h l1 l2).objs.size] }
theorem meets_zipM_new (l1 l2 : Addr) (xs ys : Array Value) :
    Meets (Builtin.«zip.__new__» ⟨[.type "zip", .ref l1, .ref l2], []⟩) (fun _ R s => s.heap.IsTuple l1 xs ∧ s.heap.IsList l2 ys ∧
      R (.ok (.ret (.ref (zmH4 s.heap l1 l2).objs.size))) { s with heap := zmH5 s.heap l1 l2 }) :=
  .of_wp fun prog w A R s h => by
    obtain ⟨hp, g, d, tk, os⟩ := s; obtain ⟨hl1, hl2, h⟩ := h
    have hsub := sub_zip
    have hL1 : Heap.IsTuple (Shared.heap ⟨hp, g, d, tk, os⟩) l1 xs := hl1
    have hL2 : Heap.IsList (Shared.heap ⟨hp.push { cls := .type "tuple_iterator", data := .fields #[.ref l1, .int 0 0] }, g, d, tk, os⟩) l2 ys := Heap.IsList.push hl2 _
    wp_walk using wpAny_pyIter_tuple hL1, wpAny_pyIter_list hL2
    exact ⟨_, rfl, h⟩
section
variable {prog : Program} {w : World} {A : Around} {E : Value → Shared → Prop} {s : Shared}
theorem call_zipM {l1 l2 : Addr} {xs ys : Array Value} {Q : Value → Shared → Prop} (hl1 : s.heap.IsTuple l1 xs) (hl2 : s.heap.IsList l2 ys)
    (h : ∀ h', IsZip h' (s.heap.objs.size + 4) (s.heap.objs.size + 2) (s.heap.objs.size + 3) .none → IsPair h' (s.heap.objs.size + 2) (.ref s.heap.objs.size) (.ref (s.heap.objs.size + 1)) →
      IsPair h' (s.heap.objs.size + 3) .none .none → h'.IsTupleIter s.heap.objs.size l1 0 → h'.IsListIter (s.heap.objs.size + 1) l2 0 → h'.objs.size = s.heap.objs.size + 5 →
      (∀ c o, s.heap.get? c = some o → h'.get? c = some o) → Q (.ref (s.heap.objs.size + 4)) { s with heap := h' }) :
    wpAny (model prog w) A (call (.type "zip") [.ref l1, .ref l2]) Q E s := by
  refine callType_new F.called_zip (by decide) (F.typeCall_zip_2 _ _) (F.newCall_zip_2 _ _) (fun obj => F.args_object_init_3 obj _ _) F.entry_zip_new
    (meets_zipM_new l1 l2 xs ys) ⟨hl1, hl2, ?_⟩
  have z1 : (zmH1 s.heap l1).objs.size = s.heap.objs.size + 1 := Heap.size_push ..
  have z2 : (zmH2 s.heap l1 l2).objs.size = s.heap.objs.size + 2 := by rw [Heap.size_push, z1]
  have z3 : (zmH3 s.heap l1 l2).objs.size = s.heap.objs.size + 3 := by rw [Heap.size_push, z2]
  have z4 : (zmH4 s.heap l1 l2).objs.size = s.heap.objs.size + 4 := by rw [Heap.size_push, z3]
  have z5 : (zmH5 s.heap l1 l2).objs.size = s.heap.objs.size + 5 := by rw [Heap.size_push, z4]
  have g5 : (zmH5 s.heap l1 l2).get? (zmH4 s.heap l1 l2).objs.size = some _ := Heap.get?_push_size _ rfl
  have g4 : (zmH5 s.heap l1 l2).get? (zmH3 s.heap l1 l2).objs.size = some _ := Heap.get?_push_of_some _ (Heap.get?_push_size _ rfl)
  have g3 : (zmH5 s.heap l1 l2).get? (zmH2 s.heap l1 l2).objs.size = some _ := Heap.get?_push_of_some _ (Heap.get?_push_of_some _ (Heap.get?_push_size _ rfl))
  have g2 : (zmH5 s.heap l1 l2).get? (zmH1 s.heap l1).objs.size = some _ := Heap.get?_push_of_some _ (Heap.get?_push_of_some _ (Heap.get?_push_of_some _ (Heap.get?_push_size _ rfl)))
  have g1 : (zmH5 s.heap l1 l2).get? s.heap.objs.size = some _ := Heap.get?_push_of_some _ (Heap.get?_push_of_some _ (Heap.get?_push_of_some _ (Heap.get?_push_of_some _ (Heap.get?_push_size _ rfl))))
  show _ ∧ _
  rw [z2, z3, z4] at g5
  rw [z1, z2] at g3
  rw [z3] at g4
  rw [z1] at g2
  rw [z4]
  exact ⟨⟨_, g5, rfl⟩, h _ g5 g3 g4 ⟨_, g1, rfl, rfl⟩ ⟨_, g2, rfl, rfl⟩ z5 fun c o x =>
    Heap.get?_push_of_some _ (Heap.get?_push_of_some _ (Heap.get?_push_of_some _ (Heap.get?_push_of_some _ (Heap.get?_push_of_some _ x))))⟩
theorem zip_no_len : typeLookup (.type "zip") "__len__" = pure none := by rw [typeLookup_type, builtinLookup_eq_fast]; kernel_rfl
theorem zip_no_hint : typeLookup (.type "zip") "__length_hint__" = pure none := by rw [typeLookup_type, builtinLookup_eq_fast]; kernel_rfl
end
section
variable {prog : Program} {w : World} {A : Around} {E : Value → Shared → Prop} {s : Shared} {z TI TO i1 i2 l1 l2 : Addr} {xs ys : Array Value}
/-- list(z) of a zip of a tuple and a list that has not begun -/
theorem call_list_zipM {Q : Value → Shared → Prop} (hh : A.handled = none) (Sp : ZipSep2 z TI TO i1 i2 [i1, l1] [i2, l2]) (n1 : l1 ≠ i1) (n2 : l2 ≠ i2) (hn : min xs.size ys.size ≤ 1000000)
    (hz : IsZip s.heap z TI TO .none) (hTI : IsTupOf2 s.heap TI (.ref i1) (.ref i2)) (hTO : IsTupOf2 s.heap TO .none .none) (h1 : s.heap.IsTupleIter i1 l1 0) (h2 : s.heap.IsListIter i2 l2 0) (hl1 : s.heap.IsTuple l1 xs) (hl2 : s.heap.IsList l2 ys)
    (hQ : ∀ h' tk, ZEnd z TO i1 i2 s.heap.objs.size (s.heap.objs.size + 1) (fun i v => xs[i]? = some v) (fun i v => ys[i]? = some v) s.heap (min xs.size ys.size) h' → Q (.ref s.heap.objs.size) { s with heap := h', toks := tk }) :
    wpAny (model prog w) A (call (.type "list") [.ref z]) Q E s := by
  obtain ⟨hp, g, d, tk0, os⟩ := s
  replace hz : IsZip hp z TI TO .none := hz
  replace hTI : IsTupOf2 hp TI (.ref i1) (.ref i2) := hTI
  replace hTO : IsTupOf2 hp TO .none .none := hTO
  replace h1 : hp.IsTupleIter i1 l1 0 := h1
  replace h2 : hp.IsListIter i2 l2 0 := h2
  replace hl1 : hp.IsTuple l1 xs := hl1
  replace hl2 : hp.IsList l2 ys := hl2
  have lz : z < hp.objs.size := Heap.lt_size hz
  have lTI : TI < hp.objs.size := Heap.lt_size hTI
  have lTO : TO < hp.objs.size := Heap.lt_size hTO
  have li1 : i1 < hp.objs.size := by obtain ⟨_, e, _⟩ := h1; exact Heap.lt_size e
  have li2 : i2 < hp.objs.size := by obtain ⟨_, e, _⟩ := h2; exact Heap.lt_size e
  have ll1 : l1 < hp.objs.size := by obtain ⟨_, e, _⟩ := hl1; exact Heap.lt_size e
  have ll2 : l2 < hp.objs.size := by obtain ⟨_, e, _⟩ := hl2; exact Heap.lt_size e
  have hSz : hp.objs.size ≠ z := Nat.ne_of_gt lz
  refine callType_codes (s := ⟨hp, g, d, tk0, os⟩) (Q₁ := fun obj s₁ => obj = .ref hp.objs.size ∧ s₁ = ⟨hp.push { cls := .type "list", data := .seq #[] }, g, d, tk0, os⟩) F.called_list (F.typeCall_list_1 _) F.entry_list_init
    (code_list_new _ ⟨rfl, rfl⟩) fun obj s₁ h₁ => ?_
  obtain ⟨rfl, rfl⟩ := h₁
  have hS : (hp.push { cls := .type "list", data := .seq #[] }).get? hp.objs.size = some { cls := .type "list", data := .seq #[] } := Heap.get?_push_size _ rfl
  refine ⟨⟨_, hS, rfl⟩, F.args_list_init_2 _ _, ?_⟩
  show wpAny _ A.in1.in1 (do let old ← Builtin.List.listItems (.ref hp.objs.size); Builtin.List.listUpdate (.ref hp.objs.size) (fun _ => #[]); letGo old.toList.reverse; Builtin.List.listExtendWith (.ref hp.objs.size) (.ref z) .none) _ _ _
  refine wpAny_bind ?_
  unfold Builtin.List.listItems
  refine wpAny_bind (wpAny_seqItems hS rfl (wpAny_pure ?_))
  show wpAny _ A.in1.in1 (updateSeq hp.objs.size (fun _ => #[]) >>= fun _ => letGo (#[] : Array Value).toList.reverse >>= fun _ => Builtin.List.listExtendWith (.ref hp.objs.size) (.ref z) .none) _ _ _
  refine wpAny_bind (wpAny_updateSeq hS rfl ?_)
  have hS2 := Heap.get?_update_self (Obj.mapSeq (fun _ => (#[] : Array Value))) hS rfl
  refine wpAny_bind (wpAny_letGo ?_)
  unfold Builtin.List.listExtendWith
  have up : ∀ (h : Heap) (f : Obj → Obj), (∀ b o, hp.get? b = some o → h.get? b = some o) → ∀ b o, hp.get? b = some o → (h.update hp.objs.size f).get? b = some o := fun h f q b o e =>
    (Heap.get?_update_other _ _ (Ne.symm (Nat.ne_of_lt (Heap.lt_size e)))).trans (q b o e)
  have k1 : ∀ b o, hp.get? b = some o → (hp.push { cls := .type "list", data := .seq #[] }).get? b = some o := fun b o e => Heap.get?_push_of_some _ e
  have k2 := up _ (Obj.mapSeq (fun _ => (#[] : Array Value))) k1
  have zty : ∀ {h : Heap} {g : Array GenState} {d : Drawn} {tk : Nat} {os : OsState}, (∀ b o, hp.get? b = some o → h.get? b = some o) → (⟨h, g, d, tk, os⟩ : Shared).TypeIs (.ref z) "zip" := fun {h g d tk os} q => ⟨_, q z _ hz, rfl⟩
  refine wpAny_bind (wpAny_typeOf (zty k2) ?_)
  have e1 : Builtin.List.listSameRef (.ref hp.objs.size) (.ref z) = false := by simp [Builtin.List.listSameRef, hSz]
  have e2 : (Value.type "zip" == Value.type "list") = false := by decide
  have e3 : (Value.type "zip" == Value.type "tuple") = false := by decide
  simp only [e1, e2, e3, Bool.or_false, Bool.false_eq_true, if_false]
  refine wpAny_bind (wpAny_pyIter_zip (s := ⟨_, g, d, tk0, os⟩) (k2 z _ hz) ?_)
  refine wpAny_bind (wpAny_holding ?_)
  unfold Builtin.List.listLengthHint
  refine wpAny_bind (wpAny_specialOf (zty k2) zip_no_len ?_)
  show wpAny _ A.in1.in1 (specialOf (Value.ref z) (Str.ofString "__length_hint__") >>= _) _ _ _
  refine wpAny_bind (wpAny_specialOf (zty k2) zip_no_hint ?_)
  refine wpAny_pure ?_
  show wpAny _ A.in1.in1 (rule "list.extend.makes-room" >>= fun _ => Builtin.List.listTouch (.ref hp.objs.size) >>= fun _ =>
    again (.builtin "list.extend.loop" ⟨[.ref hp.objs.size, .ref z, .none], []⟩)) _ _ _
  refine wpAny_bind (wpAny_rule ?_)
  refine wpAny_bind ?_
  show wpAny _ A.in1.in1 (updateSeq hp.objs.size (·.push .none) >>= fun _ => updateSeq hp.objs.size (·.pop)) _ _ _
  refine wpAny_bind (wpAny_updateSeq hS2 rfl ?_)
  have hS3 := Heap.get?_update_self (Obj.mapSeq (·.push Value.none)) hS2 rfl
  refine wpAny_updateSeq (hz := by seq_fits) hS3 rfl ?_
  have hS4 := Heap.get?_update_self (Obj.mapSeq (·.pop)) hS3 rfl
  have k4 := up _ (Obj.mapSeq (·.pop)) (up _ (Obj.mapSeq (·.push Value.none)) k2)
  refine wpAny_pure ⟨plainId_quiet F.plain_extend_loop _, ?_⟩
  refine zdrain (A := A.in1) (base := hp.objs.size + 1) (h0 := hp) Sp (Draws.tuple (A := A.in1.in1.in1) hh i1 l1 n1 xs) (Draws.list (A := A.in1.in1.in1) hh i2 l2 n2 ys) ?_ ?_ hSz (Nat.ne_of_gt lTI) (Nat.ne_of_gt lTO) ?_ hn
    (fun h' tk q => ⟨rfl, hQ h' tk q⟩) _ 0 _ _ rfl (Nat.zero_le _) ?_
  · simp only [List.mem_cons, List.not_mem_nil, or_false, not_or]
    exact ⟨Nat.ne_of_gt li1, Nat.ne_of_gt ll1⟩
  · simp only [List.mem_cons, List.not_mem_nil, or_false, not_or]
    exact ⟨Nat.ne_of_gt li2, Nat.ne_of_gt ll2⟩
  · rintro b (rfl | rfl | rfl | rfl | rfl | rfl)
    all_goals first
      | exact Nat.lt_succ_of_lt lz
      | exact Nat.lt_succ_of_lt lTI
      | exact Nat.lt_succ_of_lt lTO
      | exact Nat.lt_succ_of_lt li1
      | exact Nat.lt_succ_of_lt li2
      | exact Nat.lt_succ_self _
  · refine ⟨.inl ⟨rfl, k4 _ _ hz⟩, k4 _ _ hTI, ⟨_, _, k4 _ _ hTO⟩, ⟨h1.at fun o e => k4 _ _ e, hl1.at fun o e => k4 _ _ e⟩, ⟨h2.at fun o e => k4 _ _ e, hl2.at fun o e => k4 _ _ e⟩, ?_, ⟨fun j hj => absurd hj (Nat.not_lt_zero _), ⟨_, _, hS4, rfl, fun j v hj => by simp at hj⟩, fun b o _ _ _ _ _ e => k4 b o e⟩⟩
    simp only [Heap.size_update, Heap.size_push, Nat.add_zero]
end
theorem neN {c b : Nat} (h : c < b ∨ b < c) : c ≠ b := by omega
def lays (H : Hp) : Nat → List (V × V) → Hp
  | _, [] => H
  | b, (x, y) :: r => lays (upd H b (.tup [x, y])) (b + 1) r
def refsV (b n : Nat) : List V := (List.range' b n).map V.ref
theorem lays_out : ∀ (ps : List (V × V)) (H : Hp) (b c : Nat), c < b ∨ b + ps.length ≤ c → lays H b ps c = H c
  | [], _, _, _, _ => rfl
  | (x, y) :: r, H, b, c, h => by
    simp only [lays]
    rw [List.length_cons] at h
    rw [lays_out r _ _ _ (by omega), upd_ne (neN (by omega))]
theorem more_laid {P : Program} {w : World} {fs : List Addr} {H H' : Hp} {h h' : Heap} {a : Addr} {o : HO} (hp : h.objs.size ≤ a) (hn : H' a = none) (u : Un fs [] H H' h h') (k : HOk P w H' h') (new : ObjOk P w (upd H' a o) h' a o) :
    Un fs [] H (upd H' a o) h h' ∧ HOk P w (upd H' a o) h' := by
  have lt : ∀ b ob, h.get? b = some ob → b ≠ a := fun b ob q => Nat.ne_of_lt (Nat.lt_of_lt_of_le (Heap.lt_size q) hp)
  refine ⟨⟨u.keep, u.slot, fun b ob q n hx => ?_, u.there, fun b xs q => ?_, fun b ob y q => ?_, fun b qs q => ?_⟩, fun b v q => ?_⟩
  · rw [upd_ne (lt b ob q)]
    exact u.free b ob q n hx
  · have q2 := u.tups b xs q
    rw [upd_ne (ne_of_none q2 hn)]
    exact q2
  · have q2 := u.frzs b ob y q
    rw [upd_ne (ne_of_none q2 hn)]
    exact q2
  · obtain ⟨more, q2⟩ := u.tbls b qs q
    exact ⟨more, by rw [upd_ne (ne_of_none q2 hn)]; exact q2⟩
  · by_cases hb : b = a
    · subst hb
      rw [upd_same] at q
      cases q
      exact new
    · rw [upd_ne hb] at q
      exact (k b v q).stay (fun _ _ _ z => z) (fun d z => by rw [upd_ne (ne_of_none z hn)]; exact z) fun d xs z => by rw [upd_ne (ne_of_none z hn)]; exact z
theorem lays_ok {P : Program} {w : World} {fs : List Addr} {H : Hp} {h h' : Heap} : ∀ (ps : List (V × V)) (H' : Hp) (b : Nat), h.objs.size ≤ b → (∀ c : Nat, b ≤ c → H' c = none) → Un fs [] H H' h h' → HOk P w H' h' → (∀ j p, ps[j]? = some p → ∃ x y, RelV p.1 x ∧ RelV p.2 y ∧ IsTupOf2 h' (b + j) x y) →
    Un fs [] H (lays H' b ps) h h' ∧ HOk P w (lays H' b ps) h'
  | [], H', b, _, _, u, k, _ => ⟨u, k⟩
  | (x, y) :: r, H', b, hb, hn, u, k, ht => by
    obtain ⟨x', y', r1, r2, e⟩ := ht 0 (x, y) rfl
    obtain ⟨u2, k2⟩ := more_laid (o := .tup [x, y]) hb (hn b (Nat.le_refl _)) u k ⟨(show 2 ≤ sizeLine by decide), [x', y'], .cons r1 (.cons r2 .nil), ⟨_, e, rfl, _, rfl⟩⟩
    simp only [lays]
    refine lays_ok r _ (b + 1) (Nat.le_succ_of_le hb) (fun c hc => ?_) u2 k2 fun j p hj => ?_
    · rw [upd_ne (neN (.inr (Nat.lt_of_succ_le hc)))]
      exact hn c (Nat.le_of_succ_le hc)
    · have := ht (j + 1) p (by simpa using hj)
      rw [show b + 1 + j = b + (j + 1) by omega]
      exact this
section
variable {X : Cx} {W : Wd} {ρ : List Sl} {pos : Pos} {a b c e : Expr}
def tListZipM (K : PySem.W.Frag) (ta : TA) : TE := fun σ H Q => ta σ H fun vs H1 => ∃ (l1 l2 : Addr) (xs ys : List V), vs = [.ref l1, .ref l2] ∧ SqT K H1 l1 xs ∧ SqL K H1 l2 ys ∧ min xs.length ys.length ≤ 1000000 ∧
  ∀ S : Nat, (∀ c : Nat, S ≤ c → H1 c = none) → Q (.ref S) (upd (lays H1 (S + 1) (xs.zip ys)) S (.lst (refsV (S + 1) (xs.zip ys).length)))
theorem refsV_get (b n j : Nat) (h : j < n) : (refsV b n)[j]? = some (V.ref (b + j)) := by
  unfold refsV
  rw [List.getElem?_map, List.getElem?_range' h, Option.map_some, Nat.one_mul]
theorem refsV_len (b n : Nat) : (refsV b n).length = n := by simp [refsV]
theorem zsep_of {N l1 l2 : Nat} (h1 : l1 < N) (h2 : l2 < N) : ZipSep2 (N + 4) (N + 2) (N + 3) N (N + 1) [N, l1] [N + 1, l2] := by
  constructor
  all_goals first
    | (simp only [List.mem_cons, List.not_mem_nil, or_false, not_or]; omega)
    | omega
    | simp
  all_goals first
    | exact Nat.ne_of_gt (Nat.lt_of_lt_of_le h1 (Nat.le_add_right _ _))
    | exact Nat.ne_of_gt (Nat.lt_of_lt_of_le h2 (Nat.le_add_right _ _))
    | exact Nat.ne_of_gt h2
theorem keep_of {N S : Nat} {b : Nat} (h : b < N) (hS : N ≤ S) : b ≠ S ∧ b ≠ N + 4 ∧ b ≠ N + 3 ∧ b ≠ N ∧ b ≠ N + 1 := by omega
theorem pe_listZipM {p p2 q : Pos} {ta : TA} (hg : Gl X "list") (hm : X.mg "list" = none) (hg2 : Gl X "zip") (hm2 : X.mg "zip" = none) (ha : PA X [a, b] ta) (hc : X.calm = true)
    (hs : starEach [a, b] X.env = (false, eval a X.env) :: starEach [b] X.env) (hpl : (backTo q (starEach [b] X.env)).any (·.1) = false)
    (n2 : (starEach [.Call (.Name "zip" p2) [a, b] [] q] X.env) = (false, eval (.Call (.Name "zip" p2) [a, b] [] q) X.env) :: starEach [] X.env) : PE X (.Call (.Name "list" p) [.Call (.Name "zip" p2) [a, b] [] q] [] pos) (tListZipM X.K ta) := by
  refine ⟨fun pins s σ H Q I h => ?_⟩
  refine Call_ (ld_blt I hg hm boot_list ?_)
  refine PyProof.Rows.callWith_type1 (PyProof.Rows.args_cons ?_ n2) n2 rfl
  refine Call_ (ld_blt I hg2 hm2 boot_zip (PyProof.Rows.callWith_type1 (thn (ha.run q pins s σ H _ I h) fun us s1 ⟨vs, H1, I1, r1, q1⟩ => ?_) hs hpl))
  obtain ⟨l1, l2, xs, ys, e, t1, t2, hn, q1⟩ := q1
  subst e
  cases r1 with
  | cons r rr =>
  cases rr with
  | cons r' rr =>
    cases rr
    cases r
    cases r'
    obtain ⟨its1, v1, p1, z1⟩ := I1.tuple t1
    obtain ⟨its2, v2, p2, z2⟩ := I1.list t2
    have f1 : s1.heap.IsTuple l1 its1.toArray := p1
    have f2 : s1.heap.IsList l2 its2.toArray := p2.isList
    have ll1 : l1 < s1.heap.objs.size := by obtain ⟨_, e, _⟩ := f1; exact Heap.lt_size e
    have ll2 : l2 < s1.heap.objs.size := by obtain ⟨_, e, _⟩ := f2; exact Heap.lt_size e
    refine call_zipM f1 f2 fun h2 hz hTI hTO h1' h2' hsz hk => ?_
    refine PyProof.Rows.args_nil ?_
    obtain ⟨N, hN⟩ : ∃ N, N = s1.heap.objs.size := ⟨_, rfl⟩
    rw [← hN] at hz hTI hTO h1' h2' hsz ll1 ll2 ⊢
    have hmin : min its1.toArray.size its2.toArray.size = (xs.zip ys).length := by
      rw [List.length_zip, v1.length, v2.length]
      rfl
    have hle : (xs.zip ys).length ≤ 1000000 := by rw [List.length_zip]; exact hn
    refine call_list_zipM (s := { s1 with heap := h2 }) (z := N + 4) (TI := N + 2) (TO := N + 3) (i1 := N) (i2 := N + 1) (l1 := l1) (l2 := l2) (xs := its1.toArray) (ys := its2.toArray) (I1.ok.hd hc) (zsep_of ll1 ll2) (Nat.ne_of_lt ll1) (Nat.ne_of_lt (Nat.lt_succ_of_lt ll2)) (by rw [hmin]; exact hle) hz hTI hTO h1' h2'
      (f1.at fun o e => hk _ _ e) (f2.at fun o e => hk _ _ e) fun h' tk zE => ?_
    · replace zE : ZEnd (N + 4) (N + 3) N (N + 1) h2.objs.size (h2.objs.size + 1) (fun i v => its1.toArray[i]? = some v) (fun i v => its2.toArray[i]? = some v) h2 (min its1.toArray.size its2.toArray.size) h' := zE
      rw [hmin] at zE
      have keep : ∀ b o, s1.heap.get? b = some o → h'.get? b = some o := fun b o e => by
        have lt : b < N := by rw [hN]; exact Heap.lt_size e
        obtain ⟨k1, k2, k3, k4, k5⟩ := keep_of lt (show N ≤ h2.objs.size by rw [hsz]; exact Nat.le_add_right _ _)
        exact zE.keep b o k1 k2 k3 k4 k5 (hk b o e)
      have hS : s1.heap.objs.size ≤ h2.objs.size := by rw [hsz, hN]; exact Nat.le_add_right _ _
      have fr : ∀ c : Nat, h2.objs.size ≤ c → H1 c = none := fun c hc => I1.hok.fresh (Nat.le_trans hS hc)
      have pr := lays_ok (P := X.prog) (w := X.w) (fs := X.fs) (H := H1) (h := s1.heap) (h' := h') (xs.zip ys) H1 (h2.objs.size + 1) (Nat.le_succ_of_le hS) (fun c hc => fr c (Nat.le_of_succ_le hc)) (Un.kept keep) (I1.hok.kept keep) fun j p hj => ?_
      · obtain ⟨acc, cc, e1, e2, e3⟩ := zE.lst
        have hv : Vals (refsV (h2.objs.size + 1) (xs.zip ys).length) acc.toList := by
          rw [← e2, ← Array.length_toList]
          have ge : ∀ (j : Nat) (u : Value), acc.toList[j]? = some u → ∃ x, (refsV (h2.objs.size + 1) acc.toList.length)[j]? = some x ∧ RelV x u := fun j u hj => by
            have hlt : j < acc.toList.length := (List.getElem?_eq_some_iff.mp hj).1
            have := e3 j u (by rw [← hj, Array.getElem?_toList])
            subst this
            exact ⟨_, refsV_get _ _ _ hlt, rfl⟩
          have aux : ∀ (l : List Value) (b : Nat), (∀ (j : Nat) (u : Value), l[j]? = some u → ∃ x, (refsV b l.length)[j]? = some x ∧ RelV x u) → Vals (refsV b l.length) l := by
            intro l
            induction l with
            | nil => intro b _; exact .nil
            | cons u l ih =>
              intro b hh
              have e0 : refsV b (u :: l).length = V.ref b :: refsV (b + 1) l.length := by
                unfold refsV
                rw [List.length_cons, List.range'_succ, List.map_cons]
              rw [e0] at hh ⊢
              obtain ⟨x, hx, rx⟩ := hh 0 u rfl
              simp at hx
              subst hx
              exact .cons rx (ih (b + 1) fun j u' hj => by simpa using hh (j + 1) u' (by simpa using hj))
          exact aux _ _ ge
        obtain ⟨u2, k2⟩ := more_laid (a := h2.objs.size) (o := .lst (refsV (h2.objs.size + 1) (xs.zip ys).length)) hS (by rw [lays_out _ _ _ _ (.inl (Nat.lt_succ_self _))]; exact fr _ (Nat.le_refl _)) pr.1 pr.2
          ⟨by rw [refsV_len, sizeLine_eq]; omega, acc.toList, cc, hv, by rw [Array.toArray_toList]; exact e1⟩
        exact ⟨.ref h2.objs.size, _, I1.un (t' := tk) u2 k2, rfl, q1 _ fr⟩
      · rw [List.getElem?_zip_eq_some] at hj
        obtain ⟨j1, j2⟩ := hj
        have lt : j < (xs.zip ys).length := by
          rw [List.length_zip]
          have a1 := (List.getElem?_eq_some_iff.mp j1).1
          have a2 := (List.getElem?_eq_some_iff.mp j2).1
          exact Nat.lt_min.mpr ⟨a1, a2⟩
        obtain ⟨x, y, g1, g2, g3⟩ := zE.tups j lt
        obtain ⟨x', w1, w2⟩ := v1.get j1
        obtain ⟨y', w3, w4⟩ := v2.get j2
        rw [List.getElem?_toArray, w1] at g1
        rw [List.getElem?_toArray, w3] at g2
        cases g1
        cases g2
        exact ⟨_, _, w2, w4, g3⟩
end
theorem lays_lay {X : Cx} {W : Wd} {ρ : List Sl} {σ : L2.St} {K : PySem.W.Frag} : ∀ (vs us : List V) (ds es : List PyData) (B H : Hp) (b : Nat), Lay K W B H σ ρ → (∀ c : Nat, b ≤ c → H c = none) → DqAll K B vs ds → DqAll K B us es →
    ∃ B', Same B B' ∧ Lay K W B' (lays H b (vs.zip us)) σ ρ ∧ DqAll K B' (refsV b (vs.zip us).length) (zipD ds es)
  | [], us, _, es, B, H, b, L, _, .nil, _ => ⟨B, Same.refl _, L, .nil⟩
  | v :: vs, [], _, _, B, H, b, L, _, .cons _ _, .nil => ⟨B, Same.refl _, L, .nil⟩
  | v :: vs, u :: us, _, _, B, H, b, L, hn, .cons (d := d) (ds := ds) h1 h2, .cons (d := e) (ds := es) h3 h4 => by
    obtain ⟨s1, L1⟩ := L.fresh (hn b (Nat.le_refl _)) (.tup [v, u])
    obtain ⟨B', s2, L2, D2⟩ := lays_lay (X := X) vs us ds es _ _ (b + 1) L1 (fun c hc => by rw [upd_ne (neN (.inr (Nat.lt_of_succ_le hc)))]; exact hn c (Nat.le_of_succ_le hc)) (dpAllMono s1 _ _ h2) (dpAllMono s1 _ _ h4)
    refine ⟨B', s1.trans s2, L2, ?_⟩
    have e0 : refsV b ((v :: vs).zip (u :: us)).length = V.ref b :: refsV (b + 1) (vs.zip us).length := by
      unfold refsV
      rw [List.zip_cons_cons, List.length_cons, List.range'_succ, List.map_cons]
    rw [e0]
    refine .cons (.tup (SqT.of (s2 _ _ upd_same)) (.cons (dpMono (s1.trans s2) _ _ h1) (.cons (dpMono (s1.trans s2) _ _ h3) .nil))) D2
section
variable {X : Cx} {W : Wd} {ρ : List Sl} {pos : Pos} {a b c e : Expr}
/-- list(zip(a, b)) of a tuple and a list -/
theorem el_listZipM {p p2 q : Pos} {R : List PyData → Prop} (hc : X.calm = true) (hm : X.mg "list" = none) (hm2 : X.mg "zip" = none)
    (h : Ea X W [a, b] ρ fun ds => match ds with | [.tuple xs, .list ys] => min xs.length ys.length ≤ 1000000 ∧ R (zipD xs ys) | _ => False) (hg : Gl X "list" := by rfl) (hg2 : Gl X "zip" := by rfl)
    (hs : starEach [a, b] X.env = (false, eval a X.env) :: starEach [b] X.env := by rfl) (hpl : (backTo q (starEach [b] X.env)).any (·.1) = false := by rfl)
    (n2 : (starEach [.Call (.Name "zip" p2) [a, b] [] q] X.env) = (false, eval (.Call (.Name "zip" p2) [a, b] [] q) X.env) :: starEach [] X.env := by rfl) :
    El X W (.Call (.Name "list" p) [.Call (.Name "zip" p2) [a, b] [] q] [] pos) ρ R := by
  refine ⟨fun σ H B Q L k => (pe_listZipM hg hm hg2 hm2 pa_w hc hs hpl n2).toZ ?_⟩
  refine h.run σ H B _ L fun vs H1 B1 ds s1 L1 D1 h2 => ?_
  match ds, D1, h2 with
  | [.tuple xs, .list ys], .cons d1 (.cons d2 .nil), ⟨h3, h4⟩ =>
    obtain ⟨l1, us, rfl, e1, e2⟩ := dp_tup d1
    obtain ⟨l2, ws, rfl, e3, e4⟩ := dp_list d2
    refine ⟨l1, l2, us, ws, rfl, seqT L1.gr.sub e1, SqL.of (L1.gr.sub _ _ e3), by rw [dpAll_len e2, dpAll_len e4]; exact h3, fun S hn => ?_⟩
    obtain ⟨B2, s2, L2, D2⟩ := lays_lay (X := X) us ws xs ys B1 H1 (S + 1) L1 (fun c hc => hn c (Nat.le_of_succ_le hc)) e2 e4
    have hS : lays H1 (S + 1) (us.zip ws) S = none := by
      rw [lays_out _ _ _ _ (.inl (Nat.lt_succ_self _))]
      exact hn S (Nat.le_refl _)
    obtain ⟨L', q1, q2, q3, q4⟩ := fresh_own L2 hS (zipD xs ys) _ D2
    exact k S _ _ B2 _ (s1.trans s2) L' q1 q2 q3 q4 D2 h4
end
end Z

/-! instances of own classes: fields are plain data; methods that read, methods that change -/
namespace Z
open PySem PySem.Spec PyProof.Rows L2
def minus (H : Hp) (a : Addr) : Hp := fun b => if b = a then none else H b
theorem minus_ne {H : Hp} {a b : Addr} (h : b ≠ a) : minus H a b = H b := if_neg h
theorem minus_at {H : Hp} {a : Addr} : minus H a a = none := if_pos rfl
theorem minus_some {H : Hp} {a b : Addr} {o : HO} (h : minus H a b = some o) : b ≠ a ∧ H b = some o := by
  unfold minus at h
  split at h
  · cases h
  · exact ⟨by assumption, h⟩
/-- data under a name -/
def getD' (f : Str) (fs : List (Str × PyData)) : Option PyData := fs.lookup f
def putD (f : Str) (v : PyData) : List (Str × PyData) → List (Str × PyData)
  | [] => [(f, v)]
  | (g, x) :: r => if g = f then (g, v) :: r else (g, x) :: putD f v r
section
variable {K : PySem.W.Frag} {B B' H H' : Hp} {W : Wd} {σ : L2.St} {ρ : List Sl}
theorem fsd_put {f : Str} {v : V} {d : PyData} (hd : Dq K B v d) : ∀ {fv : List (Str × V)} {fs : List (Str × PyData)}, FsD K B fv fs → FsD K B (putF f v fv) (putD f d fs)
  | _, _, .nil => .cons ⟨rfl, hd⟩ .nil
  | (g, x) :: r, (g', y) :: r', .cons h t => by
    obtain ⟨h1, h2⟩ := h
    have h1 : g = g' := h1
    subst h1
    show FsD K B (if g = f then (g, v) :: r else (g, x) :: putF f v r) (if g = f then (g, d) :: r' else (g, y) :: putD f d r')
    by_cases e : g = f
    · rw [if_pos e, if_pos e]
      exact .cons ⟨rfl, hd⟩ t
    · rw [if_neg e, if_neg e]
      exact .cons ⟨rfl, h2⟩ (fsd_put hd t)
theorem fsd_look {f : Str} : ∀ {fv : List (Str × V)} {fs : List (Str × PyData)}, FsD K B fv fs → (fv.lookup f = none ∧ fs.lookup f = none) ∨ ∃ v d, fv.lookup f = some v ∧ fs.lookup f = some d ∧ Dq K B v d
  | _, _, .nil => .inl ⟨rfl, rfl⟩
  | (g, x) :: r, (g', y) :: r', .cons h t => by
    obtain ⟨h1, h2⟩ := h
    have h1 : g = g' := h1
    subst h1
    cases e : (f == g) with
    | true =>
      refine .inr ⟨x, y, ?_, ?_, h2⟩
      · rw [List.lookup_cons, e]
      · rw [List.lookup_cons, e]
    | false =>
      rw [List.lookup_cons, List.lookup_cons, e]
      exact fsd_look t
theorem fsd_len {fv : List (Str × V)} {fs : List (Str × PyData)} (h : FsD K B fv fs) : fv.length = fs.length := Paired.length h
/-- slot i holds an instance -/
def ObAt (ρ : List Sl) (i : Nat) (a dx C : Addr) (fs : List (Str × PyData)) : Prop := ρ[i]? = some (.obj a dx C fs) ∨ ρ[i]? = some (.obk a dx C fs)
theorem ObAt.of (L : Lay K W B H σ ρ) {i : Nat} {a dx C : Addr} {fs : List (Str × PyData)} (h : ObAt ρ i a dx C fs) : ∃ fv, σ[i]? = some (some (.ref a)) ∧ True ∧ H a = some (.ins C dx fv) ∧ FsD K B fv fs := by
  rcases h with h | h
  · obtain ⟨fv, h1, h2, h3, h4, h5⟩ := L.at' i _ h
    exact ⟨fv, h1, trivial, h4, h5⟩
  · obtain ⟨fv, h1, h2, h5⟩ := L.at' i _ h
    exact ⟨fv, h1, trivial, h2.elim (L.gr.sub _ _) (fun h => L.gr.keep a _ h.1 h.2), h5⟩
/-- behind a call that may have changed the instance in slot i -/
theorem Lay.objd (L : Lay K W B H σ ρ) {i : Nat} {a dx C : Addr} {fs fs' : List (Str × PyData)} {fv' : List (Str × V)} (hρ : ρ[i]? = some (.obj a dx C fs)) (g : Gr K ⟨none, (0, []), B, minus H a⟩ B' H') (h1 : H' a = some (.ins C dx fv')) (h2 : B' a = none) (h3 : FsD K B' fv' fs') :
    Same B B' ∧ Lay K W B' H' σ (ρ.set i (.obj a dx C fs')) := by
  obtain ⟨fv, g1, g2, g3, g4, g5⟩ := L.at' i _ hρ
  have il : i < ρ.length := (List.getElem?_eq_some_iff.mp hρ).1
  have tna : ∀ T, W.T = some T → T ≠ a := fun T h e => (L.gr.tp T h).1 (by rw [e]; exact g3)
  refine ⟨g.base, ⟨⟨g.sub, L.gr.base.trans g.base, fun x q1 q2 => ?_, fun x o q1 q2 => ?_, fun T h => ?_⟩, by rw [List.length_set]; exact L.len, fun j sl e => ?_, fun j k s t hne e1 e2 o1 o2 => ?_⟩⟩
  · have hx : x ≠ a := fun e => q1 (by rw [e]; exact g3)
    have hb := L.gr.new x q1 q2
    by_cases ht : W.T = some x
    · obtain ⟨_, t1, i', c', e', _⟩ := L.gr.tp x ht
      exact g.new x (by show minus H a x ≠ none; rw [minus_ne hx, e']; exact fun z => by cases z) hb
    · cases q : W.H0 x with
      | none => exact absurd q q1
      | some o =>
        have := L.gr.keep x o q ht
        exact g.new x (by show minus H a x ≠ none; rw [minus_ne hx, this]; exact fun z => by cases z) hb
  · have hx : x ≠ a := fun e => by rw [e, g3] at q1; cases q1
    exact g.keep x o (by show minus H a x = some o; rw [minus_ne hx]; exact L.gr.keep x o q1 q2) (fun z => by cases z)
  · obtain ⟨t0, tp⟩ := L.gr.tp T h
    obtain ⟨t1, i', c', e', _⟩ := id tp
    have hT := tna T h
    refine ⟨t0, tp.mono g.base (g.new T (by show minus H a T ≠ none; rw [minus_ne hT, e']; exact fun z => by cases z) t1) fun u hu => g.keep T u (by show minus H a T = some u; rw [minus_ne hT]; exact hu) (fun z => by cases z)⟩
  · by_cases hj : i = j
    · subst hj
      rw [List.getElem?_set_self il] at e
      cases e
      exact ⟨fv', g1, h2, g3, h1, h3⟩
    · rw [List.getElem?_set_ne hj] at e
      refine (L.at' j sl e).grow g.base fun b o hx ho hb h0 hH => ?_
      have hba : b ≠ a := by
        rintro rfl
        exact L.dis i j _ _ hj hρ e rfl ho (g1.trans hx.symm)
      exact ⟨g.new b (by show minus H a b ≠ none; rw [minus_ne hba, hH]; exact fun z => by cases z) hb, g.keep b o (by show minus H a b = some o; rw [minus_ne hba]; exact hH) (fun z => by cases z)⟩
  · have back : ∀ (j : Nat) (s : Sl), (ρ.set i (.obj a dx C fs'))[j]? = some s → s.ow = true → ∃ s', ρ[j]? = some s' ∧ s'.ow = true := fun j s e o => by
      by_cases hj : i = j
      · subst hj
        exact ⟨_, hρ, rfl⟩
      · rw [List.getElem?_set_ne hj] at e
        exact ⟨s, e, o⟩
    obtain ⟨s', a1, a2⟩ := back j s e1 o1
    obtain ⟨t', b1, b2⟩ := back k t e2 o2
    exact L.dis j k s' t' hne a1 b1 a2 b2
/-- a fresh instance is put into slot i -/
theorem Lay.putObj (L : Lay K W B H σ ρ) {i : Nat} {a dx C : Addr} {fs : List (Str × PyData)} {fv : List (Str × V)} (hl : i < ρ.length) (h1 : B a = none) (h2 : W.H0 a = none) (h3 : H a = some (.ins C dx fv)) (h4 : FsD K B fv fs)
    (h5 : ∀ (j : Nat) (sl : Sl), ρ[j]? = some sl → sl.ow = true → σ[j]? ≠ some (some (.ref a))) : Lay K W B H (σ.set i (some (.ref a))) (ρ.set i (.obj a dx C fs)) := by
  have hs : i < σ.length := by rw [L.len]; exact hl
  refine ⟨L.gr, by simp [L.len], fun j sl e => ?_, fun j k s t hne e1 e2 o1 o2 => ?_⟩
  · by_cases hj : i = j
    · subst hj
      rw [List.getElem?_set_self hl] at e
      cases e
      rw [List.getElem?_set_self hs]
      exact ⟨fv, rfl, h1, h2, h3, h4⟩
    · rw [List.getElem?_set_ne hj] at e ⊢
      exact L.at' j sl e
  · by_cases hj : i = j
    · subst hj
      rw [List.getElem?_set_self hs]
      rw [List.getElem?_set_ne hne] at e2 ⊢
      exact fun z => h5 k t e2 o2 z.symm
    · rw [List.getElem?_set_ne hj] at e1 ⊢
      by_cases hk : i = k
      · subst hk
        rw [List.getElem?_set_self hs]
        exact fun z => h5 j s e1 o1 z
      · rw [List.getElem?_set_ne hk] at e2 ⊢
        exact L.dis j k s t hne e1 e2 o1 o2
theorem Gr.less {H1 H2 : Hp} {ns : Addr × List Int} (g : Gr K ⟨none, ns, B, H2⟩ B' H') (h : ∀ a o, H1 a = some o → H2 a = some o) : Gr K ⟨none, ns, B, H1⟩ B' H' :=
  ⟨g.sub, g.base, fun a q1 q2 => g.new a (fun z => by
    have z : H2 a = none := z
    have q1 : H1 a ≠ none := q1
    cases e : H1 a with
    | none => exact q1 e
    | some o => rw [h a o e] at z; cases z) q2, fun a o q1 q2 => g.keep a o (h a o q1) (fun z => by cases z), fun T z => by cases z⟩
end
/-! ### promises -/
def MCon (K : PySem.W.Frag) (C : Addr) (P : List (Str × PyData) → List PyData → (PyData → Prop) → Prop) : Sp := fun vs H Q _ => ∃ B a dx fv fs us ds R, vs = .ref a :: us ∧ Same B H ∧ H a = some (.ins C dx fv) ∧ True ∧ FsD K B fv fs ∧ DqAll K B us ds ∧ P fs ds R ∧
  ∀ v H' B' d, Gr K ⟨none, (0, []), B, H⟩ B' H' → Dq K B' v d → R d → Q v H'
def XCon (K : PySem.W.Frag) (C : Addr) (P : List (Str × PyData) → List PyData → (PyData → List (Str × PyData) → Prop) → Prop) : Sp := fun vs H Q _ => ∃ B a dx fv fs us ds R, vs = .ref a :: us ∧ Same B H ∧ H a = some (.ins C dx fv) ∧ B a = none ∧ FsD K B fv fs ∧ DqAll K B us ds ∧ P fs ds R ∧
  ∀ v H' B' d fs' fv', Gr K ⟨none, (0, []), B, minus H a⟩ B' H' → H' a = some (.ins C dx fv') → B' a = none → FsD K B' fv' fs' → Dq K B' v d → R d fs' → Q v H'
theorem start_slot {ds : List PyData} {n i : Nat} {sl : Sl} (e : (ds.map Sl.im ++ List.replicate n Sl.no)[i]? = some sl) : sl = .no ∨ ∃ d, sl = .im d := by
  have h := List.mem_of_getElem? e
  rcases List.mem_append.mp h with h | h
  · obtain ⟨d, _, rfl⟩ := List.mem_map.mp h
    exact .inr ⟨d, rfl⟩
  · exact .inl (List.mem_replicate.mp h).2
theorem start_obj {K : PySem.W.Frag} {B H H0 : Hp} {N : List Str} {ds : List PyData} {vs : List V} {a : Addr} {sl : Sl} (hN : N ≠ []) (s : Same B H) (hk : ∀ x o, H0 x = some o → H x = some o) (h : DqAll K B vs ds) (hs : SlOk K ⟨none, (0, []), B, H0⟩ B H (some (some (.ref a))) sl) :
    Lay K ⟨none, (0, []), B, H0⟩ B H (L2.start N (V.ref a :: vs)) (sl :: startZ N.tail ds) := by
  have L0 := start_lay (N := N.tail) (T := none) (ns := (0, [])) s (fun _ z => by cases z) h
  have e1 : L2.start N (V.ref a :: vs) = some (V.ref a) :: L2.start N.tail vs := by
    cases N with
    | nil => exact absurd rfl hN
    | cons n N => simp [L2.start]
  rw [e1]
  refine ⟨⟨s, fun _ _ h => h, fun _ _ h => h, fun x o h _ => hk x o h, fun T z => by cases z⟩, by simp [L0.len], fun i sl' e => ?_, fun i j p q hne f1 f2 o1 o2 => ?_⟩
  · cases i with
    | zero =>
      simp at e
      subst e
      exact hs
    | succ i =>
      have e : (startZ N.tail ds)[i]? = some sl' := by simpa using e
      have q := L0.at' i sl' e
      rcases start_slot e with rfl | ⟨d, rfl⟩
      · trivial
      · obtain ⟨v, q1, q2⟩ := q
        exact ⟨v, by simpa using q1, q2⟩
  · cases i with
    | zero =>
      cases j with
      | zero => exact absurd rfl hne
      | succ j =>
        have e : (startZ N.tail ds)[j]? = some q := by simpa using f2
        rcases start_slot e with rfl | ⟨d, rfl⟩ <;> cases o2
    | succ i =>
      have e : (startZ N.tail ds)[i]? = some p := by simpa using f1
      rcases start_slot e with rfl | ⟨d, rfl⟩ <;> cases o1
/-- the body of a method that changes its object -/
def DeM (K : PySem.W.Frag) (W : Wd) (a dx C : Addr) (R : PyData → List (Str × PyData) → Prop) : Ends where
  nx := fun _ H => ∃ B fs fv, Gr K W B H ∧ H a = some (.ins C dx fv) ∧ B a = none ∧ FsD K B fv fs ∧ R .none fs
  rt := fun v H => ∃ B d fs fv, Gr K W B H ∧ H a = some (.ins C dx fv) ∧ B a = none ∧ FsD K B fv fs ∧ Dq K B v d ∧ R d fs
structure Em (X : Cx) (W : Wd) (a dx C : Addr) (st : List Stmt) (ρ : List Sl) (R : PyData → List (Str × PyData) → Prop) : Prop where
  run : ∀ (σ : L2.St) (H B : Hp), Lay X.K W B H σ ρ → tWss X st (DeM X.K W a dx C R) σ H
section
variable {X : Cx} {W : Wd} {ρ : List Sl} {R : PyData → List (Str × PyData) → Prop} {pos : Pos} {e : Expr} {st : Stmt} {sts : List Stmt} {a dx C : Addr} {fs : List (Str × PyData)}
theorem em_cons (h : Es X W st ρ { nx := fun r => Em X W a dx C sts r R, rt := fun _ => False }) : Em X W a dx C (st :: sts) ρ R := by
  refine ⟨fun σ H B L => (pss_cons ps_w pss_w).toZ ?_⟩
  show tWs X st { DeM X.K W a dx C R with nx := fun σ' H' => tWss X sts (DeM X.K W a dx C R) σ' H' } σ H
  intro pins s I
  refine thn (h.run σ H B L pins s I) fun f s' q => ?_
  cases f with
  | next => obtain ⟨σ', H', I', B', ρ', s0, L', q⟩ := q; exact ⟨σ', H', I', q.run σ' H' B' L'⟩
  | brk => obtain ⟨σ', H', I', B', ρ', s0, L', q⟩ := q; exact q.elim
  | cont => obtain ⟨σ', H', I', B', ρ', s0, L', q⟩ := q; exact q.elim
  | ret u => obtain ⟨v, σ', H', I', r, B', d, g, Dv, rr⟩ := q; exact rr.elim
theorem em_nil (i : Nat) (hρ : ρ[i]? = some (.obj a dx C fs)) (h : R .none fs) : Em X W a dx C [] ρ R := by
  refine ⟨fun σ H B L => pss_nil.toZ (D := DeM X.K W a dx C R) ?_⟩
  obtain ⟨fv, g1, g2, g3, g4, g5⟩ := L.at' i _ hρ
  exact ⟨B, fs, fv, L.gr, g4, g2, g5, h⟩
theorem em_ret (i : Nat) (hρ : ρ[i]? = some (.obj a dx C fs)) (h : Ev X W e ρ fun d => R d fs) : Em X W a dx C [.Return (some e) pos] ρ R := by
  refine ⟨fun σ H B L => (pss_one (ps_ret pe_w)).toZ (D := DeM X.K W a dx C R) ?_⟩
  refine h.run σ H B _ L fun v H' B' d s L' Dv r => ?_
  obtain ⟨fv, g1, g2, g3, g4, g5⟩ := L'.at' i _ hρ
  exact ⟨B', d, fs, fv, L'.gr, g4, g2, g5, Dv, r⟩
end
section
variable {P : Program} {w : World} {K : PySem.W.Frag} {mg : Str → Option Value} {base : Heap}
theorem fn_mcon {x qual : Str} {st : Stmt} {f C : Addr} {fd : FuncData} {N ps : List Str} {k : Nat} {P' : List (Str × PyData) → List PyData → (PyData → Prop) → Prop} (F : Fun K x qual st f fd) (S : FnScope N ps (defScope st)) (len : ∀ fs ds R, P' fs ds R → ds.length + 1 = ps.length)
    (body : ∀ (cdv : Value) (A : Around) (outer : List Env) (s : Shared) (H : Hp) (E : XK) (W : Wd) (a dx : Addr) (fs : List (Str × PyData)) (ds : List PyData) (R : PyData → Prop), Room k (Bx P w K mg base N qual (defScope st) f cdv A outer s H E).A → P' fs ds R →
      Ess (Bx P w K mg base N qual (defScope st) f cdv A outer s H E) W (defBody st) (.obk a dx C fs :: startZ N.tail ds) { nx := fun _ => R .none, rt := R }) (hN : N ≠ [] := by simp) : FnOk P w K mg base CX0 (k + 1) f fd ps (MCon K C P') := by
  refine F.ok S (fun vs H Q E h => ?_) (fun cdv A outer s H vs Q E hr h => ?_)
  · obtain ⟨B, a, dx, fv, fs, us, ds, R, rfl, _, _, _, _, h1, h2, _⟩ := h
    rw [List.length_cons, dpAll_len h1]
    exact len fs ds R h2
  · obtain ⟨B, a, dx, fv, fs, us, ds, R, rfl, sB, ha, hb, hf, h1, h2, q⟩ := h
    refine ⟨_, pss_w, ?_⟩
    intro pins s0 I
    have L := start_obj (H0 := H) (sl := .obk a dx C fs) hN sB (fun _ _ z => z) h1 ⟨fv, rfl, .inr ⟨ha, fun z => by cases z⟩, hf⟩
    refine thn ((body cdv A outer s H E ⟨none, (0, []), B, H⟩ a dx fs ds R hr h2).run _ _ _ L pins s0 I) fun fl s' hs => ?_
    cases fl with
    | next => obtain ⟨σ', H', I', B', ρ', s', L', r⟩ := hs; exact ⟨σ', H', I', q .non H' B' .none L'.gr .non r⟩
    | brk => obtain ⟨σ', H', I', B', ρ', s', L', r⟩ := hs; exact r.elim
    | cont => obtain ⟨σ', H', I', B', ρ', s', L', r⟩ := hs; exact r.elim
    | ret u => obtain ⟨v, σ', H', I', r, B', d, g, Dv, rr⟩ := hs; exact ⟨v, σ', H', I', r, q v H' B' d g Dv rr⟩
theorem fn_xcon {x qual : Str} {st : Stmt} {f C : Addr} {fd : FuncData} {N ps : List Str} {k : Nat} {P' : List (Str × PyData) → List PyData → (PyData → List (Str × PyData) → Prop) → Prop} (F : Fun K x qual st f fd) (S : FnScope N ps (defScope st)) (len : ∀ fs ds R, P' fs ds R → ds.length + 1 = ps.length)
    (body : ∀ (cdv : Value) (A : Around) (outer : List Env) (s : Shared) (H : Hp) (E : XK) (W : Wd) (a dx : Addr) (fs : List (Str × PyData)) (ds : List PyData) (R : PyData → List (Str × PyData) → Prop), Room k (Bx P w K mg base N qual (defScope st) f cdv A outer s H E).A → P' fs ds R →
      Em (Bx P w K mg base N qual (defScope st) f cdv A outer s H E) W a dx C (defBody st) (.obj a dx C fs :: startZ N.tail ds) R) (hN : N ≠ [] := by simp) : FnOk P w K mg base CX0 (k + 1) f fd ps (XCon K C P') := by
  refine F.ok S (fun vs H Q E h => ?_) (fun cdv A outer s H vs Q E hr h => ?_)
  · obtain ⟨B, a, dx, fv, fs, us, ds, R, rfl, _, _, _, _, h1, h2, _⟩ := h
    rw [List.length_cons, dpAll_len h1]
    exact len fs ds R h2
  · obtain ⟨B, a, dx, fv, fs, us, ds, R, rfl, sB, ha, hb, hf, h1, h2, q⟩ := h
    refine ⟨_, pss_w, ?_⟩
    intro pins s0 I
    have L := start_obj (H0 := minus H a) (sl := .obj a dx C fs) hN sB (fun _ _ z => (minus_some z).2) h1 ⟨fv, rfl, hb, minus_at, ha, hf⟩
    refine thn ((body cdv A outer s H E ⟨none, (0, []), B, minus H a⟩ a dx fs ds R hr h2).run _ _ _ L pins s0 I) fun fl s' hs => ?_
    cases fl with
    | next => obtain ⟨σ', H', I', B', fs', fv', g, g1, g2, g3, r⟩ := hs; exact ⟨σ', H', I', q .non H' B' .none fs' fv' g g1 g2 g3 .non r⟩
    | brk => obtain ⟨σ', H', I', z⟩ := hs; exact z.elim
    | cont => obtain ⟨σ', H', I', z⟩ := hs; exact z.elim
    | ret u => obtain ⟨v, σ', H', I', r, B', d, fs', fv', g, g1, g2, g3, Dv, rr⟩ := hs; exact ⟨v, σ', H', I', r, q v H' B' d fs' fv' g g1 g2 g3 Dv rr⟩
end
/-! ### fields, methods that read -/
section
variable {X : Cx} {W : Wd} {ρ : List Sl} {R : PyData → Prop} {D : Dz} {pos : Pos} {e : Expr} {es : List Expr} {a dx C : Addr} {fs : List (Str × PyData)}
theorem ev_fld (i : Nat) {x f : Str} {px : Pos} {d : PyData} (hρ : ObAt ρ i a dx C fs) (c : Cls X.K C) (n : NoAttr X.K C f) (hf : fs.lookup f = some d) (h : R d) (hN : X.N[i]? = some x := by rfl) (hv : Vis X.env.scope x := by first | exact Or.inl rfl | exact Or.inr (Or.inl rfl) | exact Or.inr (Or.inr rfl))
    (hd : (x == ("__debug__" : Str)) = false := by decide) (hcd : (x == ("__classdict__" : Str)) = false := by decide) (hb : attributeBase (.Name x px) f X.env (eval (.Name x px) X.env) = eval (.Name x px) X.env := by rfl) : Ev X W (.Attribute (.Name x px) f pos) ρ R := by
  refine ⟨fun σ H B Q L k => (pe_fld (pe_var hN hv hd hcd) hb).toZ ?_⟩
  obtain ⟨fv, g1, g2, g3, g4⟩ := hρ.of L
  rcases fsd_look (f := f) g4 with ⟨_, q⟩ | ⟨v, d', q1, q2, q3⟩
  · rw [hf] at q
    cases q
  · rw [hf] at q2
    cases q2
    exact ⟨.ref a, g1, a, C, dx, fv, v, rfl, g3, c, n, q1, k v H B d (Same.refl _) L q3 h⟩
theorem es_fld (i : Nat) {x f : Str} {px pa : Pos} (hρ : ρ[i]? = some (.obj a dx C fs)) (c : Cls X.K C) (n : NoAttr X.K C f) (hl : fs.length < 1000) (h : Ev X W e ρ fun d => D.nx (ρ.set i (.obj a dx C (putD f d fs)))) (hN : X.N[i]? = some x := by rfl) (hv : Vis X.env.scope x := by first | exact Or.inl rfl | exact Or.inr (Or.inl rfl) | exact Or.inr (Or.inr rfl))
    (hd : (x == ("__debug__" : Str)) = false := by decide) (hcd : (x == ("__classdict__" : Str)) = false := by decide) (hs : swapsWith e (some (.Attribute (.Name x px) f pa)) pos.line X.env = pure false := by rfl) : Es X W (.Assign [.Attribute (.Name x px) f pa] e pos) ρ D := by
  refine ⟨fun σ H B L => (ps_fld (pe_var hN hv hd hcd) pe_w hs).toZ ?_⟩
  refine h.run σ H B _ L fun v H' B' d s L' Dv r => ?_
  obtain ⟨fv, g1, g2, g3, g4, g5⟩ := L'.at' i _ hρ
  refine ⟨.ref a, g1, a, C, dx, fv, rfl, g4, c, n, by rw [fsd_len g5]; exact hl, ?_⟩
  have bn : B' a = none := g2
  obtain ⟨s2, L2⟩ := L'.objd (H' := upd H' a (.ins C dx (putF f v fv))) (B' := B') hρ ⟨same_right L'.gr.sub g2, Same.refl _, fun y q1 q2 => q2, fun y o q1 q2 => by
      obtain ⟨y1, y2⟩ := minus_some q1
      rw [upd_ne y1]
      exact y2, fun T z => by cases z⟩ upd_same bn (fsd_put Dv g5)
  exact ⟨B', _, s, L2, r⟩
/-- o.f, a property -/
theorem ev_prop (i : Nat) {x f : Str} {px : Pos} {p g : Addr} {fd : FuncData} {ps : List Str} {k : Nat} {P : List (Str × PyData) → List PyData → (PyData → Prop) → Prop} (hρ : ObAt ρ i a dx C fs) (c : Cls X.K C) (hp : PropOf X.K C f p g) (F : FnOk X.prog X.w X.K X.mg X.base CX0 k g fd ps (MCon X.K C P)) (hr : Room (k + 1) X.A) (hbd : Binds X.K fd ps [])
    (h : P fs [] R) (hN : X.N[i]? = some x := by rfl) (hv : Vis X.env.scope x := by first | exact Or.inl rfl | exact Or.inr (Or.inl rfl) | exact Or.inr (Or.inr rfl))
    (hd : (x == ("__debug__" : Str)) = false := by decide) (hcd : (x == ("__classdict__" : Str)) = false := by decide) (hb : attributeBase (.Name x px) f X.env (eval (.Name x px) X.env) = eval (.Name x px) X.env := by rfl) : Ev X W (.Attribute (.Name x px) f pos) ρ R := by
  refine ⟨fun σ H B Q L k' => PE.toZ (t := tProp C (MCon X.K C P) [] E0 (tVar i)) (pe_prop (pe_var hN hv hd hcd) c hp F hr hbd .nil pass0 hb) ?_⟩
  obtain ⟨fv, g1, g2, g3, g4⟩ := hρ.of L
  refine ⟨.ref a, g1, a, dx, fv, rfl, g3, B, a, dx, fv, fs, [], [], R, rfl, L.gr.sub, g3, g2, g4, .nil, h, fun v H' B' d g D r => ?_⟩
  obtain ⟨s, L'⟩ := L.called (.inl rfl) g
  exact k' v H' B' d s L' D r
/-- o.m(e, ..) that reads -/
theorem ev_meth (i : Nat) {x m : Str} {px apos : Pos} {f : Addr} {fd : FuncData} {ps : List Str} {k : Nat} {P : List (Str × PyData) → List PyData → (PyData → Prop) → Prop} {pl : Sem Bool} (hρ : ObAt ρ i a dx C fs) (c : Cls X.K C) (hm : Meth X.K C m f) (F : FnOk X.prog X.w X.K X.mg X.base CX0 k f fd ps (MCon X.K C P)) (hr : Room k X.A) (hbd : Binds X.K fd ps [])
    (hno : fs.lookup m = none) (h : Ea X W (e :: es) ρ fun ds => P fs ds R) (hN : X.N[i]? = some x := by rfl) (hv : Vis X.env.scope x := by first | exact Or.inl rfl | exact Or.inr (Or.inl rfl) | exact Or.inr (Or.inr rfl))
    (hd : (x == ("__debug__" : Str)) = false := by decide) (hcd : (x == ("__classdict__" : Str)) = false := by decide)
    (hst : starEach (e :: es) X.env = (false, eval e X.env) :: starEach es X.env := by rfl) (hpl : (backTo pos (starEach es X.env)).any (·.1) = false := by rfl)
    (ht : eval (.Call (.Attribute (.Name x px) m apos) (e :: es) [] pos) X.env = (do
      let ov ← eval (.Name x px) X.env
      standAt apos.atName
      let (f, first) ← holding [ov] (getMethod ov m pl)
      callWith pos f first (backTo pos (starEach (e :: es) X.env)) (backToKw pos (keywordEach [] X.env))) := by rfl) : Ev X W (.Call (.Attribute (.Name x px) m apos) (e :: es) [] pos) ρ R := by
  refine ⟨fun σ H B Q L k' => PE.toZ (t := tMeth C m (MCon X.K C P) [] E0 (tVar i) (tWa X (e :: es))) (pe_meth (pl := pl) (pe_var hN hv hd hcd) c hm F hr hbd .nil pass0 pa_w hst hpl ht) ?_⟩
  obtain ⟨fv, g1, g2, g3, g4⟩ := hρ.of L
  refine ⟨.ref a, g1, a, dx, fv, rfl, g3, ?_, ?_⟩
  · rcases fsd_look (f := m) g4 with ⟨q, _⟩ | ⟨v, d', q1, q2, q3⟩
    · exact q
    · rw [hno] at q2
      cases q2
  · refine h.run σ H B _ L fun vs H1 B1 ds s1 L1 D1 h2 => ?_
    obtain ⟨fv1, w1, w2, w3, w4⟩ := hρ.of L1
    show MCon X.K C P (V.ref a :: (vs ++ [])) H1 Q E0
    rw [List.append_nil]
    refine ⟨B1, a, dx, fv1, fs, vs, ds, R, rfl, L1.gr.sub, w3, w2, w4, D1, h2, fun v H' B' d g D r => ?_⟩
    obtain ⟨s, L'⟩ := L1.called (.inl rfl) g
    exact k' v H' B' d (s1.trans s) L' D r
/-- o(e, ..) -/
theorem ev_callO (i : Nat) {x : Str} {px : Pos} {g : Addr} {fd : FuncData} {ps : List Str} {k : Nat} {P : List (Str × PyData) → List PyData → (PyData → Prop) → Prop} (hρ : ObAt ρ i a dx C fs) (c : StX.CallO X.K C g) (F : FnOk X.prog X.w X.K X.mg X.base CX0 k g fd ps (MCon X.K C P)) (hr : Room k X.A) (hbd : Binds X.K fd ps [])
    (h : Ea X W (e :: es) ρ fun ds => P fs ds R) (hN : X.N[i]? = some x := by rfl) (hv : Vis X.env.scope x := by first | exact Or.inl rfl | exact Or.inr (Or.inl rfl) | exact Or.inr (Or.inr rfl))
    (hd : (x == ("__debug__" : Str)) = false := by decide) (hcd : (x == ("__classdict__" : Str)) = false := by decide)
    (ht : eval (.Call (.Name x px) (e :: es) [] pos) X.env = (do callWith pos (← eval (.Name x px) X.env) [] (backTo pos (starEach (e :: es) X.env)) (backToKw pos (keywordEach [] X.env))) := by rfl)
    (he : starEach (e :: es) X.env = (false, eval e X.env) :: starEach es X.env := by rfl) (hpl : (backTo pos (starEach es X.env)).any (·.1) = false := by rfl) : Ev X W (.Call (.Name x px) (e :: es) [] pos) ρ R := by
  refine ⟨fun σ H B Q L k' => PE.toZ (t := StX.tCallO X C (fun vs H Q E => MCon X.K C P (vs ++ []) H Q E) E0 (tVar i) (tWa X (e :: es))) (StX.pe_callO (CX := CX0) (pe_var hN hv hd hcd) c (F.raw hbd .nil) hr pass0 pa_w ht he hpl) ?_⟩
  obtain ⟨fv, g1, g2, g3, g4⟩ := hρ.of L
  refine ⟨.ref a, g1, a, rfl, ?_⟩
  refine h.run σ H B _ L fun vs H1 B1 ds s1 L1 D1 h2 => ?_
  obtain ⟨fv1, w1, w2, w3, w4⟩ := hρ.of L1
  refine ⟨.inr ⟨dx, fv1, w3⟩, ?_⟩
  show MCon X.K C P ((V.ref a :: vs) ++ []) H1 Q E0
  rw [List.append_nil]
  refine ⟨B1, a, dx, fv1, fs, vs, ds, R, rfl, L1.gr.sub, w3, w2, w4, D1, h2, fun v H' B' d g D r => ?_⟩
  obtain ⟨s, L'⟩ := L1.called (.inl rfl) g
  exact k' v H' B' d (s1.trans s) L' D r
end
/-! ### expressions that change an instance -/
structure Evx (X : Cx) (W : Wd) (e : Expr) (ρ : List Sl) (R : PyData → List Sl → Prop) : Prop where
  run : ∀ (σ : L2.St) (H B : Hp) (Q : VK), Lay X.K W B H σ ρ → (∀ v H' B' d ρ', Same B B' → Lay X.K W B' H' σ ρ' → Dq X.K B' v d → R d ρ' → Q v H') → tW X e σ H Q
structure Etx (X : Cx) (W : Wd) (e : Expr) (ρ : List Sl) (R : Bool → List Sl → Prop) : Prop where
  run : ∀ (σ : L2.St) (H B : Hp) (Q : Bool → Hp → Prop), Lay X.K W B H σ ρ → (∀ b H' B' ρ', Same B B' → Lay X.K W B' H' σ ρ' → R b ρ' → Q b H') → tWt X e σ H Q
structure Ewx (X : Cx) (W : Wd) (e : Expr) (ρ : List Sl) (R : Bool → List Sl → Prop) : Prop where
  run : ∀ (σ : L2.St) (H B : Hp) (Q : Bool → Hp → Prop), Lay X.K W B H σ ρ → (∀ b H' B' ρ', Same B B' → Lay X.K W B' H' σ ρ' → R b ρ' → Q b H') → tWw X e σ H Q
structure Eax (X : Cx) (W : Wd) (es : List Expr) (ρ : List Sl) (R : List PyData → List Sl → Prop) : Prop where
  run : ∀ (σ : L2.St) (H B : Hp) (Q : List V → Hp → Prop), Lay X.K W B H σ ρ → (∀ vs H' B' ds ρ', Same B B' → Lay X.K W B' H' σ ρ' → DqAll X.K B' vs ds → R ds ρ' → Q vs H') → tWa X es σ H Q
section
variable {X : Cx} {W : Wd} {ρ : List Sl} {D : Dz} {pos : Pos} {a b c e : Expr} {es : List Expr} {body sts : List Stmt}
theorem evx_of {R : PyData → List Sl → Prop} (h : Ev X W e ρ fun d => R d ρ) : Evx X W e ρ R := ⟨fun σ H B Q L k => h.run σ H B Q L fun v H' B' d s L' Dv r => k v H' B' d ρ s L' Dv r⟩
theorem etx_of {R : Bool → List Sl → Prop} (h : Et X W e ρ fun d => R d ρ) : Etx X W e ρ R := ⟨fun σ H B Q L k => h.run σ H B Q L fun b H' B' s L' r => k b H' B' ρ s L' r⟩
theorem eax_of {R : List PyData → List Sl → Prop} (h : Ea X W es ρ fun d => R d ρ) : Eax X W es ρ R := ⟨fun σ H B Q L k => h.run σ H B Q L fun v H' B' d s L' Dv r => k v H' B' d ρ s L' Dv r⟩
theorem etx_cmp {op : CmpOp} {R : Bool → List Sl → Prop} {rr : PyData → PyData → (PyData → Prop) → Prop} (ho : OpZ X (compareOp op) rr) (h : Evx X W a ρ fun x ρ' => Ev X W b ρ' fun y => rr x y (tst fun k => R k ρ')) (hm : behindInMarks op b = false := by first | exact nomark _ | rfl) : Etx X W (.Compare a [op] [b] pos) ρ R := by
  obtain ⟨r, ho, hr⟩ := ho
  refine ⟨fun σ H B Q L k => (pt_cmpR ho pe_w pe_w hm).toZ ?_⟩
  refine h.run σ H B _ L fun v H1 B1 d ρ1 s1 L1 D1 h2 => ?_
  refine h2.run σ H1 B1 _ L1 fun u H2 B2 d' s2 L2 D2 h3 => ?_
  refine hr W σ ρ1 H2 B2 v u d d' _ _ L2 (dpMono s2 _ _ D1) D2 h3 fun w H' B' x s L' D' r => ?_
  cases x with
  | bool b => exact ⟨b, dp_bool D', k b H' B' ρ1 ((s1.trans s2).trans s) L' r⟩
  | none => exact r.elim
  | int _ => exact r.elim
  | str _ => exact r.elim
  | list _ => exact r.elim
  | tuple _ => exact r.elim
  | dict _ => exact r.elim
theorem etx_val {R : Bool → List Sl → Prop} (h : Evx X W e ρ fun d ρ' => match d with | .bool k => R k ρ' | _ => False) (he : ∀ whole, PySem.isTrue e X.env whole = (do let v ← whole; standAt e.pos; holding [v] (truthy v)) := by intro _; rfl) : Etx X W e ρ R := by
  refine ⟨fun σ H B Q L k => (pt_val pe_w he).toZ ?_⟩
  refine h.run σ H B _ L fun v H1 B1 d ρ1 s1 L1 D1 h2 => ?_
  cases d <;> first | exact h2.elim | skip
  exact ⟨_, dp_bool D1, k _ H1 B1 ρ1 s1 L1 h2⟩
theorem etx_not {R : Bool → List Sl → Prop} (h : Etx X W a ρ fun k ρ' => R (!k) ρ') : Etx X W (.UnaryOp .Not a pos) ρ R := by
  refine ⟨fun σ H B Q L k => (pt_not pt_w).toZ ?_⟩
  exact h.run σ H B _ L fun kk H1 B1 ρ1 s1 L1 h2 => k _ H1 B1 ρ1 s1 L1 h2
theorem ewx_or {R : Bool → List Sl → Prop} {rest : List Expr} (h : Etx X W a ρ fun k ρ' => (k = true → R true ρ') ∧ (k = false → Ewx X W (.BoolOp .Or (b :: rest) pos) ρ' R)) : Ewx X W (.BoolOp .Or (a :: b :: rest) pos) ρ R := by
  refine ⟨fun σ H B Q L k => (pw_or pt_w pw_w).toZ ?_⟩
  refine h.run σ H B _ L fun kk H1 B1 ρ1 s1 L1 h2 => ?_
  cases kk with
  | true =>
    rw [if_pos rfl]
    exact k _ H1 B1 ρ1 s1 L1 (h2.1 rfl)
  | false =>
    rw [if_neg Bool.false_ne_true]
    exact (h2.2 rfl).run σ H1 B1 _ L1 fun v H' B' ρ2 s L' r => k v H' B' ρ2 (s1.trans s) L' r
theorem ewx_or1 {R : Bool → List Sl → Prop} (h : Etx X W a ρ R) : Ewx X W (.BoolOp .Or [a] pos) ρ R := ⟨fun σ H B Q L k => (pw_or1 pt_w).toZ (h.run σ H B Q L k)⟩
theorem etx_ew {R : Bool → List Sl → Prop} (h : Ewx X W e ρ R) : Etx X W e ρ R := ⟨fun σ H B Q L k => (PW.pt pw_w).toZ (h.run σ H B Q L k)⟩
theorem es_ifx (h : Etx X W c ρ fun k ρ' => (k = true → Ess X W body ρ' D) ∧ (k = false → Ess X W sts ρ' D)) : Es X W (.If c body sts pos) ρ D := by
  refine ⟨fun σ H B L => (ps_if pt_w pss_w pss_w).toZ ?_⟩
  refine h.run σ H B _ L fun k H1 B1 ρ1 s L1 q => ?_
  cases k with
  | true =>
    rw [if_pos rfl]
    exact tWss.back s ((q.1 rfl).run σ H1 B1 L1)
  | false =>
    rw [if_neg Bool.false_ne_true]
    exact tWss.back s ((q.2 rfl).run σ H1 B1 L1)
theorem eax_cons {R : List PyData → List Sl → Prop} (h : Evx X W e ρ fun d ρ' => Eax X W es ρ' fun ds ρ2 => R (d :: ds) ρ2) (hs : starEach (e :: es) X.env = (false, eval e X.env) :: starEach es X.env := by rfl) : Eax X W (e :: es) ρ R := by
  refine ⟨fun σ H B Q L k => (pa_cons pe_w pa_w hs).toZ ?_⟩
  refine h.run σ H B _ L fun v H1 B1 d ρ1 s1 L1 D1 h2 => ?_
  refine h2.run σ H1 B1 _ L1 fun vs H2 B2 ds ρ2 s2 L2 D2 h3 => ?_
  exact k _ H2 B2 _ ρ2 (s1.trans s2) L2 (.cons (dpMono s2 _ _ D1) D2) h3
theorem evx_call {f : Addr} {fd : FuncData} {ps : List Str} {k : Nat} {x : Str} {p : Pos} {R : PyData → List Sl → Prop} {P : List PyData → (PyData → Prop) → Prop} (F : FnOk X.prog X.w X.K X.mg X.base CX0 k f fd ps (Con X.K P)) (hr : Room k X.A) (hm : X.mg x = some (.ref f))
    (hk : PySem.W.keepIn X.K (.ref f) = true) (hb : Binds X.K fd ps []) (h : Eax X W (e :: es) ρ fun ds ρ' => P ds fun d => R d ρ') (hg : Gl X x := by rfl)
    (hs : starEach (e :: es) X.env = (false, eval e X.env) :: starEach es X.env := by rfl) (hpl : (backTo pos (starEach es X.env)).any (·.1) = false := by rfl) (hdb : (x == ("__debug__" : Str)) = false := by decide) : Evx X W (.Call (.Name x p) (e :: es) [] pos) ρ R := by
  refine ⟨fun σ H B Q L k => PE.toZ (t := tCall (Con X.K P) [] E0 (tWa X (e :: es))) ?_ ?_⟩
  · exact pe_call F hr hg hm hk hb .nil pass0 pa_w hdb hs hpl
  · refine h.run σ H B _ L fun vs H1 B1 ds ρ1 s1 L1 D1 h2 => ?_
    show Con X.K P (vs ++ []) H1 Q E0
    rw [List.append_nil]
    refine ⟨B1, ds, _, L1.gr.sub, D1, h2, fun v H' B' d g D r => ?_⟩
    obtain ⟨s, L'⟩ := L1.called (.inl rfl) g
    exact k v H' B' d ρ1 (s1.trans s) L' D r
/-- o.m(e, ..) that changes o -/
theorem evx_meth (i : Nat) {ad dx C : Addr} {fs : List (Str × PyData)} {x m : Str} {px apos : Pos} {f : Addr} {fd : FuncData} {ps : List Str} {k : Nat} {R : PyData → List Sl → Prop} {P : List (Str × PyData) → List PyData → (PyData → List (Str × PyData) → Prop) → Prop} {pl : Sem Bool} (hρ : ρ[i]? = some (.obj ad dx C fs)) (cl : Cls X.K C) (hm : Meth X.K C m f)
    (F : FnOk X.prog X.w X.K X.mg X.base CX0 k f fd ps (XCon X.K C P)) (hr : Room k X.A) (hbd : Binds X.K fd ps [])
    (hno : fs.lookup m = none) (h : Ea X W (e :: es) ρ fun ds => P fs ds fun d fs' => R d (ρ.set i (.obj ad dx C fs'))) (hN : X.N[i]? = some x := by rfl) (hv : Vis X.env.scope x := by first | exact Or.inl rfl | exact Or.inr (Or.inl rfl) | exact Or.inr (Or.inr rfl))
    (hd : (x == ("__debug__" : Str)) = false := by decide) (hcd : (x == ("__classdict__" : Str)) = false := by decide)
    (hst : starEach (e :: es) X.env = (false, eval e X.env) :: starEach es X.env := by rfl) (hpl : (backTo pos (starEach es X.env)).any (·.1) = false := by rfl)
    (ht : eval (.Call (.Attribute (.Name x px) m apos) (e :: es) [] pos) X.env = (do
      let ov ← eval (.Name x px) X.env
      standAt apos.atName
      let (f, first) ← holding [ov] (getMethod ov m pl)
      callWith pos f first (backTo pos (starEach (e :: es) X.env)) (backToKw pos (keywordEach [] X.env))) := by rfl) : Evx X W (.Call (.Attribute (.Name x px) m apos) (e :: es) [] pos) ρ R := by
  refine ⟨fun σ H B Q L k' => PE.toZ (t := tMeth C m (XCon X.K C P) [] E0 (tVar i) (tWa X (e :: es))) (pe_meth (pl := pl) (pe_var hN hv hd hcd) cl hm F hr hbd .nil pass0 pa_w hst hpl ht) ?_⟩
  obtain ⟨fv, g1, g2, g3, g4⟩ := ObAt.of L (.inl hρ)
  refine ⟨.ref ad, g1, ad, dx, fv, rfl, g3, ?_, ?_⟩
  · rcases fsd_look (f := m) g4 with ⟨q, _⟩ | ⟨v, d', q1, q2, q3⟩
    · exact q
    · rw [hno] at q2
      cases q2
  · refine h.run σ H B _ L fun vs H1 B1 ds s1 L1 D1 h2 => ?_
    obtain ⟨fv1, w1, w2, _, w3, w4⟩ := L1.at' i _ hρ
    show XCon X.K C P (V.ref ad :: (vs ++ [])) H1 Q E0
    rw [List.append_nil]
    refine ⟨B1, ad, dx, fv1, fs, vs, ds, _, rfl, L1.gr.sub, w3, w2, w4, D1, h2, fun v H' B' d fs' fv' g e1 e2 e3 D r => ?_⟩
    obtain ⟨s, L'⟩ := L1.objd hρ g e1 e2 e3
    exact k' v H' B' d _ (s1.trans s) L' D r
/-- o = C(a, k = b) -/
theorem es_newK (i : Nat) {C : Addr} {x y : Str} {pos' p kpos pc : Pos} {kw : Str} {f : Addr} {fd : FuncData} {ps : List Str} {k : Nat} {g : List Value → List Value → List Value} {P : List (Str × PyData) → List PyData → (PyData → List (Str × PyData) → Prop) → Prop} (M : Mk X.K C f) (F : FnOk X.prog X.w X.K X.mg X.base CX0 k f fd ps (XCon X.K C P)) (hr : Room (k + 1) X.A)
    (hm : X.mg y = some (.ref C)) (hb : KBn X.K fd ps 2 [kw] g fun vs zs => vs ++ zs) (h : Ev X W a ρ fun d => Ev X W b ρ fun d' => P [] [d, d'] fun r fs => r = .none ∧ ∀ ad dx, D.nx (ρ.set i (.obj ad dx C fs))) (hN : X.N.Nodup) (hi : X.N[i]? = some x := by rfl) (hx : Loc X.env.scope x := by first | exact .inl rfl | exact .inr rfl)
    (hs : swapsWith (.Call (.Name y p) [a] [⟨some kw, b, kpos⟩] pc) (some (.Name x pos')) pos.line X.env = pure false := by rfl)
    (hf : X.fn x = true ∨ X.env.scope.names.lookup x = some .local := by first | exact .inl rfl | exact .inr rfl | assumption) (hgl : Gl X y := by rfl) (hil : i < ρ.length := by first | decide | (simp only [List.length_cons, List.length_nil]; decide) | simp)
    (hall : (backToKw pc (keywordEach [⟨some kw, b, kpos⟩] X.env)).all (·.1.isSome) = true := by rfl) (hks : (backToKw pc (keywordEach [⟨some kw, b, kpos⟩] X.env)).filterMap (·.1) = [kw] := by rfl) (hdb : (y == ("__debug__" : Str)) = false := by decide)
    (he : starEach [a] X.env = (false, eval a X.env) :: starEach [] X.env := by rfl) (hpl : ((backTo pc (starEach [a] X.env)).any (·.1) || (backToKw pc (keywordEach [⟨some kw, b, kpos⟩] X.env)).any (·.1.isNone)) = false := by rfl) :
    Es X W (.Assign [.Name x pos'] (.Call (.Name y p) [a] [⟨some kw, b, kpos⟩] pc) pos) ρ D := by
  refine ⟨fun σ H B L => (ps_set hN hi hx (pe_makeK (n := 1) (ks := [kw]) M F hr hgl hm hb pass0 (pa_cons pe_w pa_nil he) (pk_cons pe_w pk_nil) hall hks hdb he hpl) hs hf).toZ ?_⟩
  refine h.run σ H B _ L fun v H1 B1 d s1 L1 D1 h2 => ?_
  refine h2.run σ H1 B1 _ L1 fun u H2 B2 d' s2 L2 D2 h3 => ?_
  refine ⟨rfl, rfl, fun ad dx q1 q2 q3 => ?_⟩
  have bn : B2 ad = none := Same.free L2.gr.sub q1
  have bx : B2 dx = none := Same.free L2.gr.sub q2
  refine ⟨B2, ad, dx, [], [], [v, u], [d, d'], _, rfl, same_right (same_right L2.gr.sub bx) bn, upd_same, bn, .nil, .cons (dpMono s2 _ _ D1) (.cons D2 .nil), h3, fun r H' B' dr fs' fv' g e1 e2 e3 Dr rr => ?_⟩
  obtain ⟨rn, rr⟩ := rr
  subst rn
  have hle : ∀ (y : Addr) (o : HO), H2 y = some o → minus (upd (upd H2 dx (.own ad)) ad (.ins C dx [])) ad y = some o := fun y o e => by
    have y1 : y ≠ ad := ne_of_none e q1
    have y2 : y ≠ dx := ne_of_none e q2
    rw [minus_ne y1, upd_ne y1, upd_ne y2]
    exact e
  obtain ⟨s, L'⟩ := L2.called (.inl rfl) (g.less hle)
  refine ⟨dp_none Dr, B', _, (s1.trans s2).trans s, ?_, rr ad dx⟩
  refine L'.putObj hil e2 ?_ e1 e3 fun j sl w1 w2 w3 => ?_
  · cases w : W.H0 ad with
    | none => rfl
    | some o =>
      by_cases ht : W.T = some ad
      · obtain ⟨_, t⟩ := L2.gr.tp ad ht
        obtain ⟨_, i', c', e', _⟩ := t
        rw [e'] at q1
        cases q1
      · have := L2.gr.keep ad o w ht
        rw [q1] at this
        cases this
  · obtain ⟨b1, o1, b2, b3, b4, b5, _⟩ := (L2.at' j sl w1).owner w2
    rw [w3] at b2
    cases b2
    rw [q1] at b5
    cases b5
end
/-! ### zip of two tuples -/
theorem walk_zipT {K : PySem.W.Frag} {p q : Addr} {vs us : List V} {ds es : List PyData} {B : Hp} (h : SqT K B p vs) (hd : DqAll K B vs ds) (h' : SqT K B q us) (he : DqAll K B us es) : WalkZ K (RZ.ItzT K p q) (zipD ds es) B where
  go := fun i B' H' s s' hi => by
    rw [zipD_len, ← dpAll_len hd, ← dpAll_len he] at hi
    have i1 : i < vs.length := by omega
    have i2 : i < us.length := by omega
    exact ⟨vs, us, vs[i], us[i], seqT s' (seqT s h), seqT s' (seqT s h'), by simp [i1], by simp [i2]⟩
  stop := fun B' H' s s' => by
    refine ⟨vs, us, seqT s' (seqT s h), seqT s' (seqT s h'), ?_⟩
    rw [zipD_len, ← dpAll_len hd, ← dpAll_len he]
    omega
  yld := fun i B' H' x H'' W σ ρ s L hy hi => by
    obtain ⟨T, x1, y1, rfl, hT, rfl, hx, hy⟩ := hy
    rw [zipD_len] at hi
    have hx := hx vs (seqT L.gr.sub (seqT s h))
    have hy := hy us (seqT L.gr.sub (seqT s h'))
    have i1 : i < ds.length := by omega
    have i2 : i < es.length := by omega
    obtain ⟨v, h1, h2⟩ := dpAll_get hd (List.getElem?_eq_getElem i1)
    obtain ⟨u, h3, h4⟩ := dpAll_get he (List.getElem?_eq_getElem i2)
    rw [hx] at h1
    rw [hy] at h3
    cases h1
    cases h3
    obtain ⟨sB, L'⟩ := L.fresh hT (.tup [x1, y1])
    refine ⟨_, _, zipD_get ds es i (List.getElem?_eq_getElem i1) (List.getElem?_eq_getElem i2), sB, L', .tup (SqT.of upd_same) (.cons (dpMono (s.trans sB) _ _ h2) (.cons (dpMono (s.trans sB) _ _ h4) .nil)), fun b o q => ?_, fun b o q1 q2 => ?_⟩
    · rw [upd_ne (ne_of_none q hT)]
      exact q
    · rw [upd_ne (ne_of_none q1 hT)]
      exact q2
section
variable {X : Cx} {W : Wd} {ρ : List Sl} {pos : Pos} {a b : Expr}
theorem ei_zipT {p tpos : Pos} {elts : List Expr} {kk : Nat} {R : List PyData → Prop} (hm : X.mg "zip" = none) (h : Ev X W a ρ fun d => Ev X W b ρ fun d' => match d, d' with | .tuple xs, .tuple ys => R (zipD xs ys) | _, _ => False) (hg : Gl X "zip" := by rfl)
    (hs : starEach [a, b] X.env = (false, eval a X.env) :: starEach [b] X.env := by rfl) (hs2 : starEach [b] X.env = (false, eval b X.env) :: starEach [] X.env := by rfl) (hpl : (backTo pos (starEach [b] X.env)).any (·.1) = false := by rfl) : Ei X W (.Tuple elts kk tpos) (.Call (.Name "zip" p) [a, b] [] pos) ρ R := by
  refine ⟨fun σ H B Q L k => (RZ.pi_zipA hg hm (pa_cons pe_w (pa_cons pe_w pa_nil hs2) hs) hs hpl).toZ ?_⟩
  refine h.run σ H B _ L fun v H1 B1 d s1 L1 D1 h2 => ?_
  refine h2.run σ H1 B1 _ L1 fun u H2 B2 d' s2 L2 D2 h3 => ?_
  cases d <;> first | exact h3.elim | skip
  cases d' <;> first | exact h3.elim | skip
  obtain ⟨p, vs, rfl, h4, h5⟩ := dp_tup D1
  obtain ⟨q, us, rfl, h6, h7⟩ := dp_tup D2
  have h4' := seqT s2 h4
  refine ⟨p, q, vs, us, rfl, .inr ⟨seqT L2.gr.sub h4', seqT L2.gr.sub h6, k _ H2 B2 _ (s1.trans s2) L2 (walk_zipT h4' (dpAllMono s2 _ _ h5) h6 h7) h3⟩⟩
end
/-! ### a < b < c as a test; x[1:] -/
section
variable {X : Cx} {W : Wd} {ρ : List Sl} {pos : Pos} {a b c : Expr}
theorem et_chain {op op' : CmpOp} {R : Bool → Prop} {rr rr' : PyData → PyData → (PyData → Prop) → Prop} (ho : OpZ X (compareOp op) rr) (ho' : OpZ X (compareOp op') rr')
    (h : Ev X W a ρ fun x => Ev X W b ρ fun y => rr x y (tst fun k => (k = true → Ev X W c ρ fun z => rr' y z (tst R)) ∧ (k = false → R false))) (hm : lastMarks [op, op'] [b, c] = false := by with_unfolding_all rfl) : Et X W (.Compare a [op, op'] [b, c] pos) ρ R := by
  obtain ⟨r, ho, hr⟩ := ho
  obtain ⟨r', ho', hr'⟩ := ho'
  refine ⟨fun σ H B Q L k => (pt_chain ho ho' pe_w pe_w pe_w hm).toZ ?_⟩
  refine h.run σ H B _ L fun v H1 B1 d s1 L1 D1 h2 => ?_
  refine h2.run σ H1 B1 _ L1 fun u H2 B2 d' s2 L2 D2 h3 => ?_
  refine hr W σ ρ H2 B2 v u d d' _ _ L2 (dpMono s2 _ _ D1) D2 h3 fun w H' B' x s L' D' q => ?_
  cases x <;> first | exact q.elim | skip
  rename_i kk
  refine ⟨kk, dp_bool D', ?_⟩
  cases kk with
  | true =>
    rw [if_pos rfl]
    refine (q.1 rfl).run σ H' B' _ L' fun w3 H3 B3 d3 s3 L3 D3 h4 => ?_
    refine hr' W σ ρ H3 B3 u w3 d' d3 _ _ L3 (dpMono (s.trans s3) _ _ D2) D3 h4 fun w H'' B'' x s4 L'' D'' r => ?_
    cases x <;> first | exact r.elim | skip
    exact ⟨_, dp_bool D'', k _ H'' B'' ((((s1.trans s2).trans s).trans s3).trans s4) L'' r⟩
  | false =>
    rw [if_neg Bool.false_ne_true]
    exact ⟨false, rfl, k _ H' B' ((s1.trans s2).trans s) L' (q.2 rfl)⟩
end
theorem cutD_tail (xs : List PyData) : cutD xs (some 1) none = xs.drop 1 := by
  unfold cutD
  have e1 : HT.sIx xs.length 0 (some 1) = min 1 xs.length := HT.sIx_nat _ _ 1
  have e2 : HT.sIx xs.length xs.length none = xs.length := rfl
  rw [e1, e2]
  cases xs with
  | nil => rfl
  | cons x xs =>
    have e3 : min 1 (x :: xs).length = 1 := by simp
    rw [e3]
    exact List.take_of_length_le (by simp)
end Z

/-! code that runs while an exception is handled: a list walked in a comprehension -/
namespace Z
open PySem PySem.Spec PyProof.Rows L2 HotX L2H
section
variable {prog : Program} {w : World} {A : Around} {E : Value → Shared → Prop} {s : Shared}
theorem list_end_hot {it l x1 : Addr} {i : Nat} {items : Array Value} {Q : Option Value → Shared → Prop} (hot : HotAt A x1 s.heap) (h1i : x1 ≠ it) (hit : s.heap.IsListIter it l i) (hl : s.heap.IsList l items) (hx : items[i]? = none)
    (hQ : ∀ h', (∀ b o, b ≠ it → s.heap.get? b = some o → h'.get? b = some o) → Q none { s with heap := h' }) : wpAny (model prog w) A (pyNext (.ref it)) Q E s := by
  obtain ⟨o, ho, hc, hd⟩ := id hit
  obtain ⟨ol, hol, _, nl, hdl⟩ := hl
  obtain ⟨hh, o1, vs1, g1, d1, c1⟩ := hot
  unfold pyNext
  refine wpAny_bind (wpAny_attempt (wpAny_callSpecial?_slot (name := Str.ofString "__next__") hit.typeIs slot_listiter_next
    (wpAny_call_entry slot_listiter_next hit.typeIs entry_listiter_next ?_ (args_listiter_next _))))
  show wpAny _ _ (field (.ref it) 0 >>= _) _ _ s
  refine wpAny_bind (wpAny_field ho hd (x := .ref l) rfl ?_)
  show wpAny _ _ (if (Value.ref l == Value.none) = true then _ else _) _ _ s
  rw [if_neg (show ¬ ((Value.ref l == Value.none) = true) from Bool.false_ne_true)]
  show wpAny _ _ (field (.ref it) 1 >>= _) _ _ s
  refine wpAny_bind (wpAny_field ho hd (x := .int i 0) rfl ?_)
  show wpAny _ _ (seqItems? (.ref l) >>= _) _ _ s
  refine wpAny_bind (wpAny_seqItems hol hdl ?_)
  simp only [Int.toNat_natCast, hx]
  refine wpAny_bind (wpAny_rule (wpAny_bind (wpAny_setField ho hd (by simp) ?_)))
  show wpAny _ _ (newExc (.type "StopIteration") [] >>= _) _ _ _
  refine wpAny_bind ?_
  simp only [newExc, newTuple]
  refine wpAny_bind (wpAny_newObj_type ?_ (by size_fits))
  refine wpAny_bind (m := firstArgMember _ _) (wpAny_of_eq (a := Value.none) (by first | rfl | (simp only [firstArgMember]; rfl)) ?_)
  refine wpAny_newObj_type ?_ (by size_fits)
  have up : ∀ (f : Obj → Obj) (b : Addr) (u : Obj), b ≠ it → s.heap.get? b = some u → (s.heap.update it f).get? b = some u := fun f b u hb e => (Heap.get?_update_other _ _ (Ne.symm hb)).trans e
  have g2 := up (Obj.mapFields (·.setIfInBounds 0 Value.none)) x1 o1 h1i g1
  refine raiseNew_hot ⟨hh, o1, vs1, Heap.get?_push_of_some _ (Heap.get?_push_of_some _ g2), d1, c1⟩ (Nat.ne_of_lt (Heap.lt_size (Heap.get?_push_of_some _ g2))) (Heap.get?_push_size _ rfl) rfl (by first | (simp; done) | (simp; omega) | (simp only [Array.size_append]; simp; omega)) ?_
  refine wpAny_bind (wpAny_isInstance (T := "StopIteration") (b := true) ⟨_, Heap.get?_update_self _ (Heap.get?_push_size _ rfl) rfl, rfl⟩ isSubtype_stop ?_)
  refine wpAny_pure (hQ _ fun b o hb e => ?_)
  have e2 := up (Obj.mapFields (·.setIfInBounds 0 Value.none)) b o hb e
  refine (Heap.get?_update_other _ _ ?_).trans (Heap.get?_push_of_some _ (Heap.get?_push_of_some _ e2))
  exact Nat.ne_of_gt (Heap.lt_size (Heap.get?_push_of_some _ e2))
theorem tuple_end_hot {it l x1 : Addr} {i : Nat} {items : Array Value} {Q : Option Value → Shared → Prop} (hot : HotAt A x1 s.heap) (h1i : x1 ≠ it) (hit : s.heap.IsTupleIter it l i) (hl : s.heap.IsTuple l items) (hx : items[i]? = none)
    (hQ : ∀ h', (∀ b o, b ≠ it → s.heap.get? b = some o → h'.get? b = some o) → Q none { s with heap := h' }) : wpAny (model prog w) A (pyNext (.ref it)) Q E s := by
  obtain ⟨o, ho, hc, hd⟩ := id hit
  obtain ⟨ol, hol, _, nl, hdl⟩ := hl
  obtain ⟨hh, o1, vs1, g1, d1, c1⟩ := hot
  unfold pyNext
  refine wpAny_bind (wpAny_attempt (wpAny_callSpecial?_slot (name := Str.ofString "__next__") hit.typeIs F.slot_tuple_iterator_next
    (wpAny_call_entry F.slot_tuple_iterator_next hit.typeIs F.entry_tuple_iterator_next ?_ (F.args_tuple_iterator_next_1 _))))
  show wpAny _ _ (field (.ref it) 0 >>= _) _ _ s
  refine wpAny_bind (wpAny_field ho hd (x := .ref l) rfl ?_)
  show wpAny _ _ (if (Value.ref l == Value.none) = true then _ else _) _ _ s
  rw [if_neg (show ¬ ((Value.ref l == Value.none) = true) from Bool.false_ne_true)]
  show wpAny _ _ (field (.ref it) 1 >>= _) _ _ s
  refine wpAny_bind (wpAny_field ho hd (x := .int i 0) rfl ?_)
  show wpAny _ _ (seqItems? (.ref l) >>= _) _ _ s
  refine wpAny_bind (wpAny_seqItems hol hdl ?_)
  simp only [Int.toNat_natCast, hx]
  refine wpAny_bind (wpAny_rule (wpAny_bind (wpAny_setField ho hd (by simp) ?_)))
  show wpAny _ _ (newExc (.type "StopIteration") [] >>= _) _ _ _
  refine wpAny_bind ?_
  simp only [newExc, newTuple]
  refine wpAny_bind (wpAny_newObj_type ?_ (by size_fits))
  refine wpAny_bind (m := firstArgMember _ _) (wpAny_of_eq (a := Value.none) (by first | rfl | (simp only [firstArgMember]; rfl)) ?_)
  refine wpAny_newObj_type ?_ (by size_fits)
  have up : ∀ (f : Obj → Obj) (b : Addr) (u : Obj), b ≠ it → s.heap.get? b = some u → (s.heap.update it f).get? b = some u := fun f b u hb e => (Heap.get?_update_other _ _ (Ne.symm hb)).trans e
  have g2 := up (Obj.mapFields (·.setIfInBounds 0 Value.none)) x1 o1 h1i g1
  refine raiseNew_hot ⟨hh, o1, vs1, Heap.get?_push_of_some _ (Heap.get?_push_of_some _ g2), d1, c1⟩ (Nat.ne_of_lt (Heap.lt_size (Heap.get?_push_of_some _ g2))) (Heap.get?_push_size _ rfl) rfl (by first | (simp; done) | (simp; omega) | (simp only [Array.size_append]; simp; omega)) ?_
  refine wpAny_bind (wpAny_isInstance (T := "StopIteration") (b := true) ⟨_, Heap.get?_update_self _ (Heap.get?_push_size _ rfl) rfl, rfl⟩ isSubtype_stop ?_)
  refine wpAny_pure (hQ _ fun b o hb e => ?_)
  have e2 := up (Obj.mapFields (·.setIfInBounds 0 Value.none)) b o hb e
  refine (Heap.get?_update_other _ _ ?_).trans (Heap.get?_push_of_some _ (Heap.get?_push_of_some _ e2))
  exact Nat.ne_of_gt (Heap.lt_size (Heap.get?_push_of_some _ e2))
theorem assignT_hot {env : Env} {elts : List Expr} {k : Nat} {pos : Pos} {t x1 : Addr} {items : Array Value} {Q : Unit → Shared → Prop} (hot : HotAt A x1 s.heap) (ht : s.heap.IsTuple t items) (hn : (assignEach elts env).length = items.size) (hstar : (assignEach elts env).findIdx? (·.1) = none)
    (h : ∀ h', (∀ b o, s.heap.get? b = some o → h'.get? b = some o) → wpAny (model prog w) A (assignInOrder ((assignEach elts env).map (·.2)) items.toList) Q E { s with heap := h' }) : wpAny (model prog w) A (assign (.Tuple elts k pos) env (.ref t)) Q E s := by
  have hlt : t ≠ s.heap.objs.size := by obtain ⟨o, ho, _⟩ := ht; exact Nat.ne_of_lt (Heap.lt_size ho)
  obtain ⟨hh, o1, vs1, g1, d1, c1⟩ := hot
  have h1 : x1 ≠ s.heap.objs.size := Nat.ne_of_lt (Heap.lt_size g1)
  rw [arm_assign_Tuple]
  refine wpAny_bind (wpAny_standAt ?_)
  unfold unpack
  rw [hn, hstar]
  refine wpAny_bind (wpAny_holding ?_)
  unfold unpackItems
  refine wpAny_bind ?_
  unfold notIterableAtAll
  refine wpAny_bind (wpAny_specialOf ht.typeIs F.slot_tuple_iter.lookup ?_)
  refine wpAny_pure ?_
  simp only [Bool.false_eq_true, if_false]
  refine wpAny_bind (wpAny_holding (wpAny_pyIter_tuple ht ?_))
  refine wpAny_bind (wpAny_holding (wpAny_draw_tuple hlt items.size 0 _ _ ⟨_, Heap.get?_push_size _ rfl, rfl, rfl⟩ (ht.push _) (by omega) fun h₁ hit₁ hs₁ => ?_))
  have hall : List.take items.size (List.drop 0 items.toList) = items.toList := by
    rw [List.drop_zero]
    exact List.take_of_length_le (by simp)
  rw [hall, if_neg (by simp)]
  refine wpAny_bind (wpAny_holding (tuple_end_hot (x1 := x1) ⟨hh, o1, vs1, hs₁.extBut _ _ h1 (Heap.get?_push_of_some _ g1), d1, c1⟩ h1 hit₁ ((ht.push _).extBut hs₁.extBut hlt) (by simp) fun h₂ he₂ => ?_))
  simp only [Option.isSome_none, Bool.false_eq_true, if_false]
  exact wpAny_pure (h h₂ fun b o e => he₂ b o (Nat.ne_of_lt (Heap.lt_size e)) (hs₁.extBut b o (Nat.ne_of_lt (Heap.lt_size e)) (Heap.get?_push_of_some _ e)))
end
/-- what a walked thing does where some exception may be handled: its end is asked at the state -/
structure TurnX (P : Program) (w : World) (K : PySem.W.Frag) (tg : Expr) (J : It) (fp : List Addr) (it : Addr) (tn : Nat → Heap → Prop) : Prop where
  mem : it ∈ fp
  obj : ∀ i h, tn i h → ∀ b ∈ fp, ∃ o, h.get? b = some o ∧ ∀ v, o.data ≠ .cell v
  keep : ∀ i h h', tn i h → (∀ b ∈ fp, ∀ o, h.get? b = some o → h'.get? b = some o) → tn i h'
  item : ∀ (X : Cx), X.prog = P → X.w = w → X.K = K → ∀ (i : Nat) (pins : List (Addr × Obj)) (s : Shared) (σ : L2.St) (H : Hp) (E : Value → Shared → Prop), Inv X pins σ H s → (∀ b ∈ fp, FpOk X pins H b) → tn i s.heap → J.go i H →
    wpAny (model P w) X.A (pyNext (.ref it)) (fun r s1 => ∃ u, r = some u ∧
      wpAny (model P w) X.A (letOwnedTupleGo tg (.ref it) u) (fun _ s2 => ∃ x H', Inv X pins σ H' s2 ∧ RelV x u ∧ J.yld i H x H' ∧ tn (i + 1) s2.heap ∧ ∀ b ∈ fp, H' b = none) E s1) E s
  done : ∀ (X : Cx), X.prog = P → X.w = w → X.K = K → ∀ (i : Nat) (pins : List (Addr × Obj)) (s : Shared) (σ : L2.St) (H : Hp) (E : Value → Shared → Prop), (∃ x1, HotAt X.A x1 s.heap ∧ x1 ∉ fp) → Inv X pins σ H s → (∀ b ∈ fp, FpOk X pins H b) → tn i s.heap → J.stop i H →
    wpAny (model P w) X.A (pyNext (.ref it)) (fun r s1 => r = none ∧ Inv X pins σ H s1) E s
  self : ∀ (A : Around) (i : Nat) (s : Shared) (Q : Value → Shared → Prop) (E : Value → Shared → Prop), tn i s.heap → Q (.ref it) s → wpAny (model P w) A (pyIter (.ref it)) Q E s
theorem turnX_list {P : Program} {w : World} {K : PySem.W.Frag} {tg : Expr} (a it : Addr) : TurnX P w K tg (Itl K a) [it] it (fun i h => h.IsListIter it a i) where
  mem := List.mem_cons_self
  obj := (turn_list (P := P) (w := w) (K := K) (tg := tg) a it).obj
  keep := (turn_list (P := P) (w := w) (K := K) (tg := tg) a it).keep
  item := by
    intro X hP hw hK i pins s σ H E I hf st hg
    subst hP hw hK
    obtain ⟨xs, x, hq, hx⟩ := hg
    obtain ⟨its, rv, p, hz⟩ := I.list hq
    obtain ⟨u, hu, ru⟩ := rv.get hx
    obtain ⟨f0, f1, f2, f3, f4, f5⟩ := hf it List.mem_cons_self
    refine wpAny_pyNext_list_item st p.isList (x := u) (by simpa using hu) fun h' st' sb => ?_
    have I1 : Inv X pins σ H { s with heap := h' } := I.turned (t' := s.toks) (fun b o hb e => (sb.2 b hb).trans e) f0 f1 f3 f4 f5
    obtain ⟨o, e, c, d⟩ := id st'
    exact ⟨u, rfl, go_of (s := { s with heap := h' }) e c d (by decide) ⟨x, H, I1, ru, ⟨rfl, fun ys hy => by rw [I.list_inj hy hq]; exact hx⟩, st', fun b hb => (hf b hb).1⟩⟩
  done := by
    intro X hP hw hK i pins s σ H E hot I hf st hg
    subst hP hw hK
    obtain ⟨xs, hq, hx⟩ := hg
    obtain ⟨its, rv, p, hz⟩ := I.list hq
    obtain ⟨f0, f1, f2, f3, f4, f5⟩ := hf it List.mem_cons_self
    obtain ⟨x1, hot, hn⟩ := hot
    have hl := rv.length
    exact list_end_hot hot (fun z => hn (by rw [z]; exact List.mem_cons_self)) st p.isList (by simp; omega) fun h' eb => ⟨rfl, I.turned (t' := s.toks) (fun b o hb e => eb b o hb e) f0 f1 f3 f4 f5⟩
  self := (turn_list (P := P) (w := w) (K := K) (tg := tg) a it).self
def PIX (X : Cx) (pins : List (Addr × Obj)) (σ : L2.St) (tg : Expr) (R : It → Hp → Prop) (itv : Value) (s2 : Shared) : Prop :=
  ∃ (it : Addr) (fp : List Addr) (tn : Nat → Heap → Prop) (J : It) (H' : Hp), itv = .ref it ∧ Inv X pins σ H' s2 ∧ TurnX X.prog X.w X.K tg J fp it tn ∧ tn 0 s2.heap ∧ (∀ b ∈ fp, FpOk X pins H' b) ∧ R J H'
def iWX (X : Cx) (tg iter : Expr) : TI := fun σ H R => ∀ (pins : List (Addr × Obj)) (s : Shared), Inv X pins σ H s → wpAny (model X.prog X.w) X.A (eval iter X.env) (fun v s1 => wpAny (model X.prog X.w) X.A (pyIter v) (PIX X pins σ tg R) X.xe s1) X.xe s
theorem iWX_list {X : Cx} {tg iter : Expr} {te : TE} (he : PE X iter te) {σ : L2.St} {H : Hp} {R : It → Hp → Prop} (h : te σ H fun x H1 => ∃ a, x = V.ref a ∧ (∃ xs, SqL X.K H1 a xs) ∧ R (Itl X.K a) H1) : iWX X tg iter σ H R := by
  intro pins s I
  refine thn (he.run pins s σ H _ I h) fun v s1 ⟨x, H1, I1, r1, a, e, ⟨xs, hq⟩, q⟩ => ?_
  subst e
  cases r1
  obtain ⟨its, rv, p, hz⟩ := I1.list hq
  refine wpAny_pyIter_list p.isList ?_
  refine ⟨s1.heap.objs.size, [s1.heap.objs.size], _, _, H1, rfl, I1.kept (t' := s1.toks) fun b o e => Heap.get?_push_of_some _ e, turnX_list a _, ⟨_, Heap.get?_push_size _ rfl, rfl, rfl⟩, fun b hb => ?_, q⟩
  have e : b = s1.heap.objs.size := by simpa using hb
  subst e
  exact I1.fpOk (Nat.le_refl _) (I1.hok.fresh (Nat.le_refl _))
/-- a target, stored where the pin p bears the handled exception -/
def PGp (X : Cx) (p : Addr × Obj) (tg : Expr) (g : TG) : Prop := ∀ (pins : List (Addr × Obj)) (s : Shared) (σ : L2.St) (H : Hp) (v : V) (u : Value) (Q : L2.St → Hp → Prop), p ∈ pins → Inv X pins σ H s → RelV v u → g v σ H Q →
  wpAny (model X.prog X.w) X.A (assign tg X.env u) (fun _ s' => ∃ σ' H', Inv X pins σ' H' s' ∧ Q σ' H') X.xe s
theorem pgp_tup {X : Cx} {p : Addr × Obj} {es : List Expr} {k : Nat} {pos : Pos} {t : TGs} {n : Nat} (hot : Hot1 X.A p) (h : PGs X es t) (hn : (assignEach es X.env).length = n := by rfl) (hst : (assignEach es X.env).findIdx? (·.1) = none := by rfl) : PGp X p (.Tuple es k pos) (gTup X.K n t) := by
  intro pins s σ H v u Q hp I r hw
  obtain ⟨a, xs, e1, hq, hl, hw⟩ := hw
  subst e1
  cases r
  obtain ⟨its, rv, ht, hz⟩ := I.tuple hq
  obtain ⟨hh, vs1, d1, c1⟩ := hot
  have P := I.pin p (List.mem_append_right _ hp)
  refine assignT_hot (x1 := p.1) ⟨hh, p.2, vs1, P.1, d1, c1⟩ (show s.heap.IsTuple a its.toArray from ht) (by simp [hn, ← hl, rv.length]) hst fun h' hx => ?_
  exact h.run pins _ σ H xs _ Q (I.kept (t' := s.toks) fun b o e => hx b o e) (by simpa using rv) hw
/-- a comprehension over it -/
theorem pe_lcX {X : Cx} {elt tg iter : Expr} {ifs : List Expr} {scope : Scope} {own : List (Str × Nat)} {pos : Pos} {g : TG} {tt : TT} {te : TE} (hot : HotC X) (hN : X.N.Nodup) (ok : BlkOk X.N X.env.scope scope own)
    (hg : ∀ (p : Addr × Obj), Hot1 X.A p → ∀ (s : Shared) (H : Hp) (C : Addr) (cl : List (Str × Addr)) (fp : List Addr), PGp (X.blk s H scope (compEnvC scope cl C X.env) fp) p tg g) (ht : ∀ (s : Shared) (H : Hp) (C : Addr) (cl : List (Str × Addr)) (fp : List Addr), PTs (X.blk s H scope (compEnvC scope cl C X.env) fp) ifs tt)
    (he : ∀ (s : Shared) (H : Hp) (C : Addr) (cl : List (Str × Addr)) (fp : List Addr), PE (X.blk s H scope (compEnvC scope cl C X.env) fp) elt te) (hs : ∀ x, foldedSetIterable iter X.env x = pure x := by intro _; rfl) :
    PE X (.ListComp elt [⟨tg, iter, ifs, 0⟩] scope pos) (tLc (iWX X tg iter) g tt te (own.map (·.2))) := by
  refine ⟨fun pins s σ H Q I h => ?_⟩
  rw [eval_ListComp]
  obtain ⟨pE, ⟨hh, v1, d1, c1⟩, hpin⟩ := hot
  have hfree : ∀ y ∈ scope.names, y.2 = .free → ∃ c, X.env.cells.lookup y.1 = some c := fun y hy e => (ok.free y hy e).elim (fun k => I.ok.has _ (.inl k)) fun k => I.ok.has _ (.inr k)
  refine wpAny_comprehension_free rfl hs (closure_ok hfree) ok.kind (fun y hy e => by rw [ok.uniq y hy, e]) (thn (h pins s I) fun xv s1 hx => thn hx fun itv s2 h2 => ?_)
  obtain ⟨it, fp, tn, J, H2, e, I2, T, st2, f2, q⟩ := h2
  subst e
  refine wpAny_newObj_type (newEnv_comp ?_) (by show 0 ≤ sizeLine; decide)
  obtain ⟨D, hD⟩ : ∃ D, D = s2.heap.objs.size := ⟨_, rfl⟩
  rw [← hD]
  have hDn : H2 D = none := I2.hok.fresh (Nat.le_of_eq hD.symm)
  obtain ⟨Wk, ⟨m0, w0⟩, turn⟩ := q D hDn
  obtain ⟨s3, hs3⟩ : ∃ s3 : Shared, s3 = { s2 with heap := s2.heap.push { cls := .type "list", data := .seq ([] : List Value).toArray } } := ⟨_, rfl⟩
  have h3 : s3.heap = s2.heap.push { cls := .type "list", data := .seq ([] : List Value).toArray } := by rw [hs3]
  have I3 : Inv X pins σ (upd H2 D (.lst [])) s3 := by
    rw [hs3]
    exact I2.laid (t' := s2.toks) (fun b o e => Heap.get?_push_of_some _ e) (Nat.le_of_eq hD.symm) ⟨Nat.zero_le _, [], 0, .nil, by rw [hD]; exact Heap.get?_push_size _ rfl⟩
  have f3 : ∀ b ∈ fp, FpOk X pins (upd H2 D (.lst [])) b ∧ b < s3.heap.objs.size := fun b hb => by
    obtain ⟨o, eo, _⟩ := T.obj _ _ st2 b hb
    have hlt := Heap.lt_size eo
    refine ⟨⟨?_, (f2 b hb).2⟩, by rw [h3, Heap.size_push]; exact Nat.lt_succ_of_lt hlt⟩
    rw [upd_ne (by rw [hD]; exact Nat.ne_of_lt hlt)]
    exact (f2 b hb).1
  have st3 : tn 0 s3.heap := T.keep _ _ _ st2 fun b _ o e => by rw [h3]; exact Heap.get?_push_of_some _ e
  have P3 := I3.pin pE (List.mem_append_left _ hpin)
  have I4 := block_start I3 ok hN f3
  obtain ⟨ce, hce⟩ : ∃ ce, ce = compEnvC scope (cellsFrom (s3.heap.objs.size + 1) scope.names (cloFrom X.env.cells scope.names [])) s3.heap.objs.size X.env := ⟨_, rfl⟩
  have pg := hg pE ⟨hh, v1, d1, c1⟩ s3 (upd H2 D (.lst [])) s3.heap.objs.size (cellsFrom (s3.heap.objs.size + 1) scope.names (cloFrom X.env.cells scope.names [])) fp
  have pt := ht s3 (upd H2 D (.lst [])) s3.heap.objs.size (cellsFrom (s3.heap.objs.size + 1) scope.names (cloFrom X.env.cells scope.names [])) fp
  have pe := he s3 (upd H2 D (.lst [])) s3.heap.objs.size (cellsFrom (s3.heap.objs.size + 1) scope.names (cloFrom X.env.cells scope.names [])) fp
  rw [← hce] at I4 pg pt pe
  have cL : ce.locals = s3.heap.objs.size := by rw [hce]; rfl
  obtain ⟨s4, hs4⟩ : ∃ s4 : Shared, s4 = { s3 with heap := pushCells (s3.heap.push { cls := .type "dict", data := .dict #[] }) scope.names } := ⟨_, rfl⟩
  rw [← hs4] at I4
  have st4 : tn 0 s4.heap := T.keep _ _ _ st3 fun b _ o e => by rw [hs4]; exact pushCells_keeps _ _ _ _ (Heap.get?_push_of_some _ e)
  have stat : ∀ {σ' : L2.St} {H' : Hp} {s' : Shared}, Inv (X.blk s3 (upd H2 D (.lst [])) scope ce fp) [] σ' H' s' → (∀ b ∈ fp, H' b = none) → ∀ b ∈ fp, FpOk (X.blk s3 (upd H2 D (.lst [])) scope ce fp) [] H' b := fun {σ' H' s'} I' hn b hb =>
    ⟨hn b hb, (I'.ok.exf b hb).1, I'.ok.exfs b hb, .inl hb, fun x c e => (I'.ok.exf b hb).2 x c e, fun p hp => absurd (show p ∈ ([] : List (Addr × Obj)) ++ [] from hp) (by simp)⟩
  -- the handled exception stands through the block
  have pfp : pE.1 ∉ fp := fun z => (f2 _ z).2.2.2.2.2 pE (List.mem_append_left _ hpin) rfl
  have pinB : ∀ {σ' : L2.St} {H' : Hp} {s' : Shared}, Inv (X.blk s3 (upd H2 D (.lst [])) scope ce fp) [] σ' H' s' → s'.heap.get? pE.1 = some pE.2 ∧ H' pE.1 = none ∧ pE.1 ≠ ce.locals ∧ pE.1 ∉ frs X.stack ∧ ∀ v, pE.2.data ≠ .cell v := fun {σ' H' s'} I' => by
    have nf : pE.1 ∉ frs X.stack := fun z => (List.mem_cons.mp (I3.stkSub pE.1 z)).elim P3.2.2.1 P3.2.2.2.1
    exact ⟨I'.base.keep pE.1 pE.2 P3.1 P3.2.1 nf pfp, I'.base.free pE.1 pE.2 P3.1 P3.2.1 pfp, by rw [cL]; exact Nat.ne_of_lt (Heap.lt_size P3.1), nf, P3.2.2.2.2⟩
  have hotB : ∀ {σ' : L2.St} {H' : Hp} {s' : Shared}, Inv (X.blk s3 (upd H2 D (.lst [])) scope ce fp) [] σ' H' s' → ∃ x1, HotAt X.A x1 s'.heap ∧ x1 ∉ fp := fun {σ' H' s'} I' =>
    ⟨pE.1, ⟨hh, pE.2, v1, I'.base.keep pE.1 pE.2 P3.1 P3.2.1 (fun z => (List.mem_cons.mp (I3.stkSub pE.1 z)).elim P3.2.2.1 P3.2.2.2.1) pfp, d1, c1⟩, pfp⟩
  have loop : codeAny (model X.prog X.w) X.A (.compLoop (.ListComp elt [⟨tg, iter, ifs, 0⟩] scope pos) 0 (.ref it) (.ref D) ce) (compPost (model X.prog X.w) X.A X.xe none (EP X pins σ Q) (.ref D) s3.heap.objs.size) s4 := by
    refine compLoop_any (fun n s' => ∃ i H', Inv (X.blk s3 (upd H2 D (.lst [])) scope ce fp) [] (wipe σ (own.map (·.2))) H' s' ∧ tn i s'.heap ∧ (∀ b ∈ fp, H' b = none) ∧ Wk i n H') ?_ m0 ⟨0, _, I4, st4, fun b hb => (f3 b hb).1.1, w0⟩
    rintro n s5 ⟨i, H5, I5, st5, n5, w5⟩
    rcases turn i n H5 w5 with ⟨stop, qq⟩ | ⟨go, Nx, hNx, step⟩
    · refine thnF (T.done (X.blk s3 (upd H2 D (.lst [])) scope ce fp) rfl rfl rfl i [] s5 _ H5 (fun _ _ => False) (hotB I5) I5 (stat I5 n5) st5 stop) fun r s6 ⟨hr, I6⟩ => ?_
      subst hr
      have I7 : Inv X pins σ H5 s6 := I3.call' (ch := fp) I6.os I6.base I6.hok I6.bare fun b hb => ⟨(f3 b hb).1.2.2.2.1, (f3 b hb).1.2.1, (f3 b hb).1.2.2.2.2.1, (f3 b hb).1.2.2.2.2.2⟩
      have nC : H5 ce.locals = none := I6.free
      obtain ⟨m, hn, _⟩ := I6.loc
      have hn : s6.heap.Ns ce.locals m := hn
      rw [cL] at hn nC
      obtain ⟨w0, w1, w2, w3, w4, w5⟩ := I3.fpOk (Nat.le_refl _) nC
      exact ⟨m, hn, fun h'' sb => ⟨.ref D, H5, I7.turned (t' := s6.toks) (fun b o hb e => (sb.2 b hb).trans e) w0 w1 w3 w4 w5, rfl, qq⟩⟩
    · refine thnF (T.item (X.blk s3 (upd H2 D (.lst [])) scope ce fp) rfl rfl rfl i [] s5 _ H5 (fun _ _ => False) I5 (stat I5 n5) st5 go) fun r s6 ⟨u, hr, h6⟩ => ?_
      subst hr
      refine thnF h6 fun _ s7 ⟨x, H7, I7, r7, y7, st7, n7⟩ => ?_
      have I7p : Inv (X.blk s3 (upd H2 D (.lst [])) scope ce fp) (pE :: ([] ++ pinsAt fp s7.heap)) (wipe σ (own.map (·.2))) H7 s7 := (I7.pinned (stat I7 n7) (T.obj _ _ st7)).pins_of fun z hz => by
        rcases List.mem_cons.mp hz with e | hz
        · rw [e]
          exact pinB I7
        · exact (I7.pinned (stat I7 n7) (T.obj _ _ st7)).pin z (List.mem_append_right _ hz)
      refine thnF (pg _ s7 _ H7 x u _ List.mem_cons_self I7p r7 (step x H7 y7)) fun _ s8 ⟨σ8, H8, I8, hw8, q8⟩ => ?_
      replace I8 : Inv (X.blk s3 (upd H2 D (.lst [])) scope ce fp) ([] ++ pinsAt fp s7.heap) σ8 H8 s8 := I8.pins_of fun z hz => I8.pin z (List.mem_append_right _ (List.mem_cons_of_mem _ hz))
      refine thnF (pt.run _ s8 σ8 H8 _ I8 q8) fun b s9 ⟨H9, I9, q9⟩ => ?_
      have fin : ∀ {s' : Shared} {H' : Hp}, Inv (X.blk s3 (upd H2 D (.lst [])) scope ce fp) ([] ++ pinsAt fp s7.heap) σ8 H' s' → Nx H' → ∃ m, m < n ∧ ∃ i H', Inv (X.blk s3 (upd H2 D (.lst [])) scope ce fp) [] (wipe σ (own.map (·.2))) H' s' ∧ tn i s'.heap ∧ (∀ b ∈ fp, H' b = none) ∧ Wk i m H' := fun {s' H'} I' nx => by
        obtain ⟨m', hm, w'⟩ := hNx H' nx
        have pin' : ∀ b ∈ fp, ∀ o, s7.heap.get? b = some o → s'.heap.get? b = some o ∧ H' b = none := fun b hb o e =>
          let z := I'.pin (b, o) (List.mem_append_right _ (List.mem_append_right _ (mem_pinsAt hb e)))
          ⟨z.1, z.2.1⟩
        refine ⟨m', hm, i + 1, H', (I'.unpinned (pins := [])).weak (by rw [← hw8, wipe_length]) (fun j v e => ?_), T.keep _ _ _ st7 fun b hb o e => (pin' b hb o e).1, fun b hb => ?_, w'⟩
        · rw [← hw8] at e
          exact (wipe_some e).1
        · obtain ⟨o, e, _⟩ := T.obj _ _ st7 b hb
          exact (pin' b hb o e).2
      cases b with
      | false =>
        simp only [Bool.false_eq_true, if_false] at q9 ⊢
        exact fin I9 q9
      | true =>
        simp only [if_true] at q9 ⊢
        refine thnF (pe.run _ s9 σ8 H9 _ I9 q9) fun z s10 ⟨yv, H10, I10, r10, acc, hD10, hz10, nx⟩ => ?_
        exact app_ok (X := X.blk s3 (upd H2 D (.lst [])) scope ce fp) I10 hD10 hz10 r10 fun s11 I11 => fin I11 nx
  rw [hs4, hce] at loop
  rw [hs4] at st4
  have := codeAny_compStart_list loop (T.self X.A 0 _ _ _ st4 loop)
  rw [hs3] at this
  exact this
section
variable {X : Cx} {W : Wd} {ρ : List Sl} {pos : Pos} {tg iter elt c : Expr} {scope : Scope} {own : List (Str × Nat)} {R : List PyData → Prop}
/-- [elt for x in xs if c], xs an own list -/
theorem el_lcX (i : Nat) {x : Str} {px : Pos} {dl : List PyData} {g : TG} {js : List Nat} {dec : PyData → Option (List PyData)} (gz : GgZ X.K g js dec) (hg : ∀ (p : Addr × Obj), Hot1 X.A p → ∀ (s : Shared) (H : Hp) (C : Addr) (cl : List (Str × Addr)) (fp : List Addr), PGp (X.blk s H scope (compEnvC scope cl C X.env) fp) p tg g)
    (hot : HotC X) (nd : X.N.Nodup) (ok : BlkOk X.N X.env.scope scope own) (ej : own.map (·.2) = js) (hρ : ρ[i]? = some (.im (.list dl)))
    (h : dl.length ≤ sizeLine ∧ ∃ P : Nat → List PyData → Prop, P 0 [] ∧ (∀ i d acc, dl[i]? = some d → P i acc → acc.length ≤ i → ∃ xs, dec d = some xs ∧
      ∀ Y, Blk X scope Y → ∀ W' : Wd, W'.T = W.T → Et Y W' c (setZ (disown (wipeZ ρ js)) js xs) fun k =>
        (k = true → ∀ Y, Blk X scope Y → ∀ W' : Wd, W'.T = W.T → Ev Y W' elt (setZ (disown (wipeZ ρ js)) js xs) fun y => P (i + 1) (acc ++ [y])) ∧ (k = false → P (i + 1) acc)) ∧ ∀ acc, P dl.length acc → acc.length ≤ dl.length → R acc)
    (hN : X.N[i]? = some x := by rfl) (hv : Vis X.env.scope x := by first | exact Or.inl rfl | exact Or.inr (Or.inl rfl) | exact Or.inr (Or.inr rfl)) (hd : (x == ("__debug__" : Str)) = false := by decide) (hcd : (x == ("__classdict__" : Str)) = false := by decide)
    (hs : ∀ y, foldedSetIterable (.Name x px) X.env y = pure y := by intro _; rfl) : El X W (.ListComp elt [⟨tg, .Name x px, [c], 0⟩] scope pos) ρ R := by
  subst ej
  refine ⟨fun σ H B Q L k => (pe_lcX hot nd ok hg (fun _ _ _ _ _ => pts_one blkT) (fun _ _ _ _ _ => blkE) hs).toZ ?_⟩
  refine lc_runG gz (fun σ H B Q L k => iWX_list (pe_var hN hv hd hcd) ?_) L k
  obtain ⟨v, h1, h2⟩ := L.at' i _ hρ
  obtain ⟨p, vs, rfl, h3, h4⟩ := dp_list h2
  obtain ⟨hl, P, p0, turn, fin⟩ := h
  refine ⟨.ref p, h1, p, rfl, ⟨vs, SqL.of (L.gr.sub _ _ h3)⟩, k _ H B _ (Same.refl _) L (walk_list h3 h4) ⟨hl, P, p0, fun i d acc g1 g2 g3 => ?_, fin⟩⟩
  obtain ⟨xs, e1, e2⟩ := turn i d acc g1 g2 g3
  exact ⟨xs, e1, ttZ fun Y hY W' hW => (e2 Y hY W' hW).imp fun k hk => ⟨fun z => teZ (hk.1 z), hk.2⟩⟩
end
end Z

/-! exceptions: raised in a method, caught in a def that asks their kind -/
namespace Z
open PySem PySem.Spec PyProof.Rows L2 L2H
/-! ### isinstance of the exception in hand -/
theorem call_isP {X : Cx} {p : Addr × Obj} {D : Addr} (hp : p ∈ X.pn) (C : ExcC X.K D) (hz : Zc (.ref D) none p.2) (hf : ∃ vs, p.2.data = .fields vs) : CallR X (.builtin "isinstance") (rIsE X.K D p.1) := by
  intro pins s σ H xs us Q I r h
  obtain ⟨c, cv, b, rfl, hcv, e, q⟩ := h
  cases r with
  | cons rx rr =>
    cases rr with
    | cons rt rr =>
      cases rr
      cases rx
      have ec := hcv _ rt
      subst ec
      obtain ⟨hget, _⟩ := I.pin p (List.mem_append_left _ hp)
      obtain ⟨vs, hv⟩ := hf
      have J : PySem.W.InstAt s.heap p.1 p.2 D none := by
        obtain ⟨pa, oc, od, oda, osl⟩ := p
        obtain ⟨z1, z2⟩ := hz
        dsimp only at z1 z2 hv
        subst z1 z2 hv
        exact ⟨hget, rfl, rfl, trivial⟩
      exact PySem.W.kia_one (PySem.W.handS_kitx_exc C.hg C.hk C.hs C.hd C.ha C.hn C.ht C.hm) I.kIn J e (fun z => nomatch z) fun tk => ⟨.bl b, H, I.kept (t' := tk) fun _ _ z => z, rfl, q⟩
section
variable {X : Cx} {W : Wd} {ρ : List Sl} {R : PyData → Prop} {pos : Pos}
theorem ev_isE (i : Nat) {p : Addr × Obj} {D C' : Addr} {b : Bool} {x y : Str} {px py p0 : Pos} (hρ : ρ[i]? = some (.ptr p.1)) (hp : p ∈ X.pn) (C : ExcC X.K D) (hz : Zc (.ref D) none p.2) (hf : ∃ vs, p.2.data = .fields vs) (hm : X.mg "isinstance" = none) (hc : X.mg y = some (.ref C'))
    (hk : PySem.W.kitOne X.K (.ref D) (.ref C') = some b) (h : R (.bool b)) (hN : X.N[i]? = some x := by rfl) (hv : Vis X.env.scope x := by first | exact Or.inl rfl | exact Or.inr (Or.inl rfl) | exact Or.inr (Or.inr rfl)) (hd : (x == ("__debug__" : Str)) = false := by decide) (hcd : (x == ("__classdict__" : Str)) = false := by decide)
    (hdy : (y == ("__debug__" : Str)) = false := by decide) (hg : Gl X "isinstance" := by rfl) (hgy : Gl X y := by rfl) (he : starEach [.Name x px, .Name y py] X.env = (false, eval (.Name x px) X.env) :: starEach [.Name y py] X.env := by rfl) (he2 : starEach [.Name y py] X.env = (false, eval (.Name y py) X.env) :: starEach [] X.env := by rfl)
    (hpl : (backTo pos (starEach [.Name y py] X.env)).any (·.1) = false := by rfl) : Ev X W (.Call (.Name "isinstance" p0) [.Name x px, .Name y py] [] pos) ρ R := by
  refine ⟨fun σ H B Q L k => (pe_callB (call_isP hp C hz hf) hg hm boot_isinstance (pa_cons (pe_var hN hv hd hcd) (pa_cons (pe_glob hgy hc (v := V.ref C') rfl hdy) pa_nil he2) he) (by decide) (by decide) he hpl).toZ ?_⟩
  have e1 := L.at' i _ hρ
  exact ⟨V.ref p.1, e1, V.ref C', .ref C', b, rfl, (fun u r => r), hk, k _ H B _ (Same.refl _) L (.bl _) h⟩
end
/-! ### a def called with it -/
def FnE (P : Program) (w : World) (K : PySem.W.Frag) (mg : Str → Option Value) (base : Heap) (k : Nat) (f D : Addr) (S : Str) : Prop := ∀ (A : Around) (outer : List Env) (s : Shared) (H : Hp) (Q : VK) (p : Addr × Obj) (B : Hp), RoomH k A → Hot1 A p → PinOk outer H s p → Zc (.ref D) none p.2 →
  Env0 P w K mg base A outer s H → Same B H → (∀ H' B', Gr K ⟨none, (0, []), B, H⟩ B' H' → Q (.str S) H') → codeAny (model P w) A (.call (.ref f) ⟨[.ref p.1], []⟩) (CR CX0 outer P w H s Q E0) s
theorem start_ptr {K : PySem.W.Frag} {B H : Hp} {N : List Str} {a : Addr} (hN : N ≠ []) (s : Same B H) : Lay K ⟨none, (0, []), B, H⟩ B H (L2.start N [V.ref a]) (.ptr a :: startZ N.tail []) := start_obj hN s (fun _ _ z => z) .nil rfl
theorem fn_E {P : Program} {w : World} {K : PySem.W.Frag} {mg : Str → Option Value} {base : Heap} {x qual : Str} {st : Stmt} {f D : Addr} {fd : FuncData} {N : List Str} {k : Nat} {S : Str} (F : Fun K x qual st f fd) (Sc : FnScope N ["e"] (defScope st)) (bi : Binds K fd ["e"] []) (hN : N ≠ [])
    (body : ∀ (cdv : Value) (A : Around) (outer : List Env) (s : Shared) (H : Hp) (p : Addr × Obj) (W : Wd), Hot1 A p → Zc (.ref D) none p.2 → RoomH k (A.deeper (envOfC qual (defScope st) s.heap.objs.size f cdv)) →
      Ess (cxH CX0 P w K mg base N qual (defScope st) f cdv A outer s H E0 p) W (defBody st) (.ptr p.1 :: startZ N.tail []) { nx := fun _ => False, rt := fun d => d = .str S }) : FnE P w K mg base (k + 1) f D S := by
  intro A outer s H Q p B hr hot hpin hz e0 sB hQ
  obtain ⟨oc, od, kV, doc, pm, an, cdv, ct, osl, rfl, lk, hcd⟩ := F.ex
  have KX : K.In s.heap := e0.mod.kin.keeps fun b o e => (e0.bs b o e).1
  have lim : s.heap.NoLimit := e0.mod.nolimit.keeps fun b o e => (e0.bs b o e).1
  have hb := bi s [.ref p.1] KX rfl
  have hkind : ∀ y ∈ (["e"] : List Str).zip [Value.ref p.1], (defScope st).names.lookup y.1 = some .local ∨ ((defScope st).names.lookup y.1 = some .cell ∧ ((cellsFrom (s.heap.objs.size + 1) (defScope st).names []).lookup y.1).isSome = true) := fun ⟨n, v⟩ hy => by
    rcases Sc.par n (List.of_mem_zip hy).1 with q | q
    · exact .inl q
    · exact .inr ⟨q, PySem.W.cellsFrom_some _ _ _ (.inl q)⟩
  refine codeAny_call_function hr.depth (KX _ _ lk) rfl Sc.co Sc.gen rfl (PySem.W.codeRec_of KX hcd) (hb _ _ _ _ ?_)
  refine wpAny_newFunctionEnv_cells Sc.kind hkind fun env he s1 x => ?_
  subst he
  refine ⟨lim.keeps x.toInCall.keep, codeAny_func ?_⟩
  have I : Inv (cxH CX0 P w K mg base N qual (defScope st) f cdv A outer s H E0 p) [] (L2.start N [V.ref p.1]) H s1 := inv_startH Sc hpin e0 rfl (.cons rfl .nil) x
  refine wpAny_mono ((body cdv A outer s H p ⟨none, (0, []), B, H⟩ hot hz (hr.deeper _)).run _ H B (start_ptr hN sB) [] s1 I) (fun fl s' hs => ?_) fun e s' hs => hs
  cases fl with
  | ret u =>
    obtain ⟨v, σ', H', J, rv, B', d, g, Dv, rr⟩ := hs
    subst rr
    exact ⟨v, H', J.os, J.bare, J.base, J.hok, rv, by rw [dp_str Dv]; exact hQ H' B' g⟩
  | next =>
    obtain ⟨σ', H', J, B', ρ', _, _, q⟩ := hs
    exact q.elim
  | brk =>
    obtain ⟨σ', H', J, B', ρ', _, _, q⟩ := hs
    exact q.elim
  | cont =>
    obtain ⟨σ', H', J, B', ρ', _, _, q⟩ := hs
    exact q.elim
theorem run_E {X : Cx} {k : Nat} {f D : Addr} {S : Str} {pins : List (Addr × Obj)} {σ : L2.St} {H B : Hp} {s : Shared} {Q : VK} {p : Addr × Obj} (F : FnE X.prog X.w X.K X.mg X.base k f D S) (hr : RoomH k X.A) (hot : Hot1 X.A p) (hp : p ∈ X.pn) (hz : Zc (.ref D) none p.2) (sB : Same B H)
    (I : Inv X pins σ H s) (h : ∀ H' B', Gr X.K ⟨none, (0, []), B, H⟩ B' H' → Q (.str S) H') : wpAny (model X.prog X.w) X.A (call (.ref f) [.ref p.1]) (EP X pins σ Q) X.xe s := by
  have P1 := I.pin p (List.mem_append_left _ hp)
  have hpin : PinOk X.stack H s p := ⟨P1.1, P1.2.1, fun hm => (List.mem_cons.mp (I.stkSub p.1 hm)).elim P1.2.2.1 P1.2.2.2.1, P1.2.2.2.2⟩
  refine wpAny_call (codeAny_mono (F X.A X.stack s H Q p B hr hot hpin hz I.env0 sB h) fun r s' hq => ?_)
  cases r with
  | error e => exact False.elim hq
  | ok fl =>
    cases fl with
    | ret u => exact I.after hq
    | next => exact False.elim hq
    | brk => exact False.elim hq
    | cont => exact False.elim hq
/-! ### promises that may raise -/
def XConR (K : PySem.W.Frag) (C : Addr) (P : List (Str × PyData) → List PyData → (PyData → List (Str × PyData) → Prop) → (Addr → Prop) → Prop) : Sp := fun vs H Q E => ∃ B a dx fv fs us ds R Er, vs = .ref a :: us ∧ Same B H ∧ H a = some (.ins C dx fv) ∧ B a = none ∧ FsD K B fv fs ∧ DqAll K B us ds ∧ P fs ds R Er ∧
  (∀ v H' B' d fs' fv', Gr K ⟨none, (0, []), B, minus H a⟩ B' H' → H' a = some (.ins C dx fv') → B' a = none → FsD K B' fv' fs' → Dq K B' v d → R d fs' → Q v H') ∧ ∀ D H' B', Gr K ⟨none, (0, []), B, minus H a⟩ B' H' → Er D → E (.ref D) none H'
/-- the context of a def's body that may raise -/
abbrev Bn (P : Program) (w : World) (K : PySem.W.Frag) (mg : Str → Option Value) (base : Heap) (N : List Str) (qual : Str) (sc : Scope) (f : Addr) (cdv : Value) (A : Around) (outer : List Env) (s : Shared) (H : Hp) (E : XK) : Cx := cxOf (L2N.CX P w) P w K mg base N qual sc f cdv A outer s H E
/-- exceptions of the classes Er are taken -/
def Tk (X : Cx) (W : Wd) (Er : Addr → Prop) : Prop := ∀ E : XK, (∀ cls d H', E cls d H' → ∃ D B', cls = .ref D ∧ d = none ∧ Er D ∧ Gr X.K W B' H') → Passes (L2N.CX X.prog X.w) X E
/-- a class that may be raised by its name and a text -/
structure RzOk (K : PySem.W.Frag) (mg : Str → Option Value) (x : Str) (D : Addr) : Prop where
  gC : mg x = some (.ref D)
  q : PySem.W.excIn K D [.type "ValueError", .type "Exception", .type "BaseException", .type "object"] "ValueError.__new__" = true
  kC : PySem.W.keepIn K (.ref D) = true
  b : PySem.W.subIn K (.ref D) (.type "BaseException") = some true
  t : PySem.W.typeIn K (.ref D) = some (.type "type")
section
variable {X : Cx} {W : Wd} {ρ : List Sl} {Dd : Dz} {pos : Pos}
theorem es_raise {E : XK} {x m : Str} {j : Nat} {D : Addr} {p p2 pc : Pos} (hc : X.calm = true) (tk : L2N.Takes X (fun cls d _ H => E cls d H)) (r : RzOk X.K X.mg x D) (h : ∀ B' H', Gr X.K W B' H' → E (.ref D) none H') (hg : Gl X x := by rfl) (hdb : (x == ("__debug__" : Str)) = false := by decide) :
    Es X W (.Raise (some (.Call (.Name x p) [.Constant (.str m) j p2] [] pc)) none pos) ρ Dd :=
  ⟨fun σ H B L => (L2N.ps_raise hc tk (L2N.pmk_own PySem.F.excBase_ValueError r.q r.gC r.kC (raises_own r.b r.t) hg hdb)).toZ (show E (.ref D) none H from h B H L.gr)⟩
end
section
variable {P : Program} {w : World} {K : PySem.W.Frag} {mg : Str → Option Value} {base : Heap}
theorem fn_xconR {x qual : Str} {st : Stmt} {f C : Addr} {fd : FuncData} {N ps : List Str} {k : Nat} {P' : List (Str × PyData) → List PyData → (PyData → List (Str × PyData) → Prop) → (Addr → Prop) → Prop} (F : Fun K x qual st f fd) (S : FnScope N ps (defScope st)) (len : ∀ fs ds R Er, P' fs ds R Er → ds.length + 1 = ps.length)
    (body : ∀ (cdv : Value) (A : Around) (outer : List Env) (s : Shared) (H : Hp) (E : XK) (W : Wd) (a dx : Addr) (fs : List (Str × PyData)) (ds : List PyData) (R : PyData → List (Str × PyData) → Prop) (Er : Addr → Prop), Room k (Bn P w K mg base N qual (defScope st) f cdv A outer s H E).A → L2N.Takes (Bn P w K mg base N qual (defScope st) f cdv A outer s H E) (fun cls d _ H => E cls d H) →
      (∀ D B' H', Gr K W B' H' → Er D → E (.ref D) none H') → P' fs ds R Er →
      Em (Bn P w K mg base N qual (defScope st) f cdv A outer s H E) W a dx C (defBody st) (.obj a dx C fs :: startZ N.tail ds) R) (hN : N ≠ [] := by simp) : FnOk P w K mg base (L2N.CX P w) (k + 1) f fd ps (XConR K C P') := by
  obtain ⟨oc, od, kV, doc, pm, an, cdv, ct, osl, rfl, lk, hcd⟩ := F.ex
  refine fn_of lk hcd S (fun vs H Q E h => ?_) (fun A outer s H vs Q E hr h => ?_)
  · obtain ⟨B, a, dx, fv, fs, us, ds, R, Er, rfl, _, _, _, _, h1, h2, _⟩ := h
    rw [List.length_cons, dpAll_len h1]
    exact len fs ds R Er h2
  · obtain ⟨B, a, dx, fv, fs, us, ds, R, Er, rfl, sB, ha, hb, hf, h1, h2, q, qe⟩ := h
    refine ⟨_, pss_w, ?_⟩
    intro pins s0 I
    have L := start_obj (H0 := minus H a) (sl := .obj a dx C fs) hN sB (fun _ _ z => (minus_some z).2) h1 ⟨fv, rfl, hb, minus_at, ha, hf⟩
    have tk : L2N.Takes (Bn P w K mg base N qual (defScope st) f cdv A outer s H E) (fun cls d _ H => E cls d H) := L2N.takes_of (X := Bn P w K mg base N qual (defScope st) f cdv A outer s H E) rfl rfl rfl rfl
    refine thn ((body cdv A outer s H E ⟨none, (0, []), B, minus H a⟩ a dx fs ds R Er hr tk (fun D B' H' g e => qe D H' B' g e) h2).run _ _ _ L pins s0 I) fun fl s' hs => ?_
    cases fl with
    | next => obtain ⟨σ', H', I', B', fs', fv', g, g1, g2, g3, r⟩ := hs; exact ⟨σ', H', I', q .non H' B' .none fs' fv' g g1 g2 g3 .non r⟩
    | brk => obtain ⟨σ', H', I', z⟩ := hs; exact z.elim
    | cont => obtain ⟨σ', H', I', z⟩ := hs; exact z.elim
    | ret u => obtain ⟨v, σ', H', I', r, B', d, fs', fv', g, g1, g2, g3, Dv, rr⟩ := hs; exact ⟨v, σ', H', I', r, q v H' B' d fs' fv' g g1 g2 g3 Dv rr⟩
end
/-! ### a new instance, where its making may raise -/
theorem made_ok {K : PySem.W.Frag} {W : Wd} {B H : Hp} {σ : L2.St} {ρ : List Sl} {C ad dx : Addr} (L : Lay K W B H σ ρ) (q1 : H ad = none) (q2 : H dx = none) (q3 : dx ≠ ad) {P : List (Str × PyData) → List PyData → (PyData → List (Str × PyData) → Prop) → (Addr → Prop) → Prop} {us : List V} {ds : List PyData} {R : PyData → List (Str × PyData) → Prop} {Er : Addr → Prop} {Q : VK} {E : XK}
    (D : DqAll K B us ds) (h : P [] ds R Er) (hQ : ∀ v H' B' d fs' fv', Same B B' → Lay K W B' H' σ ρ → H' ad = some (.ins C dx fv') → B' ad = none → W.H0 ad = none → (∀ (j : Nat) (sl : Sl), ρ[j]? = some sl → sl.ow = true → σ[j]? ≠ some (some (.ref ad))) → FsD K B' fv' fs' → Dq K B' v d → R d fs' → Q v H')
    (hE : ∀ D' H' B', Gr K W B' H' → Er D' → E (.ref D') none H') : XConR K C P (.ref ad :: us) (upd (upd H dx (.own ad)) ad (.ins C dx [])) Q E := by
  have bn : B ad = none := Same.free L.gr.sub q1
  have bx : B dx = none := Same.free L.gr.sub q2
  have hle : ∀ (y : Addr) (o : HO), H y = some o → minus (upd (upd H dx (.own ad)) ad (.ins C dx [])) ad y = some o := fun y o e => by
    have y1 : y ≠ ad := ne_of_none e q1
    have y2 : y ≠ dx := ne_of_none e q2
    rw [minus_ne y1, upd_ne y1, upd_ne y2]
    exact e
  have w0 : W.H0 ad = none := by
    cases w : W.H0 ad with
    | none => rfl
    | some o =>
      by_cases ht : W.T = some ad
      · obtain ⟨_, t⟩ := L.gr.tp ad ht
        obtain ⟨_, i', c', e', _⟩ := t
        rw [e'] at q1
        cases q1
      · have := L.gr.keep ad o w ht
        rw [q1] at this
        cases this
  refine ⟨B, ad, dx, [], [], us, ds, R, Er, rfl, same_right (same_right L.gr.sub bx) bn, upd_same, bn, .nil, D, h, fun r H' B' dr fs' fv' g e1 e2 e3 Dr rr => ?_, fun D' H' B' g er => ?_⟩
  · obtain ⟨s, L'⟩ := L.called (.inl rfl) (g.less hle)
    refine hQ r H' B' dr fs' fv' s L' e1 e2 w0 (fun j sl w1 w2 w3 => ?_) e3 Dr rr
    obtain ⟨b1, o1, b2, b3, b4, b5, _⟩ := (L.at' j sl w1).owner w2
    rw [w3] at b2
    cases b2
    rw [q1] at b5
    cases b5
  · obtain ⟨s, L'⟩ := L.called (.inl rfl) (g.less hle)
    exact hE D' H' B' L'.gr er
section
variable {X : Cx} {W : Wd} {ρ : List Sl} {D : Dz} {pos : Pos} {a b e : Expr} {es : List Expr}
/-- C(e, ..).f, a property -/
theorem ev_makeProp {Er : Addr → Prop} (tk : Tk X W Er) {C p g f : Addr} {y nm : Str} {pc py : Pos} {fd fg : FuncData} {ps pg : List Str} {k k' : Nat} {R : PyData → Prop} {P : List (Str × PyData) → List PyData → (PyData → List (Str × PyData) → Prop) → (Addr → Prop) → Prop} {Pp : List (Str × PyData) → List PyData → (PyData → Prop) → Prop}
    (M : Mk X.K C f) (F : FnOk X.prog X.w X.K X.mg X.base (L2N.CX X.prog X.w) k f fd ps (XConR X.K C P)) (hr : Room (k + 1) X.A) (hm : X.mg y = some (.ref C)) (hb : Binds X.K fd ps []) (c : Cls X.K C) (hp : PropOf X.K C nm p g) (G : FnOk X.prog X.w X.K X.mg X.base CX0 k' g fg pg (MCon X.K C Pp)) (hr' : Room (k' + 1) X.A) (hbg : Binds X.K fg pg [])
    (h : Ea X W (e :: es) ρ fun ds => P [] ds (fun r fs => r = .none ∧ Pp fs [] R) Er) (hg : Gl X y := by rfl) (hdb : (y == ("__debug__" : Str)) = false := by decide)
    (he : starEach (e :: es) X.env = (false, eval e X.env) :: starEach es X.env := by rfl) (hpl : (backTo pc (starEach es X.env)).any (·.1) = false := by rfl)
    (hab : attributeBase (.Call (.Name y py) (e :: es) [] pc) nm X.env (eval (.Call (.Name y py) (e :: es) [] pc) X.env) = eval (.Call (.Name y py) (e :: es) [] pc) X.env := by rfl) : Ev X W (.Attribute (.Call (.Name y py) (e :: es) [] pc) nm pos) ρ R := by
  refine ⟨fun σ H B Q L kk => ?_⟩
  obtain ⟨E, hE⟩ : ∃ E : XK, E = fun cls d H' => ∃ D B', cls = .ref D ∧ d = none ∧ Er D ∧ Gr X.K W B' H' := ⟨_, rfl⟩
  have hx : Passes (L2N.CX X.prog X.w) X E := tk E fun cls d H' z => by rw [hE] at z; exact z
  refine PE.toZ (t := tProp C (MCon X.K C Pp) [] E0 (tMake C (XConR X.K C P) [] E (tWa X (e :: es)))) (pe_prop (pe_make M F hr hg hm hb .nil hx pa_w hdb he hpl) c hp G hr' hbg .nil pass0 hab) ?_
  refine h.run σ H B _ L fun vs H1 B1 ds s1 L1 D1 h2 => ?_
  intro ad dx q1 q2 q3
  rw [List.append_nil]
  refine made_ok L1 q1 q2 q3 D1 h2 (fun v H' B' d fs' fv' s L' e1 e2 e3 e4 e5 Dv rr => ?_) fun D' H' B' g er => by rw [hE]; exact ⟨D', B', rfl, rfl, er, g⟩
  obtain ⟨rn, rr⟩ := rr
  subst rn
  refine ⟨dp_none Dv, ad, dx, fv', rfl, e1, B', ad, dx, fv', fs', [], [], R, rfl, L'.gr.sub, e1, trivial, e5, .nil, rr, fun v2 H2 B2 d2 g2 D2 r2 => ?_⟩
  obtain ⟨s2, L2⟩ := L'.called (.inl rfl) g2
  exact kk v2 H2 B2 d2 ((s1.trans s).trans s2) L2 D2 r2
/-- o = C(a, k = b), that may raise -/
theorem es_newKR {Er : Addr → Prop} (tk : Tk X W Er) (i : Nat) {C : Addr} {x y : Str} {pos' p kpos pc : Pos} {kw : Str} {f : Addr} {fd : FuncData} {ps : List Str} {k : Nat} {g : List Value → List Value → List Value} {P : List (Str × PyData) → List PyData → (PyData → List (Str × PyData) → Prop) → (Addr → Prop) → Prop} (M : Mk X.K C f) (F : FnOk X.prog X.w X.K X.mg X.base (L2N.CX X.prog X.w) k f fd ps (XConR X.K C P)) (hr : Room (k + 1) X.A)
    (hm : X.mg y = some (.ref C)) (hb : KBn X.K fd ps 2 [kw] g fun vs zs => vs ++ zs) (h : Ev X W a ρ fun d => Ev X W b ρ fun d' => P [] [d, d'] (fun r fs => r = .none ∧ ∀ ad dx, D.nx (ρ.set i (.obj ad dx C fs))) Er) (hN : X.N.Nodup) (hi : X.N[i]? = some x := by rfl) (hx : Loc X.env.scope x := by first | exact .inl rfl | exact .inr rfl)
    (hs : swapsWith (.Call (.Name y p) [a] [⟨some kw, b, kpos⟩] pc) (some (.Name x pos')) pos.line X.env = pure false := by rfl)
    (hf : X.fn x = true ∨ X.env.scope.names.lookup x = some .local := by first | exact .inl rfl | exact .inr rfl | assumption) (hgl : Gl X y := by rfl) (hil : i < ρ.length := by first | decide | (simp only [List.length_cons, List.length_nil]; decide) | simp)
    (hall : (backToKw pc (keywordEach [⟨some kw, b, kpos⟩] X.env)).all (·.1.isSome) = true := by rfl) (hks : (backToKw pc (keywordEach [⟨some kw, b, kpos⟩] X.env)).filterMap (·.1) = [kw] := by rfl) (hdb : (y == ("__debug__" : Str)) = false := by decide)
    (he : starEach [a] X.env = (false, eval a X.env) :: starEach [] X.env := by rfl) (hpl : ((backTo pc (starEach [a] X.env)).any (·.1) || (backToKw pc (keywordEach [⟨some kw, b, kpos⟩] X.env)).any (·.1.isNone)) = false := by rfl) :
    Es X W (.Assign [.Name x pos'] (.Call (.Name y p) [a] [⟨some kw, b, kpos⟩] pc) pos) ρ D := by
  refine ⟨fun σ H B L => ?_⟩
  obtain ⟨E, hE⟩ : ∃ E : XK, E = fun cls d H' => ∃ D B', cls = .ref D ∧ d = none ∧ Er D ∧ Gr X.K W B' H' := ⟨_, rfl⟩
  have hx' : Passes (L2N.CX X.prog X.w) X E := tk E fun cls d H' z => by rw [hE] at z; exact z
  refine (ps_set hN hi hx (pe_makeK (n := 1) (ks := [kw]) M F hr hgl hm hb hx' (pa_cons pe_w pa_nil he) (pk_cons pe_w pk_nil) hall hks hdb he hpl) hs hf).toZ ?_
  refine h.run σ H B _ L fun v H1 B1 d s1 L1 D1 h2 => ?_
  refine h2.run σ H1 B1 _ L1 fun u H2 B2 d' s2 L2 D2 h3 => ?_
  refine ⟨rfl, rfl, fun ad dx q1 q2 q3 => ?_⟩
  refine made_ok (us := [v, u]) L2 q1 q2 q3 (.cons (dpMono s2 _ _ D1) (.cons D2 .nil)) h3 (fun r H' B' dr fs' fv' s L' e1 e2 e3 e4 e5 Dr rr => ?_) fun D' H' B' g er => by rw [hE]; exact ⟨D', B', rfl, rfl, er, g⟩
  obtain ⟨rn, rr⟩ := rr
  subst rn
  exact ⟨dp_none Dr, B', _, (s1.trans s2).trans s, L'.putObj hil e2 e3 e1 e5 e4, rr ad dx⟩
end
/-! ### try: .. except C as e: return f(e) -/
section
variable {X : Cx} {W : Wd} {ρ : List Sl} {D : Dz} {pos : Pos} {body : List Stmt}
theorem es_tryE {Er : Addr → Prop} {S : Addr → Str} (i : Nat) {x n y : Str} {c f : Addr} {np pos' rp cp yp ep : Pos} {k : Nat} (hs : X.stack = X.env :: X.outer) (hf : X.env.frame = some X.env.locals) (hN : X.N.Nodup) (tk : L2N.Takes X (fun _ _ _ _ => False)) (hr : Room k X.A)
    (gc : X.mg x = some (.ref c)) (hm : X.mg y = some (.ref f)) (hkp : PySem.W.keepIn X.K (.ref f) = true) (hex : ∀ D, Er D → PySem.W.exmOne X.K (.ref D) (.ref c) = some true) (F : ∀ D, Er D → FnE X.prog X.w X.K X.mg X.base k f D (S D))
    (h : ∀ (pn : List (Addr × Obj)) (xe : Value → Shared → Prop), Tk (X.tr pn xe) W Er → Ess (X.tr pn xe) W body ρ D) (hret : ∀ D', Er D' → D.rt (.str (S D')))
    (hi : X.N[i]? = some n := by rfl) (hln : X.env.kindOf n = some .local := by rfl) (hgx : Gl X x := by rfl) (hgy : Gl X y := by rfl) (hdx : (x == ("__debug__" : Str)) = false := by decide) (hdy : (y == ("__debug__" : Str)) = false := by decide)
    (hv : Vis X.env.scope n := by first | exact Or.inl rfl | exact Or.inr (Or.inl rfl) | exact Or.inr (Or.inr rfl)) (hdn : (n == ("__debug__" : Str)) = false := by decide) (hcn : (n == ("__classdict__" : Str)) = false := by decide)
    (he : starEach [.Name n ep] X.env = (false, eval (.Name n ep) X.env) :: starEach [] X.env := by rfl) (hpl : (backTo cp (starEach [] X.env)).any (·.1) = false := by rfl) :
    Es X W (.Try body [.ExceptHandler (some (.Name x np)) (some n) [.Return (some (.Call (.Name y yp) [.Name n ep] [] cp)) rp] pos'] [] [] pos) ρ D := by
  refine ⟨fun σ H B L => (L2N.ps_try_as (tb := fun W0 D σ H => ∀ pn xe, L2N.Takes (X.tr pn xe) W0 → tWss (X.tr pn xe) body D σ H) (ts := fun a cls d D σ H => ∀ oe pn, L2N.Zn cls d oe → (∃ vs, oe.data = .fields vs) → tWss (X.suite a ((a, oe) :: pn)) [.Return (some (.Call (.Name y yp) [.Name n ep] [] cp)) rp] D σ H)
    hs hf hN hi hln ⟨hgx, hdx, .inl gc⟩ tk (fun W0 pn xe t0 _ => ⟨fun pins s σ H D I q => q pn xe t0 pins s I⟩) (fun a oe cls d pn hz hd => ⟨fun pins s σ H D I q => q oe pn hz hd pins s I⟩)).toZ ?_⟩
  intro pn xe t0
  refine (h pn xe fun E hE pins σ' H' s e s' I cx => t0 e s' (L2N.XE.of_call I (fun cls d H2 z => ?_) cx)).run σ H B L
  obtain ⟨D', B2, rfl, rfl, er, g⟩ := hE cls d H2 z
  refine ⟨true, hex D' er, fun _ a na => ?_, fun z => Bool.noConfusion z⟩
  have hlen : σ'.length = X.N.length := I.len
  intro oe pn2 hz hfd pins2 s2 I2
  refine (pss_one (ps_ret (te := fun σ H Q => σ = σ'.set i (some (.ref a)) ∧ H = H2 ∧ ∀ H3 B3, Gr X.K ⟨none, (0, []), B2, H2⟩ B3 H3 → Q (.str (S D')) H3) ⟨fun pins s σ3 H3 Q I3 ⟨e1, e2, hq⟩ => ?_⟩)).run pins2 s2 _ _ _ I2 ⟨rfl, rfl, fun H3 B3 g3 => ?_⟩
  · subst e1 e2
    refine wpAny_Call_Name_kw (ld_glob (X := X.suite a ((a, oe) :: pn2)) I3 hgy hm ?_ hdy)
    have hil : i < σ'.length := by rw [hlen]; exact (List.getElem?_eq_some_iff.mp hi).1
    have ha : PA (X.suite a ((a, oe) :: pn2)) [.Name n ep] (tCons (tVar i) tNil) := pa_cons (pe_var hi hv hdn hcn) pa_nil he
    refine PySem.W.callWith_K (h₀ := X.base) I3.ok.mod.kin hkp (thn (ha.run cp pins s _ _ (fun vs H1 => vs = [V.ref a] ∧ H1 = H3) I3 ⟨.ref a, by rw [List.getElem?_set_self hil], rfl, rfl⟩) fun us s3 hh => ?_) he hpl
    obtain ⟨vs, H1, I4, r1, ev, eH⟩ := hh
    subst ev eH
    refine ⟨I4.kIn, ?_⟩
    cases r1 with
    | cons ru rn =>
      cases rn
      cases ru
      obtain ⟨vs, hd⟩ := hfd
      exact run_E (X := X.suite a ((a, oe) :: pn2)) (p := (a, oe)) (F D' er) ⟨hr.dp, hr.un⟩ ⟨rfl, vs, hd, hz.2.2 vs hd⟩ List.mem_cons_self ⟨hz.1, hz.2.1⟩ g.sub I4 hq
  · have g4 : Gr X.K W B3 H3 := ⟨g3.sub, g.base.trans g3.base, fun x q1 q2 => by
        have hb := g.new x q1 q2
        by_cases ht : W.T = some x
        · obtain ⟨_, t1, i', c', e', _⟩ := g.tp x ht
          exact g3.new x (by show H2 x ≠ none; rw [e']; exact fun z => by cases z) hb
        · cases q : W.H0 x with
          | none => exact absurd q q1
          | some o => exact g3.new x (by show H2 x ≠ none; rw [g.keep x o q ht]; exact fun z => by cases z) hb,
      fun x o q1 q2 => g3.keep x o (g.keep x o q1 q2) (fun z => by cases z), fun T ht => by
        obtain ⟨t0, tp⟩ := g.tp T ht
        obtain ⟨t1, i', c', e', _⟩ := id tp
        exact ⟨t0, tp.mono g3.base (g3.new T (by show H2 T ≠ none; rw [e']; exact fun z => by cases z) t1) fun u hu => g3.keep T u hu (fun z => by cases z)⟩⟩
    exact ⟨B3, .str (S D'), g4, .str _, hret D' er⟩
end
end Z

/-! join, a list times a number, a classmethod that makes an instance -/
namespace Z
open PySem PySem.Spec PyProof.Rows L2 L2H
section
variable {X : Cx} {W : Wd} {ρ : List Sl} {R : PyData → Prop} {pos : Pos} {a b e o : Expr} {es : List Expr}
theorem dq_strs {K : PySem.W.Frag} {B : Hp} : ∀ {zs : List Str} {vs : List V}, DqAll K B vs (zs.map PyData.str) → vs = zs.map V.str
  | [], _, h => by cases h; rfl
  | z :: zs, _, h => by
    cases h with
    | cons h1 h2 =>
      rw [dp_str h1, dq_strs h2]
      rfl
theorem ev_join {pa : Pos} (h : Ev X W o ρ fun d => ∃ x : Str, d = .str x ∧ Ev X W e ρ fun d' => ∃ zs : List Str, d' = .list (zs.map PyData.str) ∧ (zs.map (·.length)).sum + zs.length * x.length ≤ 16777216 ∧ R (.str (Txt.join x zs)))
    (hs : starEach [e] X.env = [(false, eval e X.env)] := by rfl) (hbase : attributeBase o "join" X.env (eval o X.env) = eval o X.env := by rfl) (hline : (pa.endLine == pos.line) = true := by rfl) : Ev X W (.Call (.Attribute o "join" pa) [e] [] pos) ρ R := by
  refine ⟨fun σ H B Q L k => (pe_join pe_w pe_w hs hbase hline).toZ ?_⟩
  refine h.run σ H B _ L fun v H1 B1 d s1 L1 D1 h2 => ?_
  obtain ⟨x, rfl, h2⟩ := h2
  cases dp_str D1
  refine ⟨⟨x, rfl⟩, ?_⟩
  refine h2.run σ H1 B1 _ L1 fun u H2 B2 d' s2 L2 D2 h3 => ?_
  obtain ⟨zs, rfl, h4, h5⟩ := h3
  obtain ⟨p, vs, rfl, h6, h7⟩ := dp_list D2
  cases dq_strs h7
  exact ⟨x, p, zs, rfl, rfl, .inl (SqL.of (L2.gr.sub _ _ h6)), h4, k _ H2 B2 _ (s1.trans s2) L2 (.str _) h5⟩
theorem el_rep {R : List PyData → Prop} (h : Ev X W a ρ fun d => Ev X W b ρ fun d' => match d, d' with | .list xs, .int n => (0 ≤ n ∧ n < 2 ^ 63 ∧ xs.length * n.toNat ≤ sizeLine) ∧ R (List.replicate n.toNat xs).flatten | _, _ => False) : El X W (.BinOp a .Mult b pos) ρ R := by
  refine ⟨fun σ H B Q L k => (pe_op op_rep pe_w pe_w).toZ ?_⟩
  refine h.run σ H B _ L fun v H1 B1 d s1 L1 D1 h2 => ?_
  refine h2.run σ H1 B1 _ L1 fun u H2 B2 d' s2 L2 D2 h3 => ?_
  cases d <;> first | exact h3.elim | skip
  cases d' <;> first | exact h3.elim | skip
  rename_i xs n
  obtain ⟨p, vs, rfl, g1, g2⟩ := dp_list D1
  have g2' := dpAllMono s2 _ _ g2
  have hd : DqAll X.K B2 (List.replicate n.toNat vs).flatten (List.replicate n.toNat xs).flatten := by
    generalize n.toNat = m
    induction m with
    | zero => exact .nil
    | succ m ih =>
      rw [List.replicate_succ, List.replicate_succ, List.flatten_cons, List.flatten_cons]
      exact dpAll_app g2' ih
  refine ⟨p, n, vs, rfl, dp_int D2, L2.gr.sub _ _ (s2 _ _ g1), by omega, h3.1.2.1, by rw [dpAll_len g2]; exact h3.1.2.2, fun t ht => ?_⟩
  obtain ⟨L', q1, q2, q3, q4⟩ := fresh_own L2 ht _ _ hd
  exact k t _ _ B2 _ (s1.trans s2) L' q1 q2 q3 q4 hd h3.2
end
theorem kit_own {K : PySem.W.Frag} {D C : Addr} {b : Bool} (hi : PySem.W.isClsIn K C = true) (ht : PySem.W.typeIn K (.ref C) = some (.type "type")) (hs : PySem.W.subIn K (.ref D) (.ref C) = some b) (hn : (Value.ref D == Value.ref C) = true → b = true) : PySem.W.kitOne K (.ref D) (.ref C) = some b := by
  unfold PySem.W.kitOne
  split
  · rename_i h
    rw [hn h]
  · have h' : (PySem.W.clsIn K C).isSome = true := hi
    show (if ((PySem.W.clsIn K C).isSome && PySem.W.typeIn K (.ref C) == some (.type "type")) = true then PySem.W.subIn K (.ref D) (.ref C) else none) = some b
    rw [h', ht, if_pos (by rfl)]
    exact hs
/-! ### a classmethod that hands on to its class -/
def PCon (K : PySem.W.Frag) (C : Addr) (P : PyData → (List (Str × PyData) → Prop) → (Addr → Prop) → Prop) : Sp := fun vs H Q E => ∃ B v d R Er, vs = [.ref C, v] ∧ Same B H ∧ Dq K B v d ∧ P d R Er ∧
  (∀ ad dx fv fs H' B', Gr K ⟨none, (0, []), B, H⟩ B' H' → H' ad = some (.ins C dx fv) → B' ad = none → H ad = none → FsD K B' fv fs → R fs → Q (.ref ad) H') ∧ ∀ D H' B', Gr K ⟨none, (0, []), B, H⟩ B' H' → Er D → E (.ref D) none H'
/-- c(e, ..), c a local that holds the class -/
theorem pe_makeL {X : Cx} {CX : CXT} {k i : Nat} {C f : Addr} {fd : FuncData} {ps : List Str} {sp : Sp} {E : XK} {x : Str} {p pos : Pos} {e : Expr} {es : List Expr} {t : TA} (M : Mk X.K C f) (F : FnOk X.prog X.w X.K X.mg X.base CX k f fd ps sp) (hr : Room (k + 1) X.A) (hN : X.N[i]? = some x) (hv : Vis X.env.scope x) (hb : Binds X.K fd ps []) (hx : Passes CX X E) (ha : PA X (e :: es) t)
    (hdb : (x == ("__debug__" : Str)) = false := by decide) (hcd : (x == ("__classdict__" : Str)) = false := by decide) (he : starEach (e :: es) X.env = (false, eval e X.env) :: starEach es X.env := by rfl) (hpl : (backTo pos (starEach es X.env)).any (·.1) = false := by rfl) :
    PE X (.Call (.Name x p) (e :: es) [] pos) (fun σ H Q => σ[i]? = some (some (.ref C)) ∧ tMake C sp [] E t σ H Q) := by
  refine ⟨fun pins s σ H Q I h => ?_⟩
  obtain ⟨hs, ht⟩ := h
  refine wpAny_Call_Name_kw (thn ((pe_var (pos := p) hN hv hdb hcd).run pins s σ H (fun v H1 => v = .ref C ∧ H1 = H) I ⟨.ref C, hs, rfl, rfl⟩) fun u s1 ⟨v, H1, I1, r1, q1⟩ => ?_)
  obtain ⟨rfl, rfl⟩ := q1
  cases r1
  refine PySem.W.callWith_K (h₀ := X.base) I.ok.mod.kin M.kp (thn (ha.run pos pins s1 σ _ _ I1 ht) fun us s2 ⟨vs, H2, I2, r, q⟩ => ⟨I2.kIn, ?_⟩) he hpl
  exact run_make M F hr hb .nil hx I2 r q
theorem fn_plain {P : Program} {w : World} {K : PySem.W.Frag} {mg : Str → Option Value} {base : Heap} {x qual c : Str} {st : Stmt} {f f0 C : Addr} {fd fd0 : FuncData} {N ps ps0 : List Str} {k : Nat} {p pos rp : Pos} {e : Expr} {es : List Expr} {P0 : List (Str × PyData) → List PyData → (PyData → List (Str × PyData) → Prop) → (Addr → Prop) → Prop} {P' : PyData → (List (Str × PyData) → Prop) → (Addr → Prop) → Prop}
    (F : Fun K x qual st f fd) (S : FnScope N ps (defScope st)) (hp2 : ps.length = 2) (hN : N.length = 2) (hN0 : N[0]? = some c) (hdb : (c == ("__debug__" : Str)) = false) (hcd : (c == ("__classdict__" : Str)) = false) (M : Mk K C f0) (F0 : FnOk P w K mg base (L2N.CX P w) k f0 fd0 ps0 (XConR K C P0)) (hb0 : Binds K fd0 ps0 [])
    (hbody : defBody st = [.Return (some (.Call (.Name c p) (e :: es) [] pos)) rp])
    (args : ∀ (X : Cx) (W : Wd) (d : PyData) (R : List (Str × PyData) → Prop) (Er : Addr → Prop), X.N = N → X.env.scope = defScope st → P' d R Er → Ea X W (e :: es) [.ptr C, .im d] fun ds => P0 [] ds (fun r fs => r = .none ∧ R fs) Er)
    (hv : Vis (defScope st) c) (he : ∀ env : Env, starEach (e :: es) env = (false, eval e env) :: starEach es env) (hpl : ∀ env : Env, (backTo pos (starEach es env)).any (·.1) = false) : FnOk P w K mg base (L2N.CX P w) (k + 2) f fd ps (PCon K C P') := by
  obtain ⟨oc, od, kV, doc, pm, an, cdv, ct, osl, rfl, lk, hcd'⟩ := F.ex
  refine fn_of lk hcd' S (fun vs H Q E h => ?_) (fun A outer s H vs Q E hr h => ?_)
  · obtain ⟨B, v, d, R, Er, rfl, _⟩ := h
    exact hp2.symm
  · obtain ⟨B, v, d, R, Er, rfl, sB, Dv, hP, q, qe⟩ := h
    rw [hbody]
    refine ⟨_, pss_w, ?_⟩
    intro pins s0 I
    have tk : L2N.Takes (cxOf (L2N.CX P w) P w K mg base N qual (defScope st) f cdv A outer s H E) (fun cls d _ H => E cls d H) := L2N.takes_of (X := cxOf (L2N.CX P w) P w K mg base N qual (defScope st) f cdv A outer s H E) rfl rfl rfl rfl
    have L : Lay K ⟨none, (0, []), B, H⟩ B H (L2.start N [V.ref C, v]) (.ptr C :: startZ N.tail [d]) := start_obj (by intro z; rw [z] at hN; cases hN) sB (fun _ _ z => z) (.cons Dv .nil) rfl
    have el : startZ N.tail [d] = [.im d] := by
      unfold startZ
      rw [List.length_tail, hN]
      rfl
    rw [el] at L
    have hx : Passes (L2N.CX P w) (cxOf (L2N.CX P w) P w K mg base N qual (defScope st) f cdv A outer s H E) E := fun pins σ H' s e s' I cx => tk e s' (L2N.XE.of_call I (fun cls d H2 z => z) cx)
    refine (pss_one (ps_ret (pe_makeL (X := cxOf (L2N.CX P w) P w K mg base N qual (defScope st) f cdv A outer s H E) (i := 0) M F0 hr hN0 hv hb0 hx pa_w hdb hcd (he _) (hpl _)))).run pins s0 _ _ _ I ⟨L.at' 0 _ rfl, ?_⟩
    refine (args (cxOf (L2N.CX P w) P w K mg base N qual (defScope st) f cdv A outer s H E) ⟨none, (0, []), B, H⟩ d R Er rfl rfl hP).run _ H B _ L fun vs H1 B1 ds s1 L1 D1 h2 => ?_
    intro ad dx q1 q2 q3
    rw [List.append_nil]
    refine made_ok L1 q1 q2 q3 D1 h2 (fun v H' B' d fs' fv' s L' e1 e2 e3 e4 e5 Dv rr => ?_) fun D' H' B' g er => qe D' H' B' g er
    obtain ⟨rn, rr⟩ := rr
    subst rn
    exact ⟨dp_none Dv, q ad dx fv' fs' H' B' L'.gr e1 e2 e3 e5 rr⟩
/-- C.m(e).f -/
theorem ev_plainProp {X : Cx} {W : Wd} {ρ : List Sl} {R : PyData → Prop} {pos : Pos} {e : Expr} {Er : Addr → Prop} (tk : Tk X W Er) {C p g f fp : Addr} {y m nm : Str} {pc py apos : Pos} {mc : Value} {fd fg : FuncData} {ps pg : List Str} {k k' : Nat} {P : PyData → (List (Str × PyData) → Prop) → (Addr → Prop) → Prop} {Pp : List (Str × PyData) → List PyData → (PyData → Prop) → Prop} {pl : Sem Bool}
    (rd : ClX.CRead X.K C mc) (cm : ClX.CMet X.K C mc m fp f) (F : FnOk X.prog X.w X.K X.mg X.base (L2N.CX X.prog X.w) k f fd ps (PCon X.K C P)) (hr : Room k X.A) (hm : X.mg y = some (.ref C)) (hb : Binds X.K fd ps []) (c : Cls X.K C) (hp : PropOf X.K C nm p g) (G : FnOk X.prog X.w X.K X.mg X.base CX0 k' g fg pg (MCon X.K C Pp)) (hr' : Room (k' + 1) X.A) (hbg : Binds X.K fg pg [])
    (h : Ev X W e ρ fun d => P d (fun fs => Pp fs [] R) Er) (hg : Gl X y := by rfl) (hdb : (y == ("__debug__" : Str)) = false := by decide) (he : starEach [e] X.env = (false, eval e X.env) :: starEach [] X.env := by rfl) (hpl : (backTo pc (starEach [] X.env)).any (·.1) = false := by rfl)
    (ht : eval (.Call (.Attribute (.Name y py) m apos) [e] [] pc) X.env = (do
      let ov ← eval (.Name y py) X.env
      standAt apos.atName
      let (f, first) ← holding [ov] (getMethod ov m pl)
      callWith pc f first (backTo pc (starEach [e] X.env)) (backToKw pc (keywordEach [] X.env))) := by rfl)
    (hab : attributeBase (.Call (.Attribute (.Name y py) m apos) [e] [] pc) nm X.env (eval (.Call (.Attribute (.Name y py) m apos) [e] [] pc) X.env) = eval (.Call (.Attribute (.Name y py) m apos) [e] [] pc) X.env := by rfl) : Ev X W (.Attribute (.Call (.Attribute (.Name y py) m apos) [e] [] pc) nm pos) ρ R := by
  refine ⟨fun σ H B Q L kk => ?_⟩
  obtain ⟨E, hE⟩ : ∃ E : XK, E = fun cls d H' => ∃ D B', cls = .ref D ∧ d = none ∧ Er D ∧ Gr X.K W B' H' := ⟨_, rfl⟩
  have hx : Passes (L2N.CX X.prog X.w) X E := tk E fun cls d H' z => by rw [hE] at z; exact z
  refine (pe_prop (ClX.pe_cmeth (E := E) (pl := pl) (pe_glob hg hm (v := V.ref C) rfl hdb) rd cm (F.raw hb .nil) hr hx (pa_cons pe_w pa_nil he) he hpl ht) c hp G hr' hbg .nil pass0 hab).toZ ?_
  refine ⟨rfl, ?_⟩
  refine h.run σ H B _ L fun v H1 B1 d s1 L1 D1 h2 => ?_
  refine ⟨B1, v, d, _, Er, rfl, L1.gr.sub, D1, h2, fun ad dx fv fs H' B' g e1 e2 e3 e4 rr => ?_, fun D' H' B' g er => ?_⟩
  · obtain ⟨s, L'⟩ := L1.called (.inl rfl) g
    refine ⟨ad, dx, fv, rfl, e1, B', ad, dx, fv, fs, [], [], R, rfl, L'.gr.sub, e1, trivial, e4, .nil, rr, fun v2 H2 B2 d2 g2 D2 r2 => ?_⟩
    obtain ⟨s2, L2⟩ := L'.called (.inl rfl) g2
    exact kk v2 H2 B2 d2 ((s1.trans s).trans s2) L2 D2 r2
  · obtain ⟨s, L'⟩ := L1.called (.inl rfl) g
    rw [hE]
    exact ⟨D', B', rfl, rfl, er, L'.gr⟩
end Z

/-! instances as values: handed to defs, given back by them, made by own operators -/
namespace Z
open PySem PySem.Spec PyProof.Rows L2 L2H
/-- data, or an instance of the class at C -/
inductive OD where
  | d (x : PyData)
  | o (C : Addr) (fs : List (Str × PyData))
/-- .. as a value that is never changed, or stands in a slot -/
def DoK (K : PySem.W.Frag) (W : Wd) (B : Hp) (ρ : List Sl) (v : V) : OD → Prop
  | .d x => Dq K B v x
  | .o C fs => ∃ a dx, v = .ref a ∧ ((∃ fv, Kpt W B a (.ins C dx fv) ∧ FsD K B fv fs) ∨ ∃ i : Nat, ρ[i]? = some (.obj a dx C fs))
/-- .. of the plain heap -/
def DoF (K : PySem.W.Frag) (B : Hp) (v : V) : OD → Prop
  | .d x => Dq K B v x
  | .o C fs => ∃ a dx fv, v = .ref a ∧ B a = some (.ins C dx fv) ∧ FsD K B fv fs
/-- .. at an entry -/
def DoH (K : PySem.W.Frag) (B H : Hp) (v : V) : OD → Prop
  | .d x => Dq K B v x
  | .o C fs => ∃ a dx fv, v = .ref a ∧ H a = some (.ins C dx fv) ∧ FsD K B fv fs
abbrev DoKs (K : PySem.W.Frag) (W : Wd) (B : Hp) (ρ : List Sl) : List V → List OD → Prop := Paired (DoK K W B ρ)
abbrev DoFs (K : PySem.W.Frag) (B : Hp) : List V → List OD → Prop := Paired (DoF K B)
abbrev DoHs (K : PySem.W.Frag) (B H : Hp) : List V → List OD → Prop := Paired (DoH K B H)
section
variable {K : PySem.W.Frag} {W : Wd} {B B' H H' : Hp} {σ : L2.St} {ρ : List Sl} {v : V} {d : OD}
theorem DoK.mono (h : DoK K W B ρ v d) (s : Same B B') : DoK K W B' ρ v d := by
  cases d with
  | d x => exact dpMono s _ _ h
  | o C fs =>
    obtain ⟨a, dx, h1, h⟩ := h
    exact ⟨a, dx, h1, h.imp_left fun ⟨fv, h2, h3⟩ => ⟨fv, h2.mono s, fsMono s h3⟩⟩
theorem DoF.mono (h : DoF K B v d) (s : Same B B') : DoF K B' v d := by
  cases d with
  | d x => exact dpMono s _ _ h
  | o C fs =>
    obtain ⟨a, dx, fv, h1, h2, h3⟩ := h
    exact ⟨a, dx, fv, h1, s _ _ h2, fsMono s h3⟩
theorem DoF.toK (h : DoF K B v d) : DoK K W B ρ v d := by
  cases d with
  | d x => exact h
  | o C fs =>
    obtain ⟨a, dx, fv, h1, h2, h3⟩ := h
    exact ⟨a, dx, h1, .inl ⟨fv, .inl h2, h3⟩⟩
theorem Lay.kpt (L : Lay K W B H σ ρ) {a : Addr} {o : HO} (h : Kpt W B a o) : H a = some o := h.elim (L.gr.sub _ _) fun h => L.gr.keep a _ h.1 h.2
theorem DoK.ins {C : Addr} {fs : List (Str × PyData)} (h : DoK K W B ρ v (.o C fs)) (L : Lay K W B H σ ρ) : ∃ a dx fv, v = .ref a ∧ H a = some (.ins C dx fv) ∧ FsD K B fv fs := by
  obtain ⟨a, dx, h1, h | ⟨i, h⟩⟩ := h
  · obtain ⟨fv, h2, h3⟩ := h
    exact ⟨a, dx, fv, h1, L.kpt h2, h3⟩
  · obtain ⟨fv, e1, e2, e3, e4, e5⟩ := L.at' i _ h
    exact ⟨a, dx, fv, h1, e4, e5⟩
theorem DoK.toH (L : Lay K W B H σ ρ) (h : DoK K W B ρ v d) : DoH K B H v d := by
  cases d with
  | d x => exact h
  | o C fs =>
    exact h.ins L
theorem doksMono {vs : List V} {ds : List OD} (s : Same B B') (h : DoKs K W B ρ vs ds) : DoKs K W B' ρ vs ds := by
  induction h with
  | nil => exact .nil
  | cons h t ih => exact .cons (h.mono s) ih
theorem doksH (L : Lay K W B H σ ρ) {vs : List V} {ds : List OD} (h : DoKs K W B ρ vs ds) : DoHs K B H vs ds := by
  induction h with
  | nil => exact .nil
  | cons h t ih => exact .cons (h.toH L) ih
/-- a fresh object is never changed from here on -/
theorem Lay.frzNew (L : Lay K W B H σ ρ) {a : Addr} {o : HO} (h1 : B a = none) (h2 : W.H0 a = none) (h3 : H a = some o) (h5 : ∀ (j : Nat) (sl : Sl), ρ[j]? = some sl → sl.ow = true → σ[j]? ≠ some (some (.ref a))) : Same B (upd B a o) ∧ Lay K W (upd B a o) H σ ρ := by
  have s : Same B (upd B a o) := same_new h1
  have hT : ∀ T, W.T = some T → T ≠ a := fun T h q => by
    subst q
    exact (L.gr.tp T h).1 h2
  refine ⟨s, ⟨⟨fun b o' h => ?_, L.gr.base.trans s, fun b q1 q2 => ?_, L.gr.keep, fun T h => ?_⟩, L.len, fun j sl e => ?_, L.dis⟩⟩
  · by_cases hb : b = a
    · subst hb
      rw [upd_same] at h
      rw [h3]
      exact h
    · rw [upd_ne hb] at h
      exact L.gr.sub b o' h
  · have ha : b ≠ a := by
      rintro rfl
      exact q1 h2
    rw [upd_ne ha]
    exact L.gr.new b q1 q2
  · obtain ⟨t1, t2⟩ := L.gr.tp T h
    exact ⟨t1, t2.mono s (by rw [upd_ne (hT T h)]; exact t2.1) fun o ho => ho⟩
  · refine (L.at' j sl e).grow s fun b o' g1 g2 g3 _ g5 => ?_
    have ha : b ≠ a := by
      rintro rfl
      exact h5 j sl e g2 g1
    rw [upd_ne ha]
    exact ⟨g3, g5⟩
/-- what the heap does not hold stands nowhere -/
theorem Lay.fresh_at (L : Lay K W B H σ ρ) {a : Addr} (h : H a = none) : W.H0 a = none ∧ ∀ (j : Nat) (sl : Sl), ρ[j]? = some sl → sl.ow = true → σ[j]? ≠ some (some (.ref a)) := by
  refine ⟨?_, fun j sl w1 w2 w3 => ?_⟩
  · cases w : W.H0 a with
    | none => rfl
    | some o =>
      by_cases ht : W.T = some a
      · obtain ⟨_, t⟩ := L.gr.tp a ht
        obtain ⟨_, i', c', e', _⟩ := t
        rw [e'] at h
        cases h
      · have := L.gr.keep a o w ht
        rw [h] at this
        cases this
  · obtain ⟨b1, o1, b2, b3, b4, b5, _⟩ := (L.at' j sl w1).owner w2
    rw [w3] at b2
    cases b2
    rw [h] at b5
    cases b5
/-- an own instance is never changed from here on -/
theorem Lay.frzObj (L : Lay K W B H σ ρ) {i : Nat} {a dx C : Addr} {fs : List (Str × PyData)} (hρ : ρ[i]? = some (.obj a dx C fs)) : ∃ B', Same B B' ∧ Lay K W B' H σ (ρ.set i (.obk a dx C fs)) := by
  obtain ⟨fv, e1, e2, e3, e4, e5⟩ := L.at' i _ hρ
  have hl : i < ρ.length := (List.getElem?_eq_some_iff.mp hρ).1
  have back : ∀ (j : Nat) (s : Sl), (ρ.set i (.obk a dx C fs))[j]? = some s → s.ow = true → j ≠ i ∧ ρ[j]? = some s := fun j s e o => by
    by_cases hj : i = j
    · subst hj
      rw [List.getElem?_set_self hl] at e
      cases e
      cases o
    · rw [List.getElem?_set_ne hj] at e
      exact ⟨fun z => hj z.symm, e⟩
  have L0 : Lay K W B H σ (ρ.set i .no) := by
    refine ⟨L.gr, by simp [L.len], fun j sl e => ?_, fun j k s t hne f1 f2 o1 o2 => ?_⟩
    · by_cases hj : i = j
      · subst hj
        rw [List.getElem?_set_self hl] at e
        cases e
        trivial
      · rw [List.getElem?_set_ne hj] at e
        exact L.at' j sl e
    · have b : ∀ (j : Nat) (s : Sl), (ρ.set i Sl.no)[j]? = some s → s.ow = true → ρ[j]? = some s := fun j s e o => by
        by_cases hj : i = j
        · subst hj
          rw [List.getElem?_set_self hl] at e
          cases e
          cases o
        · rw [List.getElem?_set_ne hj] at e
          exact e
      exact L.dis j k s t hne (b j s f1 o1) (b k t f2 o2) o1 o2
  obtain ⟨s, L1⟩ := L0.frzNew e2 e3 e4 (fun j sl e o z => by
    by_cases hj : i = j
    · subst hj
      rw [List.getElem?_set_self hl] at e
      cases e
      cases o
    · rw [List.getElem?_set_ne hj] at e
      exact L.dis i j _ sl hj hρ e rfl o (e1.trans z.symm))
  refine ⟨_, s, ⟨L1.gr, by simp [L.len], fun j sl e => ?_, fun j k s t hne f1 f2 o1 o2 => ?_⟩⟩
  · by_cases hj : i = j
    · subst hj
      rw [List.getElem?_set_self hl] at e
      cases e
      exact ⟨fv, e1, .inl upd_same, fsMono s e5⟩
    · rw [List.getElem?_set_ne hj] at e
      exact L1.at' j sl (by rw [List.getElem?_set_ne hj]; exact e)
  · obtain ⟨j1, j2⟩ := back j s f1 o1
    obtain ⟨k1, k2⟩ := back k t f2 o2
    exact L.dis j k s t hne j2 k2 o1 o2
end
/-! ### readings of such values -/
structure Ed (X : Cx) (W : Wd) (e : Expr) (ρ : List Sl) (R : OD → Prop) : Prop where
  run : ∀ (σ : L2.St) (H B : Hp) (Q : VK), Lay X.K W B H σ ρ → (∀ v H' B' d, Same B B' → Lay X.K W B' H' σ ρ → DoK X.K W B' ρ v d → R d → Q v H') → tW X e σ H Q
structure Edf (X : Cx) (W : Wd) (e : Expr) (ρ : List Sl) (R : OD → Prop) : Prop where
  run : ∀ (σ : L2.St) (H B : Hp) (Q : VK), Lay X.K W B H σ ρ → (∀ v H' B' d, Same B B' → Lay X.K W B' H' σ ρ → DoF X.K B' v d → R d → Q v H') → tW X e σ H Q
structure Edfa (X : Cx) (W : Wd) (es : List Expr) (ρ : List Sl) (R : List OD → Prop) : Prop where
  run : ∀ (σ : L2.St) (H B : Hp) (Q : List V → Hp → Prop), Lay X.K W B H σ ρ → (∀ vs H' B' ds, Same B B' → Lay X.K W B' H' σ ρ → DoFs X.K B' vs ds → R ds → Q vs H') → tWa X es σ H Q
structure Eda (X : Cx) (W : Wd) (es : List Expr) (ρ : List Sl) (R : List OD → Prop) : Prop where
  run : ∀ (σ : L2.St) (H B : Hp) (Q : List V → Hp → Prop), Lay X.K W B H σ ρ → (∀ vs H' B' ds, Same B B' → Lay X.K W B' H' σ ρ → DoKs X.K W B' ρ vs ds → R ds → Q vs H') → tWa X es σ H Q
section
variable {X : Cx} {W : Wd} {ρ : List Sl} {D : Dz} {pos : Pos} {a b e : Expr} {es : List Expr} {st : Stmt} {sts : List Stmt}
theorem edf_ev {R : OD → Prop} (h : Ev X W e ρ fun x => R (.d x)) : Edf X W e ρ R := ⟨fun σ H B Q L k => h.run σ H B Q L fun v H' B' d s L' Dv r => k v H' B' (.d d) s L' Dv r⟩
theorem ed_f {R : OD → Prop} (h : Edf X W e ρ R) : Ed X W e ρ R := ⟨fun σ H B Q L k => h.run σ H B Q L fun v H' B' d s L' Dv r => k v H' B' d s L' Dv.toK r⟩
theorem ed_ev {R : OD → Prop} (h : Ev X W e ρ fun x => R (.d x)) : Ed X W e ρ R := ed_f (edf_ev h)
theorem ev_ed {R : PyData → Prop} (h : Ed X W e ρ fun d => match d with | .d x => R x | .o _ _ => False) : Ev X W e ρ R := ⟨fun σ H B Q L k => h.run σ H B Q L fun v H' B' d s L' Dv r => by
  cases d with
  | d x => exact k v H' B' x s L' Dv r
  | o C fs => exact r.elim⟩
theorem ev_edf {R : PyData → Prop} (h : Edf X W e ρ fun d => match d with | .d x => R x | .o _ _ => False) : Ev X W e ρ R := ev_ed (ed_f h)
theorem ed_name (i : Nat) {x : Str} {p : Pos} {ad dx C : Addr} {fs : List (Str × PyData)} {R : OD → Prop} (hρ : ρ[i]? = some (.obk ad dx C fs)) (h : R (.o C fs)) (hN : X.N[i]? = some x := by rfl) (hv : Vis X.env.scope x := by first | exact Or.inl rfl | exact Or.inr (Or.inl rfl) | exact Or.inr (Or.inr rfl))
    (hd : (x == ("__debug__" : Str)) = false := by decide) (hcd : (x == ("__classdict__" : Str)) = false := by decide) : Ed X W (.Name x p) ρ R := by
  refine ⟨fun σ H B Q L k => (pe_var hN hv hd hcd).toZ ?_⟩
  obtain ⟨fv, g1, g2, g3⟩ := L.at' i _ hρ
  exact ⟨.ref ad, g1, k _ H B (.o C fs) (Same.refl _) L ⟨ad, dx, rfl, .inl ⟨fv, g2, g3⟩⟩ h⟩
/-- .. that stands in a slot of the frame's own -/
theorem ed_own (i : Nat) {x : Str} {p : Pos} {ad dx C : Addr} {fs : List (Str × PyData)} {R : OD → Prop} (hρ : ρ[i]? = some (.obj ad dx C fs)) (h : R (.o C fs)) (hN : X.N[i]? = some x := by rfl) (hv : Vis X.env.scope x := by first | exact Or.inl rfl | exact Or.inr (Or.inl rfl) | exact Or.inr (Or.inr rfl))
    (hd : (x == ("__debug__" : Str)) = false := by decide) (hcd : (x == ("__classdict__" : Str)) = false := by decide) : Ed X W (.Name x p) ρ R := by
  refine ⟨fun σ H B Q L k => (pe_var hN hv hd hcd).toZ ?_⟩
  obtain ⟨fv, g1, g2, g3⟩ := L.at' i _ hρ
  exact ⟨.ref ad, g1, k _ H B (.o C fs) (Same.refl _) L ⟨ad, dx, rfl, .inr ⟨i, hρ⟩⟩ h⟩
theorem eda_nil {R : List OD → Prop} (h : R []) : Eda X W [] ρ R := ⟨fun σ H B Q L k => pa_nil.toZ (k [] H B [] (Same.refl _) L .nil h)⟩
theorem eda_cons {R : List OD → Prop} (h : Ed X W e ρ fun d => Eda X W es ρ fun ds => R (d :: ds)) (hs : starEach (e :: es) X.env = (false, eval e X.env) :: starEach es X.env := by rfl) : Eda X W (e :: es) ρ R := by
  refine ⟨fun σ H B Q L k => (pa_cons pe_w pa_w hs).toZ ?_⟩
  refine h.run σ H B _ L fun v H1 B1 d s1 L1 D1 h2 => ?_
  refine h2.run σ H1 B1 _ L1 fun vs H2 B2 ds s2 L2 D2 h3 => ?_
  exact k _ H2 B2 _ (s1.trans s2) L2 (.cons (D1.mono s2) D2) h3
theorem edfa_nil {R : List OD → Prop} (h : R []) : Edfa X W [] ρ R := ⟨fun σ H B Q L k => pa_nil.toZ (k [] H B [] (Same.refl _) L .nil h)⟩
theorem edfa_cons {R : List OD → Prop} (h : Edf X W e ρ fun d => Edfa X W es ρ fun ds => R (d :: ds)) (hs : starEach (e :: es) X.env = (false, eval e X.env) :: starEach es X.env := by rfl) : Edfa X W (e :: es) ρ R := by
  refine ⟨fun σ H B Q L k => (pa_cons pe_w pa_w hs).toZ ?_⟩
  refine h.run σ H B _ L fun v H1 B1 d s1 L1 D1 h2 => ?_
  refine h2.run σ H1 B1 _ L1 fun vs H2 B2 ds s2 L2 D2 h3 => ?_
  exact k _ H2 B2 _ (s1.trans s2) L2 (.cons (D1.mono s2) D2) h3
theorem ess_frzO (i : Nat) {ad dx C : Addr} {fs : List (Str × PyData)} (hρ : ρ[i]? = some (.obj ad dx C fs)) (h : Ess X W sts (ρ.set i (.obk ad dx C fs)) D) : Ess X W sts ρ D := by
  refine ⟨fun σ H B L => ?_⟩
  obtain ⟨B', s, L'⟩ := L.frzObj hρ
  exact tWss.back s (h.run σ H B' L')
end
/-! ### promises over such values, that may raise -/
def GCon (K : PySem.W.Frag) (P : List OD → (OD → Prop) → (Addr → Prop) → Prop) : Sp := fun vs H Q E => ∃ B ods R Er, Same B H ∧ DoHs K B H vs ods ∧ P ods R Er ∧
  (∀ v H' B' d, Gr K ⟨none, (0, []), B, H⟩ B' H' → DoF K B' v d → R d → Q v H') ∧ ∀ D H' B', Gr K ⟨none, (0, []), B, H⟩ B' H' → Er D → E (.ref D) none H'
/-- exceptions of the classes Ep are taken, with the row that stands then -/
def Tkp (X : Cx) (W : Wd) (Ep : Addr → List Sl → Prop) : Prop := ∀ E : XK, (∀ cls d H', E cls d H' → ∃ D B' σ ρ, cls = .ref D ∧ d = none ∧ Ep D ρ ∧ Lay X.K W B' H' σ ρ) → Passes (L2N.CX X.prog X.w) X E
theorem Tk.p {X : Cx} {W : Wd} {Er : Addr → Prop} (tk : Tk X W Er) : Tkp X W (fun D _ => Er D) := fun E hE => tk E fun cls d H' z => by
  obtain ⟨D, B', σ, ρ, h1, h2, h3, L⟩ := hE cls d H' z
  exact ⟨D, B', h1, h2, h3, L.gr⟩
theorem tk_none {X : Cx} {W : Wd} : Tkp X W (fun _ _ => False) := fun E hE pins σ H s e s' I cx => by
  have t : L2N.Takes X (fun _ _ _ _ => False) := fun _ _ x => by
    obtain ⟨_, _, _, _, _, _, _, _, _, _, _, _, _, _, _, _, z⟩ := x
    exact z.elim
  exact t e s' (L2N.XE.of_call I (fun cls d H2 z => by
    obtain ⟨_, _, _, _, _, _, z, _⟩ := hE cls d H2 z
    exact z) cx)
/-- the rows at the start -/
def slO (p : Addr × Addr) : OD → Sl
  | .d x => .im x
  | .o C fs => .obk p.1 p.2 C fs
def slOs : List OD → (Nat → Addr × Addr) → List Sl
  | [], _ => []
  | d :: ds, f => slO (f 0) d :: slOs ds fun n => f (n + 1)
def startO (N : List Str) (ods : List OD) (f : Nat → Addr × Addr) : List Sl := slOs ods f ++ List.replicate (N.length - ods.length) Sl.no
theorem slOs_len : ∀ (ods : List OD) (f : Nat → Addr × Addr), (slOs ods f).length = ods.length
  | [], _ => rfl
  | d :: ds, f => by
    show (slOs ds _).length + 1 = ds.length + 1
    rw [slOs_len]
theorem slOs_at {K : PySem.W.Frag} {B H : Hp} : ∀ {vs : List V} {ods : List OD}, DoHs K B H vs ods → ∃ f, ∀ (i : Nat) (sl : Sl), (slOs ods f)[i]? = some sl → ∃ v, vs[i]? = some v ∧ SlOk K ⟨none, (0, []), B, H⟩ B H (some (some v)) sl ∧ sl.ow = false
  | _, _, .nil => ⟨fun _ => (0, 0), fun i sl e => by cases e⟩
  | v :: vs, d :: ds, .cons h t => by
    obtain ⟨f, hf⟩ := slOs_at t
    obtain ⟨p, hp, ho⟩ : ∃ p, SlOk K ⟨none, (0, []), B, H⟩ B H (some (some v)) (slO p d) ∧ (slO p d).ow = false := by
      cases d with
      | d x => exact ⟨(0, 0), ⟨v, rfl, h⟩, rfl⟩
      | o C fs =>
        obtain ⟨a, dx, fv, rfl, h2, h3⟩ := h
        exact ⟨(a, dx), ⟨fv, rfl, .inr ⟨h2, fun z => by cases z⟩, h3⟩, rfl⟩
    refine ⟨fun n => match n with | 0 => p | n + 1 => f n, fun i sl e => ?_⟩
    cases i with
    | zero =>
      have e : some (slO p d) = some sl := e
      cases e
      exact ⟨v, rfl, hp, ho⟩
    | succ i =>
      have e : (slOs ds f)[i]? = some sl := e
      exact hf i sl e
theorem start_O {K : PySem.W.Frag} {B H : Hp} {N : List Str} {ods : List OD} {vs : List V} (s : Same B H) (h : DoHs K B H vs ods) (hl : ods.length ≤ N.length) : ∃ f, Lay K ⟨none, (0, []), B, H⟩ B H (L2.start N vs) (startO N ods f) := by
  obtain ⟨f, hf⟩ := slOs_at h
  have hvl : vs.length = ods.length := Paired.length h
  have key : ∀ (i : Nat) (sl : Sl), (startO N ods f)[i]? = some sl → SlOk K ⟨none, (0, []), B, H⟩ B H (L2.start N vs)[i]? sl ∧ sl.ow = false := fun i sl e => by
    unfold startO at e
    by_cases hi : i < ods.length
    · rw [List.getElem?_append_left (by rw [slOs_len]; exact hi)] at e
      obtain ⟨v, h1, h2, h3⟩ := hf i sl e
      refine ⟨?_, h3⟩
      have e2 : (L2.start N vs)[i]? = some (some v) := by
        unfold L2.start
        rw [List.getElem?_append_left (by rw [List.length_map, hvl]; exact hi), List.getElem?_map, h1]
        rfl
      rw [e2]
      exact h2
    · rw [List.getElem?_append_right (by rw [slOs_len]; omega)] at e
      have := List.eq_of_mem_replicate (List.mem_of_getElem? e)
      subst this
      exact ⟨trivial, rfl⟩
  refine ⟨f, ⟨⟨s, fun _ _ h => h, fun _ _ h => h, fun x o h _ => h, fun T z => by cases z⟩, ?_, fun i sl e => (key i sl e).1, fun i j p q hne f1 f2 o1 o2 => ?_⟩⟩
  · simp [L2.start, startO, slOs_len, hvl]
  · rw [(key i p f1).2] at o1
    cases o1
/-- a body that ends in such a value -/
def DeG (K : PySem.W.Frag) (W : Wd) (R : OD → Prop) : Ends where
  nx := fun _ H => ∃ B, Gr K W B H ∧ R (.d .none)
  rt := fun v H => ∃ B d, Gr K W B H ∧ DoF K B v d ∧ R d
structure Eg (X : Cx) (W : Wd) (sts : List Stmt) (ρ : List Sl) (R : OD → Prop) : Prop where
  run : ∀ (σ : L2.St) (H B : Hp), Lay X.K W B H σ ρ → tWss X sts (DeG X.K W R) σ H
section
variable {X : Cx} {W : Wd} {ρ : List Sl} {R : OD → Prop} {pos : Pos} {e : Expr} {st : Stmt} {sts : List Stmt}
theorem eg_cons (h : Es X W st ρ { nx := fun r => Eg X W sts r R, rt := fun x => R (.d x) }) : Eg X W (st :: sts) ρ R := by
  refine ⟨fun σ H B L => (pss_cons ps_w pss_w).toZ ?_⟩
  show tWs X st { DeG X.K W R with nx := fun σ' H' => tWss X sts (DeG X.K W R) σ' H' } σ H
  intro pins s I
  refine thn (h.run σ H B L pins s I) fun f s' q => ?_
  cases f with
  | next => obtain ⟨σ', H', I', B', ρ', s0, L', q⟩ := q; exact ⟨σ', H', I', q.run σ' H' B' L'⟩
  | brk => obtain ⟨σ', H', I', B', ρ', s0, L', q⟩ := q; exact q.elim
  | cont => obtain ⟨σ', H', I', B', ρ', s0, L', q⟩ := q; exact q.elim
  | ret u => obtain ⟨v, σ', H', I', r, B', d, g, Dv, rr⟩ := q; exact ⟨v, σ', H', I', r, B', .d d, g, Dv, rr⟩
theorem eg_nil (h : R (.d .none)) : Eg X W [] ρ R := ⟨fun σ H B L => pss_nil.toZ (D := DeG X.K W R) ⟨B, L.gr, h⟩⟩
theorem eg_ret (h : Edf X W e ρ R) : Eg X W [.Return (some e) pos] ρ R := by
  refine ⟨fun σ H B L => (pss_one (ps_ret pe_w)).toZ (D := DeG X.K W R) ?_⟩
  refine h.run σ H B _ L fun v H' B' d s L' Dv r => ?_
  exact ⟨B', d, L'.gr, Dv, r⟩
theorem eg_ess (h : Ess X W sts ρ { nx := fun _ => R (.d .none), rt := fun x => R (.d x) }) : Eg X W sts ρ R := by
  refine ⟨fun σ H B L pins s I => thn (h.run σ H B L pins s I) fun f s' q => ?_⟩
  cases f with
  | next => obtain ⟨σ', H', I', B', ρ', s0, L', q⟩ := q; exact ⟨σ', H', I', B', L'.gr, q⟩
  | brk => obtain ⟨σ', H', I', B', ρ', s0, L', q⟩ := q; exact q.elim
  | cont => obtain ⟨σ', H', I', B', ρ', s0, L', q⟩ := q; exact q.elim
  | ret u => obtain ⟨v, σ', H', I', r, B', d, g, Dv, rr⟩ := q; exact ⟨v, σ', H', I', r, B', .d d, g, Dv, rr⟩
end
theorem fn_g {P : Program} {w : World} {K : PySem.W.Frag} {mg : Str → Option Value} {base : Heap} {x qual : Str} {st : Stmt} {f : Addr} {fd : FuncData} {N ps : List Str} {k : Nat} {P' : List OD → (OD → Prop) → (Addr → Prop) → Prop} (F : Fun K x qual st f fd) (S : FnScope N ps (defScope st)) (len : ∀ ods R Er, P' ods R Er → ods.length = ps.length)
    (body : ∀ (cdv : Value) (A : Around) (outer : List Env) (s : Shared) (H : Hp) (E : XK) (W : Wd) (ods : List OD) (ad : Nat → Addr × Addr) (R : OD → Prop) (Er : Addr → Prop), Room k (Bn P w K mg base N qual (defScope st) f cdv A outer s H E).A → L2N.Takes (Bn P w K mg base N qual (defScope st) f cdv A outer s H E) (fun cls d _ H => E cls d H) →
      (∀ D B' H', Gr K W B' H' → Er D → E (.ref D) none H') → P' ods R Er →
      Eg (Bn P w K mg base N qual (defScope st) f cdv A outer s H E) W (defBody st) (startO N ods ad) R) (hl : ps.length ≤ N.length := by decide) : FnOk P w K mg base (L2N.CX P w) (k + 1) f fd ps (GCon K P') := by
  obtain ⟨oc, od, kV, doc, pm, an, cdv, ct, osl, rfl, lk, hcd⟩ := F.ex
  refine fn_of lk hcd S (fun vs H Q E h => ?_) (fun A outer s H vs Q E hr h => ?_)
  · obtain ⟨B, ods, R, Er, _, h1, h2, _⟩ := h
    rw [Paired.length h1]
    exact len ods R Er h2
  · obtain ⟨B, ods, R, Er, sB, h1, h2, q, qe⟩ := h
    refine ⟨_, pss_w, ?_⟩
    intro pins s0 I
    obtain ⟨ad, L⟩ := start_O (N := N) sB h1 (by rw [len ods R Er h2]; exact hl)
    have tk : L2N.Takes (Bn P w K mg base N qual (defScope st) f cdv A outer s H E) (fun cls d _ H => E cls d H) := L2N.takes_of (X := Bn P w K mg base N qual (defScope st) f cdv A outer s H E) rfl rfl rfl rfl
    refine thn ((body cdv A outer s H E ⟨none, (0, []), B, H⟩ ods ad R Er hr tk (fun D B' H' g e => qe D H' B' g e) h2).run _ _ _ L pins s0 I) fun fl s' hs => ?_
    cases fl with
    | next => obtain ⟨σ', H', I', B', g, r⟩ := hs; exact ⟨σ', H', I', q .non H' B' (.d .none) g (show Dq K B' .non .none from .non) r⟩
    | brk => obtain ⟨σ', H', I', z⟩ := hs; exact z.elim
    | cont => obtain ⟨σ', H', I', z⟩ := hs; exact z.elim
    | ret u => obtain ⟨v, σ', H', I', r, B', d, g, Dv, rr⟩ := hs; exact ⟨v, σ', H', I', r, q v H' B' d g Dv rr⟩
/-! ### calls -/
section
variable {X : Cx} {W : Wd} {ρ : List Sl} {D : Dz} {pos : Pos} {a b e o : Expr} {es : List Expr} {st : Stmt} {sts : List Stmt} {Ep : Addr → List Sl → Prop}
/-- what is raised -/
def EK (K : PySem.W.Frag) (W : Wd) (Ep : Addr → List Sl → Prop) (ρ : List Sl) : XK := fun cls d H' => ∃ D B' σ, cls = .ref D ∧ d = none ∧ Ep D ρ ∧ Lay K W B' H' σ ρ
theorem Tkp.pass {ρ : List Sl} (tk : Tkp X W Ep) : Passes (L2N.CX X.prog X.w) X (EK X.K W Ep ρ) := tk _ fun _ _ _ ⟨D, B', σ, h1, h2, h3, L⟩ => ⟨D, B', σ, ρ, h1, h2, h3, L⟩
theorem gcon_call {P : List OD → (OD → Prop) → (Addr → Prop) → Prop} {B H : Hp} {σ : L2.St} {vs : List V} {ods : List OD} {R : OD → Prop} {Q : VK} (L : Lay X.K W B H σ ρ) (hd : DoKs X.K W B ρ vs ods) (h : P ods R (fun D => Ep D ρ))
    (k : ∀ v H' B' d, Same B B' → Lay X.K W B' H' σ ρ → DoF X.K B' v d → R d → Q v H') : GCon X.K P vs H Q (EK X.K W Ep ρ) := by
  refine ⟨B, ods, R, (fun D => Ep D ρ), L.gr.sub, doksH L hd, h, fun v H' B' d g D r => ?_, fun D H' B' g er => ?_⟩
  · obtain ⟨s, L'⟩ := L.called (.inl rfl) g
    exact k v H' B' d s L' D r
  · obtain ⟨s, L'⟩ := L.called (.inl rfl) g
    exact ⟨D, B', σ, rfl, rfl, er, L'⟩
/-- a new instance; where its making raises, the row stands -/
theorem made_okL {K : PySem.W.Frag} {W : Wd} {B H : Hp} {σ : L2.St} {ρ : List Sl} {C ad dx : Addr} (L : Lay K W B H σ ρ) (q1 : H ad = none) (q2 : H dx = none) (q3 : dx ≠ ad) {P : List (Str × PyData) → List PyData → (PyData → List (Str × PyData) → Prop) → (Addr → Prop) → Prop} {us : List V} {ds : List PyData} {R : PyData → List (Str × PyData) → Prop} {Er : Addr → Prop} {Q : VK} {E : XK}
    (D : DqAll K B us ds) (h : P [] ds R Er) (hQ : ∀ v H' B' d fs' fv', Same B B' → Lay K W B' H' σ ρ → H' ad = some (.ins C dx fv') → B' ad = none → FsD K B' fv' fs' → Dq K B' v d → R d fs' → Q v H')
    (hE : ∀ D' H' B', Lay K W B' H' σ ρ → Er D' → E (.ref D') none H') : XConR K C P (.ref ad :: us) (upd (upd H dx (.own ad)) ad (.ins C dx [])) Q E := by
  have bn : B ad = none := Same.free L.gr.sub q1
  have bx : B dx = none := Same.free L.gr.sub q2
  have hle : ∀ (y : Addr) (o : HO), H y = some o → minus (upd (upd H dx (.own ad)) ad (.ins C dx [])) ad y = some o := fun y o e => by
    have y1 : y ≠ ad := ne_of_none e q1
    have y2 : y ≠ dx := ne_of_none e q2
    rw [minus_ne y1, upd_ne y1, upd_ne y2]
    exact e
  refine ⟨B, ad, dx, [], [], us, ds, R, Er, rfl, same_right (same_right L.gr.sub bx) bn, upd_same, bn, .nil, D, h, fun r H' B' dr fs' fv' g e1 e2 e3 Dr rr => ?_, fun D' H' B' g er => ?_⟩
  · obtain ⟨s, L'⟩ := L.called (.inl rfl) (g.less hle)
    exact hQ r H' B' dr fs' fv' s L' e1 e2 e3 Dr rr
  · obtain ⟨s, L'⟩ := L.called (.inl rfl) (g.less hle)
    exact hE D' H' B' L' er
theorem edf_call (tk : Tkp X W Ep) {f : Addr} {fd : FuncData} {ps : List Str} {k : Nat} {x : Str} {p : Pos} {R : OD → Prop} {P : List OD → (OD → Prop) → (Addr → Prop) → Prop} (F : FnOk X.prog X.w X.K X.mg X.base (L2N.CX X.prog X.w) k f fd ps (GCon X.K P)) (hr : Room k X.A) (hm : X.mg x = some (.ref f))
    (hk : PySem.W.keepIn X.K (.ref f) = true) (hb : Binds X.K fd ps []) (h : Eda X W (e :: es) ρ fun ds => P ds R (fun D => Ep D ρ)) (hg : Gl X x := by rfl)
    (hs : starEach (e :: es) X.env = (false, eval e X.env) :: starEach es X.env := by rfl) (hpl : (backTo pos (starEach es X.env)).any (·.1) = false := by rfl) (hdb : (x == ("__debug__" : Str)) = false := by decide) : Edf X W (.Call (.Name x p) (e :: es) [] pos) ρ R := by
  refine ⟨fun σ H B Q L k => PE.toZ (t := tCall (GCon X.K P) [] (EK X.K W Ep ρ) (tWa X (e :: es))) (pe_call F hr hg hm hk hb .nil tk.pass pa_w hdb hs hpl) ?_⟩
  refine h.run σ H B _ L fun vs H1 B1 ds s1 L1 D1 h2 => ?_
  show GCon X.K P (vs ++ []) H1 Q (EK X.K W Ep ρ)
  rw [List.append_nil]
  exact gcon_call L1 D1 h2 fun v H' B' d s L' Dv r => k v H' B' d (s1.trans s) L' Dv r
/-- C(e, ..) -/
theorem edf_make (tk : Tkp X W Ep) {C f : Addr} {fd : FuncData} {ps : List Str} {k : Nat} {x : Str} {p : Pos} {R : OD → Prop} {P : List (Str × PyData) → List PyData → (PyData → List (Str × PyData) → Prop) → (Addr → Prop) → Prop} (M : Mk X.K C f) (F : FnOk X.prog X.w X.K X.mg X.base (L2N.CX X.prog X.w) k f fd ps (XConR X.K C P)) (hr : Room (k + 1) X.A)
    (hm : X.mg x = some (.ref C)) (hb : Binds X.K fd ps []) (h : Ea X W (e :: es) ρ fun ds => P [] ds (fun r fs => r = .none ∧ R (.o C fs)) (fun D => Ep D ρ)) (hg : Gl X x := by rfl) (hdb : (x == ("__debug__" : Str)) = false := by decide)
    (he : starEach (e :: es) X.env = (false, eval e X.env) :: starEach es X.env := by rfl) (hpl : (backTo pos (starEach es X.env)).any (·.1) = false := by rfl) : Edf X W (.Call (.Name x p) (e :: es) [] pos) ρ R := by
  refine ⟨fun σ H B Q L kk => PE.toZ (t := tMake C (XConR X.K C P) [] (EK X.K W Ep ρ) (tWa X (e :: es))) (pe_make M F hr hg hm hb .nil tk.pass pa_w hdb he hpl) ?_⟩
  refine h.run σ H B _ L fun vs H1 B1 ds s1 L1 D1 h2 => ?_
  intro ad dx q1 q2 q3
  rw [List.append_nil]
  refine made_okL L1 q1 q2 q3 D1 h2 (fun v H' B' d fs' fv' s L' e1 e2 e5 Dv rr => ?_) fun D' H' B' g er => ⟨D', B', σ, rfl, rfl, er, g⟩
  obtain ⟨rn, rr⟩ := rr
  subst rn
  obtain ⟨e3, e4⟩ := L1.fresh_at q1
  obtain ⟨s2, L2⟩ := L'.frzNew e2 e3 e1 e4
  exact ⟨dp_none Dv, kk _ H' _ (.o C fs') ((s1.trans s).trans s2) L2 ⟨ad, dx, fv', rfl, upd_same, fsMono s2 e5⟩ rr⟩
/-- C.m(e), a classmethod that makes an instance -/
theorem edf_plain (tk : Tkp X W Ep) {C f fp : Addr} {y m : Str} {py apos : Pos} {mc : Value} {fd : FuncData} {ps : List Str} {k : Nat} {R : OD → Prop} {P : PyData → (List (Str × PyData) → Prop) → (Addr → Prop) → Prop} {pl : Sem Bool}
    (rd : ClX.CRead X.K C mc) (cm : ClX.CMet X.K C mc m fp f) (F : FnOk X.prog X.w X.K X.mg X.base (L2N.CX X.prog X.w) k f fd ps (PCon X.K C P)) (hr : Room k X.A) (hm : X.mg y = some (.ref C)) (hb : Binds X.K fd ps [])
    (h : Ev X W e ρ fun d => P d (fun fs => R (.o C fs)) (fun D => Ep D ρ)) (hg : Gl X y := by rfl) (hdb : (y == ("__debug__" : Str)) = false := by decide) (he : starEach [e] X.env = (false, eval e X.env) :: starEach [] X.env := by rfl) (hpl : (backTo pos (starEach [] X.env)).any (·.1) = false := by rfl)
    (ht : eval (.Call (.Attribute (.Name y py) m apos) [e] [] pos) X.env = (do
      let ov ← eval (.Name y py) X.env
      standAt apos.atName
      let (f, first) ← holding [ov] (getMethod ov m pl)
      callWith pos f first (backTo pos (starEach [e] X.env)) (backToKw pos (keywordEach [] X.env))) := by rfl) : Edf X W (.Call (.Attribute (.Name y py) m apos) [e] [] pos) ρ R := by
  refine ⟨fun σ H B Q L kk => ?_⟩
  refine (ClX.pe_cmeth (E := EK X.K W Ep ρ) (pl := pl) (pe_glob hg hm (v := V.ref C) rfl hdb) rd cm (F.raw hb .nil) hr tk.pass (pa_cons pe_w pa_nil he) he hpl ht).toZ ?_
  refine ⟨rfl, ?_⟩
  refine h.run σ H B _ L fun v H1 B1 d s1 L1 D1 h2 => ?_
  refine ⟨B1, v, d, _, (fun D => Ep D ρ), rfl, L1.gr.sub, D1, h2, fun ad dx fv fs H' B' g e1 e2 e3 e4 rr => ?_, fun D' H' B' g er => ?_⟩
  · obtain ⟨s, L'⟩ := L1.called (.inl rfl) g
    have fr := L1.fresh_at e3
    obtain ⟨s2, L2⟩ := L'.frzNew e2 fr.1 e1 fr.2
    exact kk _ H' _ (.o C fs) ((s1.trans s).trans s2) L2 ⟨ad, dx, fv, rfl, upd_same, fsMono s2 e4⟩ rr
  · obtain ⟨s, L'⟩ := L1.called (.inl rfl) g
    exact ⟨D', B', σ, rfl, rfl, er, L'⟩
/-- e.f, a property of the instance that e gives -/
theorem ev_propO {C p g : Addr} {f : Str} {fd : FuncData} {ps : List Str} {k : Nat} {R : PyData → Prop} {P : List (Str × PyData) → List PyData → (PyData → Prop) → Prop} (c : Cls X.K C) (hp : PropOf X.K C f p g) (F : FnOk X.prog X.w X.K X.mg X.base CX0 k g fd ps (MCon X.K C P)) (hr : Room (k + 1) X.A) (hbd : Binds X.K fd ps [])
    (h : Ed X W e ρ fun d => ∃ fs, d = .o C fs ∧ P fs [] R) (hb : attributeBase e f X.env (eval e X.env) = eval e X.env := by rfl) : Ev X W (.Attribute e f pos) ρ R := by
  refine ⟨fun σ H B Q L k' => PE.toZ (t := tProp C (MCon X.K C P) [] E0 (tW X e)) (pe_prop pe_w c hp F hr hbd .nil pass0 hb) ?_⟩
  refine h.run σ H B _ L fun v H1 B1 d s1 L1 D1 h2 => ?_
  obtain ⟨fs, rfl, h3⟩ := h2
  obtain ⟨a, dx, fv, rfl, ha, g3⟩ := D1.ins L1
  refine ⟨a, dx, fv, rfl, ha, B1, a, dx, fv, fs, [], [], R, rfl, L1.gr.sub, ha, trivial, g3, .nil, h3, fun v H' B' d g D r => ?_⟩
  obtain ⟨s, L'⟩ := L1.called (.inl rfl) g
  exact k' v H' B' d (s1.trans s) L' D r
/-- o(e, ..), o an instance -/
theorem edf_callO (tk : Tkp X W Ep) {C g : Addr} {fd : FuncData} {ps : List Str} {k : Nat} {R : OD → Prop} {P : List OD → (OD → Prop) → (Addr → Prop) → Prop} (c : StX.CallO X.K C g) (F : FnOk X.prog X.w X.K X.mg X.base (L2N.CX X.prog X.w) k g fd ps (GCon X.K P)) (hr : Room k X.A) (hbd : Binds X.K fd ps [])
    (h : Ed X W o ρ fun d => ∃ fs, d = .o C fs ∧ Eda X W (e :: es) ρ fun ds => P (d :: ds) R (fun D => Ep D ρ))
    (ht : eval (.Call o (e :: es) [] pos) X.env = (do callWith pos (← eval o X.env) [] (backTo pos (starEach (e :: es) X.env)) (backToKw pos (keywordEach [] X.env))) := by rfl)
    (he : starEach (e :: es) X.env = (false, eval e X.env) :: starEach es X.env := by rfl) (hpl : (backTo pos (starEach es X.env)).any (·.1) = false := by rfl) : Edf X W (.Call o (e :: es) [] pos) ρ R := by
  refine ⟨fun σ H B Q L k' => PE.toZ (t := StX.tCallO X C (fun vs H Q E => GCon X.K P (vs ++ []) H Q E) (EK X.K W Ep ρ) (tW X o) (tWa X (e :: es))) (StX.pe_callO (CX := L2N.CX X.prog X.w) pe_w c (F.raw hbd .nil) hr tk.pass pa_w ht he hpl) ?_⟩
  refine h.run σ H B _ L fun v H1 B1 d s1 L1 D1 h2 => ?_
  obtain ⟨fs, rfl, h3⟩ := h2
  obtain ⟨a, dx, fv, rfl, g2, g3⟩ := D1.ins L1
  refine ⟨a, rfl, ?_⟩
  refine h3.run σ H1 B1 _ L1 fun vs H2 B2 ds s2 L2 D2 h4 => ?_
  obtain ⟨a', dx', fv', e', g2', g3'⟩ := (D1.mono s2).ins L2
  cases e'
  refine ⟨.inr ⟨dx', fv', g2'⟩, ?_⟩
  show GCon X.K P ((V.ref a :: vs) ++ []) H2 Q (EK X.K W Ep ρ)
  rw [List.append_nil]
  exact gcon_call L2 (.cons (D1.mono s2) D2) h4 fun v H' B' d s L' Dv r => k' v H' B' d ((s1.trans s2).trans s) L' Dv r
/-- o.m(e, ..), o an instance -/
theorem edf_meth (tk : Tkp X W Ep) {C f : Addr} {m : Str} {apos : Pos} {fd : FuncData} {ps : List Str} {k : Nat} {R : OD → Prop} {P : List OD → (OD → Prop) → (Addr → Prop) → Prop} {pl : Sem Bool} (c : Cls X.K C) (hm : Meth X.K C m f) (F : FnOk X.prog X.w X.K X.mg X.base (L2N.CX X.prog X.w) k f fd ps (GCon X.K P)) (hr : Room k X.A) (hbd : Binds X.K fd ps [])
    (h : Ed X W o ρ fun d => ∃ fs, d = .o C fs ∧ fs.lookup m = none ∧ Eda X W (e :: es) ρ fun ds => P (d :: ds) R (fun D => Ep D ρ))
    (hst : starEach (e :: es) X.env = (false, eval e X.env) :: starEach es X.env := by rfl) (hpl : (backTo pos (starEach es X.env)).any (·.1) = false := by rfl)
    (ht : eval (.Call (.Attribute o m apos) (e :: es) [] pos) X.env = (do
      let ov ← eval o X.env
      standAt apos.atName
      let (f, first) ← holding [ov] (getMethod ov m pl)
      callWith pos f first (backTo pos (starEach (e :: es) X.env)) (backToKw pos (keywordEach [] X.env))) := by rfl) : Edf X W (.Call (.Attribute o m apos) (e :: es) [] pos) ρ R := by
  refine ⟨fun σ H B Q L k' => PE.toZ (t := tMeth C m (GCon X.K P) [] (EK X.K W Ep ρ) (tW X o) (tWa X (e :: es))) (pe_meth (pl := pl) pe_w c hm F hr hbd .nil tk.pass pa_w hst hpl ht) ?_⟩
  refine h.run σ H B _ L fun v H1 B1 d s1 L1 D1 h2 => ?_
  obtain ⟨fs, rfl, hno, h3⟩ := h2
  obtain ⟨a, dx, fv, rfl, g2, g3⟩ := D1.ins L1
  refine ⟨a, dx, fv, rfl, g2, ?_, ?_⟩
  · rcases fsd_look (f := m) g3 with ⟨q, _⟩ | ⟨v, d', q1, q2, q3⟩
    · exact q
    · rw [hno] at q2
      cases q2
  · refine h3.run σ H1 B1 _ L1 fun vs H2 B2 ds s2 L2 D2 h4 => ?_
    show GCon X.K P (V.ref a :: (vs ++ [])) H2 Q (EK X.K W Ep ρ)
    rw [List.append_nil]
    exact gcon_call L2 (.cons (D1.mono s2) D2) h4 fun v H' B' d s L' Dv r => k' v H' B' d ((s1.trans s2).trans s) L' Dv r
end
/-! ### own operators -/
/-- the class has its own def under that name -/
structure OwnOp (K : PySem.W.Frag) (C : Addr) (m : Str) (f : Addr) : Prop where
  at_ : PySem.W.findIn K (.ref C) m = some (some (.ref f))
  fn : PySem.W.isFn K (.ref f) = true
section
variable {prog : Program} {w : World} {A : Around} {E : Value → Shared → Prop} {s : Shared} {K : PySem.W.Frag} {x C L f : Addr} {h₀ : Heap} {m : Str → Option Value} {ox : Obj} {od : Option Obj}
open PySem.W Builtin in
theorem ne_one {b : Value} {Q : Value → Shared → Prop} (hu : A.in1.units < cLine) (X : K.In s.heap) (I : InstAt s.heap x ox C od) (hm : mroIn K C (.type "object") = some true) (hs : findIn K (.ref C) "__eq__" = some (some (.ref f))) (hf : isFn K (.ref f) = true)
    (h : wpAny (model prog w) A.in1 (call (.ref f) [.ref x, b]) (fun v s' => ∃ r, v = .bool r ∧ Q (.bool (!r)) s') E s) : wpAny (model prog w) A (call (.builtin "object.__ne__") [.ref x, b]) Q E s := by
  refine wpAny_call (codeAny_call_builtin PySem.F.cmp_object.ne.plain PySem.F.cmpEntry_ne (check_slot (i := "object.__ne__") (owner := "object") (n := "__ne__") PySem.F.cmpKind_ne PySem.F.cmpSplit_ne (I.type.andThen (looks_mroIn X hm)) (PySem.F.cmpArgs_ne _ _) ?_))
  unfold Builtin.«object.__ne__»
  refine wpAny_bind (m := slotArgs "__ne__" 1 _) (wpAny_pure ?_)
  refine wpAny_bind (m := cRoomFor _ _) (wpAny_cRoomFor hu ?_)
  refine wpAny_bind (m := callSpecialIfBound? (.ref x) (Str.ofString "__eq__") _) (ifBound_K X I hs hf (wpAny_mono h (fun v s' hq => ?_) fun _ _ y => y))
  obtain ⟨r, rfl, q⟩ := hq
  refine wpAny_bind (wpAny_truthy_bool ?_)
  exact wpAny_pure q
open PySem.W Builtin in
theorem ifBoundB {M : Model} {name : Str} {id : String} {args : List Value} {Q : Option Value → Shared → Prop} (X : K.In s.heap) (I : InstAt s.heap x ox C od) (hs : findIn K (.ref C) name = some (some (.builtin id))) (hb : ∀ self, bindSpecial (.builtin id) self = pure (.builtin id, [self]))
    (h : wpAny M A (call (.builtin id) (.ref x :: args)) (fun v => Q (some v)) E s) : wpAny M A (callSpecialIfBound? (.ref x) name args) Q E s := by
  simp only [callSpecialIfBound?, bindSpecialIfBound?]
  refine wpAny_holding (wpAny_bind (wpAny_bind (wpAny_bind (I.type.here ((looks_findIn X hs).here ?_)))))
  refine wpAny_bind (wpAny_askSetting (wpAny_ite ?_))
  have fin : wpAny M A (call (.builtin id) ([.ref x] ++ args) >>= fun v => pure (some v)) Q E s := wpAny_bind (wpAny_mono h (fun v s' h' => wpAny_pure h') fun _ _ h' => h')
  split
  · exact wpAny_bind ((Looks.of_pure (hb _)).here (wpAny_pure (by exact fin)))
  · exact wpAny_tryCatch (wpAny_bind ((Looks.of_pure (hb _)).here (wpAny_pure (by exact fin))))
open PySem.W Builtin in
theorem ne_K {tb b : Value} {Q : Value → Shared → Prop} (hu : A.units + 1 < cLine) (F : Fr h₀ L s.heap m) (X₀ : K.In h₀) (I : InstAt s.heap x ox C od) (hb : Looks (model prog w) s.heap (typeOf b) tb) (hn : notFirst K C tb = true)
    (hne : findIn K (.ref C) "__ne__" = some (some (.builtin "object.__ne__"))) (hm : mroIn K C (.type "object") = some true) (hs : findIn K (.ref C) "__eq__" = some (some (.ref f))) (hf : isFn K (.ref f) = true)
    (h : wpAny (model prog w) A.in1 (call (.ref f) [.ref x, b]) (fun v s' => ∃ r, v = .bool r ∧ Q (.bool (!r)) s') E s) : wpAny (model prog w) A (richCompare .NotEq (.ref x) b) Q E s := by
  have X := X₀.keeps F.keep
  have one : wpAny (model prog w) A (tryCompare (.ref x) "__ne__" b) (fun r s' => ∃ v, r = some v ∧ Q v s') E s := by
    unfold tryCompare
    refine wpAny_bind (ifBoundB X I hne PySem.F.cmp_object.ne.bind (ne_one (by show A.units + 1 < cLine; exact hu) X I hm hs hf (wpAny_mono h (fun v s' hv => ?_) fun _ _ e => e)))
    obtain ⟨r, rfl, q⟩ := hv
    exact ⟨r, rfl, wpAny_pure ⟨_, rfl, q⟩⟩
  unfold richCompare
  simp only [oneThing_ref]
  refine wpAny_holding (wpAny_bind (wpAny_cRoomFor (Nat.lt_of_succ_lt hu) ?_))
  refine wpAny_bind (I.type.here (wpAny_bind (hb.here ?_)))
  split
  · rename_i q
    have e : subIn K tb (.ref C) = some false := by
      rcases Bool.or_eq_true_iff.mp hn with e | e
      · rw [beq_iff_eq.mp e] at q; simp at q
      · exact beq_iff_eq.mp e
    refine wpAny_bind ((looks_subIn X e).here ?_)
    simp only [Bool.false_eq_true, if_false]
    refine wpAny_bind (wpAny_mono one (fun r s' z => ?_) fun _ _ e => e)
    obtain ⟨v, rfl, hq⟩ := z
    exact wpAny_pure hq
  · refine wpAny_bind (wpAny_pure ?_)
    simp only [Bool.false_eq_true, if_false]
    refine wpAny_bind (wpAny_mono one (fun r s' z => ?_) fun _ _ e => e)
    obtain ⟨v, rfl, hq⟩ := z
    exact wpAny_pure hq
end
section
variable {X : Cx} {CX : CXT} {k : Nat} {C f : Addr} {fd : FuncData} {ps : List Str} {sp : Sp} {E : XK}
theorem rref {a : Addr} : RelV (.ref a) (Value.ref a) := rfl
theorem run_fnA {A : Around} {pins : List (Addr × Obj)} {σ : L2.St} {H : Hp} {s : Shared} {Q : VK} {us : List Value} {vs : List V} (F : FnOk X.prog X.w X.K X.mg X.base CX k f fd ps sp) (hf : A.frames = X.A.frames) (hr : Room k A) (hb : Binds X.K fd ps []) (hx : Passes CX X E)
    (I : Inv X pins σ H s) (r : Vals vs us) (h : sp vs H Q E) : wpAny (model X.prog X.w) A (call (.ref f) us) (EP X pins σ Q) X.xe s := by
  have e0 : Env0 X.prog X.w X.K X.mg X.base A X.stack s H := by
    have e := I.env0
    exact ⟨by rw [hf]; exact e.frames, e.mod, e.bs, e.bsz, e.funs, e.frf, e.hok, e.bare⟩
  have hl : us.length = ps.length := by rw [← r.length]; exact F.len _ _ _ _ h
  refine wpAny_call (codeAny_mono (F.run A X.stack s H ⟨us, []⟩ us vs Q E hr e0 (by
    have := hb s us I.kIn (by simpa using hl)
    simpa using this) r h) fun r s' hq => ?_)
  cases r with
  | error e => exact hx pins σ H s e s' I hq
  | ok fl =>
    cases fl with
    | ret u => exact I.after hq
    | next => exact False.elim hq
    | brk => exact False.elim hq
    | cont => exact False.elim hq
theorem ins_at {pins : List (Addr × Obj)} {σ : L2.St} {H : Hp} {s : Shared} {a dx : Addr} {fs : List (Str × V)} (I : Inv X pins σ H s) (ha : H a = some (.ins C dx fs)) : ∃ ox od, PySem.W.InstAt s.heap a ox C (some od) := by
  obtain ⟨mA, J, _⟩ := ins_get I.hok ha
  obtain ⟨od, J, _⟩ := J.look
  exact ⟨_, od, J⟩
theorem back_of {x : V} {u : Value} {Q : Value → Shared → Prop} {s : Shared} (r : RelV x u) (h : Q u s) : PySem.W.CmpBack Q u s := by
  cases x with
  | non => cases r; exact h
  | bl b => cases r; exact h
  | int i => obtain ⟨t, rfl⟩ := r; exact h
  | str i => obtain ⟨t, rfl⟩ := r; exact h
  | byt i => obtain ⟨t, rfl⟩ := r; exact h
  | flt i => obtain ⟨t, rfl⟩ := r; exact h
  | ref i => cases r; exact h
  | ty i => cases r; exact h
/-- a value's class, seen -/
def TyIs (X : Cx) (y : V) (H : Hp) (tb : Value) : Prop := ∀ (pins : List (Addr × Obj)) (σ : L2.St) (s : Shared) (u : Value), Inv X pins σ H s → RelV y u → PySem.W.Looks (model X.prog X.w) s.heap (typeOf u) tb
theorem tyIs_ins {H : Hp} {a dx : Addr} {fs : List (Str × V)} (h : H a = some (.ins C dx fs)) : TyIs X (.ref a) H (.ref C) := fun pins σ s u I r => by
  cases r
  obtain ⟨ox, od, J⟩ := ins_at I h
  exact J.type
theorem tyIs_tup {H : Hp} {a : Addr} {xs : List V} (h : SqT X.K H a xs) : TyIs X (.ref a) H (.type "tuple") := fun pins σ s u I r => by
  cases r
  obtain ⟨its, r, e, z⟩ := I.tuple h
  obtain ⟨o, h1, h2, _⟩ := e
  have := (PySem.W.Looks.ld (M := model X.prog X.w) (part := none) h1).andThen (f := fun o => pure o.cls) .now
  rw [h2] at this
  exact this
def rOwn1 (C : Addr) (sp : Sp) (E : XK) : V → Hp → VK → Prop := fun x H Q => ∃ a dx fs, x = .ref a ∧ H a = some (.ins C dx fs) ∧ sp [x] H Q E
theorem un_own (O : OwnOp X.K C "__neg__" f) (F : FnOk X.prog X.w X.K X.mg X.base CX k f fd ps sp) (hr : Room k X.A) (hb : Binds X.K fd ps []) (hx : Passes CX X E) : UnR X (unaryOp .USub) (rOwn1 C sp E) := by
  intro pins s σ H x v Q I rx h
  obtain ⟨a, dx, fs, rfl, ha, q⟩ := h
  cases rx
  obtain ⟨ox, od, J⟩ := ins_at I ha
  obtain ⟨m, hF⟩ := I.fr
  exact PySem.W.ksp_neg hF I.ok.mod.kin J O.at_ O.fn (run_fnA F rfl hr hb hx I (.cons rref .nil) q)
def rOwn2 (X : Cx) (C : Addr) (sp : Sp) (E : XK) : R2 := fun x y H Q => ∃ a dx fs tb, x = .ref a ∧ H a = some (.ins C dx fs) ∧ TyIs X y H tb ∧ PySem.W.notFirst X.K C tb = true ∧ sp [x, y] H Q E
theorem op_eqOwn (O : OwnOp X.K C "__eq__" f) (F : FnOk X.prog X.w X.K X.mg X.base CX k f fd ps sp) (hr : Room k X.A) (hb : Binds X.K fd ps []) (hx : Passes CX X E) : OpR X (compareOp .Eq) (rOwn2 X C sp E) := by
  intro pins s σ H x y v u Q I rx ry h
  obtain ⟨a, dx, fs, tb, rfl, ha, ht, hn, q⟩ := h
  cases rx
  obtain ⟨ox, od, J⟩ := ins_at I ha
  obtain ⟨m, hF⟩ := I.fr
  refine PySem.W.cmp_ofEq (PySem.W.cmp_K (op := .Eq) hr.units0 hF I.ok.mod.kin J (ht _ _ _ _ I ry) hn O.at_ O.fn (wpAny_mono (run_fnA F rfl hr hb hx I (.cons rref (.cons ry .nil)) q) (fun v s' z => ?_) fun _ _ z => z))
  obtain ⟨v', H', I', r, q⟩ := z
  exact back_of r ⟨v', H', I', r, q⟩
def rOwnN (X : Cx) (C : Addr) (sp : Sp) (E : XK) : R2 := fun x y H Q => ∃ a dx fs tb, x = .ref a ∧ H a = some (.ins C dx fs) ∧ TyIs X y H tb ∧ PySem.W.notFirst X.K C tb = true ∧ sp [x, y] H (fun v H' => ∃ b, v = .bl b ∧ Q (.bl (!b)) H') E
theorem op_neOwn (hne : PySem.W.findIn X.K (.ref C) "__ne__" = some (some (.builtin "object.__ne__"))) (hm : PySem.W.mroIn X.K C (.type "object") = some true) (O : OwnOp X.K C "__eq__" f) (F : FnOk X.prog X.w X.K X.mg X.base CX k f fd ps sp) (hr : Room (k + 1) X.A) (hb : Binds X.K fd ps []) (hx : Passes CX X E) : OpR X (compareOp .NotEq) (rOwnN X C sp E) := by
  intro pins s σ H x y v u Q I rx ry h
  obtain ⟨a, dx, fs, tb, rfl, ha, ht, hn, q⟩ := h
  cases rx
  obtain ⟨ox, od, J⟩ := ins_at I ha
  obtain ⟨m, hF⟩ := I.fr
  refine PySem.W.cmp_ofNotEq (ne_K (by have := hr.un; omega) hF I.ok.mod.kin J (ht _ _ _ _ I ry) hn hne hm O.at_ O.fn (wpAny_mono (run_fnA (A := X.A.in1) F rfl hr.in1 hb hx I (.cons rref (.cons ry .nil)) q) (fun v s' z => ?_) fun _ _ z => z))
  obtain ⟨v', H', I', r, b, rfl, q⟩ := z
  cases r
  exact ⟨b, rfl, .bl (!b), H', I', rfl, q⟩
def rOwnIn (C : Addr) (sp : Sp) (E : XK) : R2 := fun y x H Q => ∃ a dx fs, x = .ref a ∧ H a = some (.ins C dx fs) ∧ sp [x, y] H (fun v H' => ∃ b, v = .bl b ∧ Q (.bl b) H') E
theorem op_inOwn (O : OwnOp X.K C "__contains__" f) (F : FnOk X.prog X.w X.K X.mg X.base CX k f fd ps sp) (hr : Room k X.A) (hb : Binds X.K fd ps []) (hx : Passes CX X E) : OpR X (compareOp .In) (rOwnIn C sp E) := by
  intro pins s σ H y x u v Q I ry rx h
  obtain ⟨a, dx, fs, rfl, ha, q⟩ := h
  cases rx
  obtain ⟨ox, od, J⟩ := ins_at I ha
  obtain ⟨m, hF⟩ := I.fr
  refine PySem.W.in_K hF I.ok.mod.kin J O.at_ O.fn (wpAny_mono (run_fnA F rfl hr hb hx I (.cons rref (.cons ry .nil)) q) (fun v s' z => ?_) fun _ _ z => z)
  obtain ⟨v', H', I', r, b, rfl, q⟩ := z
  cases r
  exact wpAny_truthy_bool ⟨.bl b, H', I', rfl, q⟩
def rOwnNotIn (C : Addr) (sp : Sp) (E : XK) : R2 := fun y x H Q => ∃ a dx fs, x = .ref a ∧ H a = some (.ins C dx fs) ∧ sp [x, y] H (fun v H' => ∃ b, v = .bl b ∧ Q (.bl (!b)) H') E
theorem op_notInOwn (O : OwnOp X.K C "__contains__" f) (F : FnOk X.prog X.w X.K X.mg X.base CX k f fd ps sp) (hr : Room k X.A) (hb : Binds X.K fd ps []) (hx : Passes CX X E) : OpR X (compareOp .NotIn) (rOwnNotIn C sp E) := by
  intro pins s σ H y x u v Q I ry rx h
  obtain ⟨a, dx, fs, rfl, ha, q⟩ := h
  cases rx
  obtain ⟨ox, od, J⟩ := ins_at I ha
  obtain ⟨m, hF⟩ := I.fr
  refine PySem.W.notIn_K hF I.ok.mod.kin J O.at_ O.fn (wpAny_mono (run_fnA F rfl hr hb hx I (.cons rref (.cons ry .nil)) q) (fun v s' z => ?_) fun _ _ z => z)
  obtain ⟨v', H', I', r, b, rfl, q⟩ := z
  cases r
  exact wpAny_truthy_bool ⟨.bl (!b), H', I', rfl, q⟩
/-- o[i] by an own __getitem__ -/
def tOwnIx (C : Addr) (sp : Sp) (E : XK) (ta tb : TE) : TE := tOp (fun x y H Q => ∃ a dx fs, x = .ref a ∧ H a = some (.ins C dx fs) ∧ sp [x, y] H Q E) ta tb
theorem pe_ixOwn {a b : Expr} {pos : Pos} {ta tb : TE} (O : OwnOp X.K C "__getitem__" f) (hfi : PySem.W.fnIn X.K f = true) (F : FnOk X.prog X.w X.K X.mg X.base CX k f fd ps sp) (hr : Room (k + 1) X.A) (hb : Binds X.K fd ps []) (hx : Passes CX X E) (ha : PE X a ta) (hbb : PE X b tb)
    (hsl : ∀ (x : Addr) (i : Value), subscripted b true (.ref x) i = runValue (.builtin "lifetime.subscript" ⟨[.ref x, i], []⟩)) : PE X (.Subscript a b pos) (tOwnIx C sp E ta tb) := by
  refine ⟨fun pins s σ H Q I h => ?_⟩
  refine Subscript_ (binT ha hbb I h fun v u s2 x y H2 I2 rx ry q => ?_)
  obtain ⟨a, dx, fs, rfl, ha, q⟩ := q
  cases rx
  obtain ⟨ox, od, J⟩ := ins_at I2 ha
  obtain ⟨m, hF⟩ := I2.fr
  exact PySem.W.sub_K hF I2.ok.mod.kin J O.at_ hfi O.fn (run_fnA (A := X.A.in1) F rfl hr.in1 hb hx I2 (.cons rref (.cons ry .nil)) q) (hsl _ _)
/-- what the types of the right operand must not have -/
structure MulT (K : PySem.W.Frag) (C : Addr) (T : String) : Prop where
  m : ∃ fo, PySem.W.findIn K (.type T) "__mul__" = some fo
  r : ∃ ro, PySem.W.findIn K (.type T) "__rmul__" = some ro
  s : PySem.W.subIn K (.type T) (.ref C) = some false
def tyV : V → String
  | .non => "NoneType"
  | .bl _ => "bool"
  | .int _ => "int"
  | .str _ => "str"
  | _ => ""
def rOwnMul (K : PySem.W.Frag) (C : Addr) (sp : Sp) (E : XK) : R2 := fun x y H Q => ∃ a dx fs, x = .ref a ∧ H a = some (.ins C dx fs) ∧ (tyV y ≠ "" ∧ MulT K C (tyV y)) ∧ sp [x, y] H Q E
theorem op_mulOwn (O : OwnOp X.K C "__mul__" f) (sf : PySem.W.selfFirst X.K C = true) (rm : PySem.W.findIn X.K (.ref C) "__rmul__" = some none) (F : FnOk X.prog X.w X.K X.mg X.base CX k f fd ps sp) (hr : Room k X.A) (hb : Binds X.K fd ps []) (hx : Passes CX X E) : OpR X (binaryOp .Mult) (rOwnMul X.K C sp E) := by
  intro pins s σ H x y v u Q I rx ry h
  obtain ⟨a, dx, fs, rfl, ha, ⟨ht, M⟩, q⟩ := h
  cases rx
  obtain ⟨ox, od, J⟩ := ins_at I ha
  obtain ⟨m, hF⟩ := I.fr
  obtain ⟨fo, h1⟩ := M.m
  obtain ⟨ro, h2⟩ := M.r
  have hty : typeOf u = pure (.type (tyV y)) := by
    cases y with
    | non => cases ry; rfl
    | bl b => cases ry; rfl
    | int i => obtain ⟨t, rfl⟩ := ry; rfl
    | str i => obtain ⟨t, rfl⟩ := ry; rfl
    | byt i => exact absurd rfl ht
    | flt i => exact absurd rfl ht
    | ref i => exact absurd rfl ht
    | ty i => exact absurd rfl ht
  refine PySem.W.ksp_binT (op := .Mult) hF I.ok.mod.kin J hty sf O.at_ O.fn rm (.inl rfl) h1 h2 M.s (wpAny_mono (run_fnA F rfl hr hb hx I (.cons rref (.cons ry .nil)) q) (fun v s' z => ?_) fun _ _ z => z)
  obtain ⟨v', H', I', r, q⟩ := z
  exact back_of r ⟨v', H', I', r, q⟩
end
/-! ### own operators as rules -/
/-- a comparison of such values -/
def Rl (X : Cx) (W : Wd) (ρ : List Sl) (r : R2) (d d' : OD) (R : Bool → Prop) : Prop := ∀ (σ : L2.St) (H B : Hp) (v u : V) (Q : VK), Lay X.K W B H σ ρ → DoK X.K W B ρ v d → DoK X.K W B ρ u d' →
  (∀ x H' B', Same B B' → Lay X.K W B' H' σ ρ → R x → Q (.bl x) H') → r v u H Q
/-- data that may stand on the right of an own == -/
def eqOk (K : PySem.W.Frag) (C : Addr) : OD → Prop
  | .o C' _ => PySem.W.notFirst K C (.ref C') = true
  | .d (.tuple _) => PySem.W.notFirst K C (.type "tuple") = true
  | _ => False
theorem eqOk_self {K : PySem.W.Frag} {C : Addr} {fs : List (Str × PyData)} : eqOk K C (.o C fs) := by
  show PySem.W.notFirst K C (.ref C) = true
  simp [PySem.W.notFirst]
section
variable {X : Cx} {W : Wd} {ρ : List Sl} {D : Dz} {pos : Pos} {a b e : Expr} {es : List Expr} {Ep : Addr → List Sl → Prop}
theorem ev_cmpO {op : CmpOp} {r : R2} {R : PyData → Prop} (ho : OpR X (compareOp op) r) (h : Ed X W a ρ fun d => Ed X W b ρ fun d' => Rl X W ρ r d d' fun k => R (.bool k)) (hm : behindInMarks op b = false := by first | exact nomark _ | rfl) : Ev X W (.Compare a [op] [b] pos) ρ R := by
  refine ⟨fun σ H B Q L k => (pe_cmpR ho pe_w pe_w hm).toZ ?_⟩
  refine h.run σ H B _ L fun v H1 B1 d s1 L1 D1 h2 => ?_
  refine h2.run σ H1 B1 _ L1 fun u H2 B2 d' s2 L2 D2 h3 => ?_
  exact h3 σ H2 B2 v u Q L2 (D1.mono s2) D2 fun x H' B' s L' r => k _ H' B' (.bool x) ((s1.trans s2).trans s) L' (.bl _) r
theorem et_cmpO {op : CmpOp} {r : R2} {R : Bool → Prop} (ho : OpR X (compareOp op) r) (h : Ed X W a ρ fun d => Ed X W b ρ fun d' => Rl X W ρ r d d' R) (hm : behindInMarks op b = false := by first | exact nomark _ | rfl) : Et X W (.Compare a [op] [b] pos) ρ R := by
  refine ⟨fun σ H B Q L k => (pt_cmpR ho pe_w pe_w hm).toZ ?_⟩
  refine h.run σ H B _ L fun v H1 B1 d s1 L1 D1 h2 => ?_
  refine h2.run σ H1 B1 _ L1 fun u H2 B2 d' s2 L2 D2 h3 => ?_
  exact h3 σ H2 B2 v u _ L2 (D1.mono s2) D2 fun x H' B' s L' r => ⟨x, rfl, k x H' B' ((s1.trans s2).trans s) L' r⟩
theorem tyIs_od {B H : Hp} {σ : L2.St} {C : Addr} {u : V} {d : OD} (L : Lay X.K W B H σ ρ) (D : DoK X.K W B ρ u d) (h : eqOk X.K C d) : ∃ tb, TyIs X u H tb ∧ PySem.W.notFirst X.K C tb = true := by
  cases d with
  | o C' fs =>
    obtain ⟨a, dx, fv, rfl, h2, h3⟩ := D.ins L
    exact ⟨_, tyIs_ins h2, h⟩
  | d x =>
    cases x <;> first | exact h.elim | skip
    obtain ⟨p, vs, rfl, h4, h5⟩ := dp_tup (show Dq X.K B u _ from D)
    exact ⟨_, tyIs_tup (seqT L.gr.sub h4), h⟩
variable {P : List OD → (OD → Prop) → (Addr → Prop) → Prop}
theorem rl_eq {C : Addr} {fs : List (Str × PyData)} {d' : OD} {R : Bool → Prop} (hq : eqOk X.K C d') (h : P [.o C fs, d'] (fun r => ∃ b, r = .d (.bool b) ∧ R b) (fun D => Ep D ρ)) : Rl X W ρ (rOwn2 X C (GCon X.K P) (EK X.K W Ep ρ)) (.o C fs) d' R := by
  intro σ H B v u Q L D1 D2 k
  obtain ⟨a, dx, fv, rfl, h2, h3⟩ := D1.ins L
  obtain ⟨tb, t1, t2⟩ := tyIs_od L D2 hq
  refine ⟨a, dx, fv, tb, rfl, h2, t1, t2, gcon_call L (.cons D1 (.cons D2 .nil)) h fun v H' B' d s L' Dv r => ?_⟩
  obtain ⟨b, rfl, r⟩ := r
  rw [dp_bool (show Dq X.K B' v _ from Dv)]
  exact k b H' B' s L' r
theorem rl_ne {C : Addr} {fs : List (Str × PyData)} {d' : OD} {R : Bool → Prop} (hq : eqOk X.K C d') (h : P [.o C fs, d'] (fun r => ∃ b, r = .d (.bool b) ∧ R (!b)) (fun D => Ep D ρ)) : Rl X W ρ (rOwnN X C (GCon X.K P) (EK X.K W Ep ρ)) (.o C fs) d' R := by
  intro σ H B v u Q L D1 D2 k
  obtain ⟨a, dx, fv, rfl, h2, h3⟩ := D1.ins L
  obtain ⟨tb, t1, t2⟩ := tyIs_od L D2 hq
  refine ⟨a, dx, fv, tb, rfl, h2, t1, t2, gcon_call L (.cons D1 (.cons D2 .nil)) h fun v H' B' d s L' Dv r => ?_⟩
  obtain ⟨b, rfl, r⟩ := r
  exact ⟨b, dp_bool (show Dq X.K B' v _ from Dv), k (!b) H' B' s L' r⟩
theorem rl_in {C : Addr} {fs : List (Str × PyData)} {d : OD} {R : Bool → Prop} (h : P [.o C fs, d] (fun r => ∃ b, r = .d (.bool b) ∧ R b) (fun D => Ep D ρ)) : Rl X W ρ (rOwnIn C (GCon X.K P) (EK X.K W Ep ρ)) d (.o C fs) R := by
  intro σ H B v u Q L D2 D1 k
  obtain ⟨a, dx, fv, rfl, h2, h3⟩ := D1.ins L
  refine ⟨a, dx, fv, rfl, h2, gcon_call L (.cons D1 (.cons D2 .nil)) h fun v H' B' d s L' Dv r => ?_⟩
  obtain ⟨b, rfl, r⟩ := r
  exact ⟨b, dp_bool (show Dq X.K B' v _ from Dv), k b H' B' s L' r⟩
theorem rl_notIn {C : Addr} {fs : List (Str × PyData)} {d : OD} {R : Bool → Prop} (h : P [.o C fs, d] (fun r => ∃ b, r = .d (.bool b) ∧ R (!b)) (fun D => Ep D ρ)) : Rl X W ρ (rOwnNotIn C (GCon X.K P) (EK X.K W Ep ρ)) d (.o C fs) R := by
  intro σ H B v u Q L D2 D1 k
  obtain ⟨a, dx, fv, rfl, h2, h3⟩ := D1.ins L
  refine ⟨a, dx, fv, rfl, h2, gcon_call L (.cons D1 (.cons D2 .nil)) h fun v H' B' d s L' Dv r => ?_⟩
  obtain ⟨b, rfl, r⟩ := r
  exact ⟨b, dp_bool (show Dq X.K B' v _ from Dv), k (!b) H' B' s L' r⟩
variable {f : Addr} {fd : FuncData} {ps : List Str} {k : Nat}
theorem ev_eqO (tk : Tkp X W Ep) {C : Addr} {R : PyData → Prop} (O : OwnOp X.K C "__eq__" f) (F : FnOk X.prog X.w X.K X.mg X.base (L2N.CX X.prog X.w) k f fd ps (GCon X.K P)) (hr : Room k X.A) (hb : Binds X.K fd ps [])
    (h : Ed X W a ρ fun d => ∃ fs, d = .o C fs ∧ Ed X W b ρ fun d' => eqOk X.K C d' ∧ P [.o C fs, d'] (fun r => ∃ b, r = .d (.bool b) ∧ R (.bool b)) (fun D => Ep D ρ)) (hm : behindInMarks .Eq b = false := by first | exact nomark _ | rfl) : Ev X W (.Compare a [.Eq] [b] pos) ρ R :=
  ev_cmpO (op_eqOwn O F hr hb (tk.pass (ρ := ρ))) ⟨fun σ H B Q L k => h.run σ H B Q L fun v H' B' d s L' Dv r => k v H' B' d s L' Dv (by
    obtain ⟨fs, rfl, r⟩ := r
    exact ⟨fun σ H B Q L k => r.run σ H B Q L fun v H' B' d s L' Dv r => k v H' B' d s L' Dv (rl_eq r.1 r.2)⟩)⟩ hm
theorem et_eqO (tk : Tkp X W Ep) {C : Addr} {R : Bool → Prop} (O : OwnOp X.K C "__eq__" f) (F : FnOk X.prog X.w X.K X.mg X.base (L2N.CX X.prog X.w) k f fd ps (GCon X.K P)) (hr : Room k X.A) (hb : Binds X.K fd ps [])
    (h : Ed X W a ρ fun d => ∃ fs, d = .o C fs ∧ Ed X W b ρ fun d' => eqOk X.K C d' ∧ P [.o C fs, d'] (fun r => ∃ b, r = .d (.bool b) ∧ R b) (fun D => Ep D ρ)) (hm : behindInMarks .Eq b = false := by first | exact nomark _ | rfl) : Et X W (.Compare a [.Eq] [b] pos) ρ R :=
  et_cmpO (op_eqOwn O F hr hb (tk.pass (ρ := ρ))) ⟨fun σ H B Q L k => h.run σ H B Q L fun v H' B' d s L' Dv r => k v H' B' d s L' Dv (by
    obtain ⟨fs, rfl, r⟩ := r
    exact ⟨fun σ H B Q L k => r.run σ H B Q L fun v H' B' d s L' Dv r => k v H' B' d s L' Dv (rl_eq r.1 r.2)⟩)⟩ hm
theorem et_neO (tk : Tkp X W Ep) {C : Addr} {R : Bool → Prop} (hne : PySem.W.findIn X.K (.ref C) "__ne__" = some (some (.builtin "object.__ne__"))) (ho : PySem.W.mroIn X.K C (.type "object") = some true) (O : OwnOp X.K C "__eq__" f) (F : FnOk X.prog X.w X.K X.mg X.base (L2N.CX X.prog X.w) k f fd ps (GCon X.K P)) (hr : Room (k + 1) X.A) (hb : Binds X.K fd ps [])
    (h : Ed X W a ρ fun d => ∃ fs, d = .o C fs ∧ Ed X W b ρ fun d' => eqOk X.K C d' ∧ P [.o C fs, d'] (fun r => ∃ b, r = .d (.bool b) ∧ R (!b)) (fun D => Ep D ρ)) (hm : behindInMarks .NotEq b = false := by first | exact nomark _ | rfl) : Et X W (.Compare a [.NotEq] [b] pos) ρ R :=
  et_cmpO (op_neOwn hne ho O F hr hb (tk.pass (ρ := ρ))) ⟨fun σ H B Q L k => h.run σ H B Q L fun v H' B' d s L' Dv r => k v H' B' d s L' Dv (by
    obtain ⟨fs, rfl, r⟩ := r
    exact ⟨fun σ H B Q L k => r.run σ H B Q L fun v H' B' d s L' Dv r => k v H' B' d s L' Dv (rl_ne r.1 r.2)⟩)⟩ hm
theorem ev_inO (tk : Tkp X W Ep) {C : Addr} {R : PyData → Prop} (O : OwnOp X.K C "__contains__" f) (F : FnOk X.prog X.w X.K X.mg X.base (L2N.CX X.prog X.w) k f fd ps (GCon X.K P)) (hr : Room k X.A) (hb : Binds X.K fd ps [])
    (h : Ed X W a ρ fun d => Ed X W b ρ fun d' => ∃ fs, d' = .o C fs ∧ P [.o C fs, d] (fun r => ∃ b, r = .d (.bool b) ∧ R (.bool b)) (fun D => Ep D ρ)) (hm : behindInMarks .In b = false := by first | exact nomark _ | rfl) : Ev X W (.Compare a [.In] [b] pos) ρ R :=
  ev_cmpO (op_inOwn O F hr hb (tk.pass (ρ := ρ))) ⟨fun σ H B Q L k => h.run σ H B Q L fun v H' B' d s L' Dv r => k v H' B' d s L' Dv
    ⟨fun σ H B Q L k => r.run σ H B Q L fun v H' B' d s L' Dv r => k v H' B' d s L' Dv (by
      obtain ⟨fs, rfl, r⟩ := r
      exact rl_in r)⟩⟩ hm
theorem et_inO (tk : Tkp X W Ep) {C : Addr} {R : Bool → Prop} (O : OwnOp X.K C "__contains__" f) (F : FnOk X.prog X.w X.K X.mg X.base (L2N.CX X.prog X.w) k f fd ps (GCon X.K P)) (hr : Room k X.A) (hb : Binds X.K fd ps [])
    (h : Ed X W a ρ fun d => Ed X W b ρ fun d' => ∃ fs, d' = .o C fs ∧ P [.o C fs, d] (fun r => ∃ b, r = .d (.bool b) ∧ R b) (fun D => Ep D ρ)) (hm : behindInMarks .In b = false := by first | exact nomark _ | rfl) : Et X W (.Compare a [.In] [b] pos) ρ R :=
  et_cmpO (op_inOwn O F hr hb (tk.pass (ρ := ρ))) ⟨fun σ H B Q L k => h.run σ H B Q L fun v H' B' d s L' Dv r => k v H' B' d s L' Dv
    ⟨fun σ H B Q L k => r.run σ H B Q L fun v H' B' d s L' Dv r => k v H' B' d s L' Dv (by
      obtain ⟨fs, rfl, r⟩ := r
      exact rl_in r)⟩⟩ hm
theorem edf_neg (tk : Tkp X W Ep) {C : Addr} {R : OD → Prop} (O : OwnOp X.K C "__neg__" f) (F : FnOk X.prog X.w X.K X.mg X.base (L2N.CX X.prog X.w) k f fd ps (GCon X.K P)) (hr : Room k X.A) (hb : Binds X.K fd ps [])
    (h : Ed X W a ρ fun d => ∃ fs, d = .o C fs ∧ P [d] R (fun D => Ep D ρ)) : Edf X W (.UnaryOp .USub a pos) ρ R := by
  refine ⟨fun σ H B Q L k' => (pe_un (un_own O F hr hb (tk.pass (ρ := ρ))) pe_w).toZ ?_⟩
  refine h.run σ H B _ L fun v H1 B1 d s1 L1 D1 h2 => ?_
  obtain ⟨fs, rfl, h3⟩ := h2
  obtain ⟨a, dx, fv, rfl, g2, g3⟩ := D1.ins L1
  exact ⟨a, dx, fv, rfl, g2, gcon_call L1 (.cons D1 .nil) h3 fun v H' B' d s L' Dv r => k' v H' B' d (s1.trans s) L' Dv r⟩
def tyOk (d : PyData) : Prop := match d with | .none => True | .bool _ => True | .int _ => True | .str _ => True | _ => False
theorem edf_mul (tk : Tkp X W Ep) {C : Addr} {R : OD → Prop} (O : OwnOp X.K C "__mul__" f) (sf : PySem.W.selfFirst X.K C = true) (rm : PySem.W.findIn X.K (.ref C) "__rmul__" = some none) (mt : ∀ T ∈ ["NoneType", "bool", "int", "str"], MulT X.K C T) (F : FnOk X.prog X.w X.K X.mg X.base (L2N.CX X.prog X.w) k f fd ps (GCon X.K P)) (hr : Room k X.A) (hb : Binds X.K fd ps [])
    (h : Ed X W a ρ fun d => ∃ fs, d = .o C fs ∧ Ev X W b ρ fun x => tyOk x ∧ P [d, .d x] R (fun D => Ep D ρ)) : Edf X W (.BinOp a .Mult b pos) ρ R := by
  refine ⟨fun σ H B Q L k' => (pe_op (op_mulOwn O sf rm F hr hb (tk.pass (ρ := ρ))) pe_w pe_w).toZ ?_⟩
  refine h.run σ H B _ L fun v H1 B1 d s1 L1 D1 h2 => ?_
  obtain ⟨fs, rfl, h3⟩ := h2
  refine h3.run σ H1 B1 _ L1 fun u H2 B2 x s2 L2 D2 h4 => ?_
  obtain ⟨a, dx, fv, rfl, g2, g3⟩ := (D1.mono s2).ins L2
  refine ⟨a, dx, fv, rfl, g2, ?_, gcon_call L2 (.cons (D1.mono s2) (.cons (show DoK X.K W B2 ρ u (.d x) from D2) .nil)) h4.2 fun v H' B' d s L' Dv r => k' v H' B' d ((s1.trans s2).trans s) L' Dv r⟩
  cases x with
  | none => rw [dp_none D2]; exact ⟨(by decide : ("NoneType" : String) ≠ ""), mt _ (by simp [tyV])⟩
  | bool b => rw [dp_bool D2]; exact ⟨(by decide : ("bool" : String) ≠ ""), mt _ (by simp [tyV])⟩
  | int i => rw [dp_int D2]; exact ⟨(by decide : ("int" : String) ≠ ""), mt _ (by simp [tyV])⟩
  | str z => rw [dp_str D2]; exact ⟨(by decide : ("str" : String) ≠ ""), mt _ (by simp [tyV])⟩
  | list _ => exact h4.1.elim
  | tuple _ => exact h4.1.elim
  | dict _ => exact h4.1.elim
theorem edf_ix (tk : Tkp X W Ep) {C : Addr} {R : OD → Prop} (O : OwnOp X.K C "__getitem__" f) (hfi : PySem.W.fnIn X.K f = true) (F : FnOk X.prog X.w X.K X.mg X.base (L2N.CX X.prog X.w) k f fd ps (GCon X.K P)) (hr : Room (k + 1) X.A) (hb : Binds X.K fd ps [])
    (h : Ed X W a ρ fun d => ∃ fs, d = .o C fs ∧ Ed X W b ρ fun d' => P [d, d'] R (fun D => Ep D ρ)) (hsl : ∀ (x : Addr) (i : Value), subscripted b true (.ref x) i = runValue (.builtin "lifetime.subscript" ⟨[.ref x, i], []⟩) := by intro _ _; with_unfolding_all rfl) : Edf X W (.Subscript a b pos) ρ R := by
  refine ⟨fun σ H B Q L k' => (pe_ixOwn O hfi F hr hb (tk.pass (ρ := ρ)) pe_w pe_w hsl).toZ ?_⟩
  refine h.run σ H B _ L fun v H1 B1 d s1 L1 D1 h2 => ?_
  obtain ⟨fs, rfl, h3⟩ := h2
  refine h3.run σ H1 B1 _ L1 fun u H2 B2 x s2 L2 D2 h4 => ?_
  obtain ⟨a, dx, fv, rfl, g2, g3⟩ := (D1.mono s2).ins L2
  exact ⟨a, dx, fv, rfl, g2, gcon_call L2 (.cons (D1.mono s2) (.cons D2 .nil)) h4 fun v H' B' d s L' Dv r => k' v H' B' d ((s1.trans s2).trans s) L' Dv r⟩
/-- isinstance(e, C) -/
def tyOD : OD → Value
  | .d x => .type (tyD x)
  | .o C _ => .ref C
theorem ev_isOwn {C : Addr} {y : Str} {p p2 : Pos} {R : PyData → Prop} (hm : X.mg "isinstance" = none) (hc : X.mg y = some (.ref C)) (ic : C8.InsC X.K C) (h : Ed X W e ρ fun d => (∀ C' fs, d = .o C' fs → C' = C) ∧ ∃ b, PySem.W.kitOne X.K (tyOD d) (.ref C) = some b ∧ R (.bool b)) (hg : Gl X "isinstance" := by rfl) (hg2 : Gl X y := by rfl)
    (he : starEach [e, .Name y p2] X.env = (false, eval e X.env) :: starEach [.Name y p2] X.env := by rfl) (he2 : starEach [.Name y p2] X.env = (false, eval (.Name y p2) X.env) :: starEach [] X.env := by rfl) (hpl : (backTo pos (starEach [.Name y p2] X.env)).any (·.1) = false := by rfl)
    (hd : (y == ("__debug__" : Str)) = false := by decide) : Ev X W (.Call (.Name "isinstance" p) [e, .Name y p2] [] pos) ρ R := by
  refine ⟨fun σ H B Q L k => (pe_callB call_isi hg hm boot_isinstance (pa_cons pe_w (pa_cons (pe_glob hg2 hc (v := V.ref C) rfl hd) pa_nil he2) he) (by decide) (by decide) he hpl).toZ ?_⟩
  refine h.run σ H B _ L fun v H1 B1 d s1 L1 D1 h2 => ?_
  obtain ⟨hC, b, hk, hR⟩ := h2
  refine ⟨v, .ref C, tyOD d, .ref C, b, rfl, .own C, ?_, hk, k _ H1 B1 (.bool b) s1 L1 (.bl _) hR⟩
  cases d with
  | d x => exact tyX_of L1.gr.sub D1
  | o C' fs =>
    obtain ⟨a, dx, fv, rfl, g2, g3⟩ := D1.ins L1
    cases hC C' fs rfl
    exact .base (TyOf.ins (g2) ic.cl ic.ha ic.hn ic.htk ic.hm)
/-- C.NAME, a constant of the class -/
theorem ev_cvalI {C : Addr} {y nm : Str} {py : Pos} {mc : Value} {i : Int} {t : Tok} {R : PyData → Prop} (hm : X.mg y = some (.ref C)) (rd : ClX.CRead X.K C mc) (cv : ClX.CVal X.K C mc nm (.int i) (.int i t)) (h : R (.int i)) (hg : Gl X y := by rfl) (hdb : (y == ("__debug__" : Str)) = false := by decide)
    (hb : attributeBase (.Name y py) nm X.env (eval (.Name y py) X.env) = eval (.Name y py) X.env := by rfl) : Ev X W (.Attribute (.Name y py) nm pos) ρ R := by
  refine ⟨fun σ H B Q L k => (ClX.pe_cval (pe_glob hg hm (v := V.ref C) rfl hdb) hb).toZ ?_⟩
  exact ⟨C, mc, .int i, _, rfl, rd, cv, k _ H B _ (Same.refl _) L (.int _) h⟩
end
/-! ### truth, length -/
section
variable {prog : Program} {w : World} {A : Around} {E : Value → Shared → Prop} {s : Shared}
theorem bool_newIn (x : Addr) : MeetsIn prog w (Builtin.«bool.__new__» ⟨[.type "bool", .ref x], []⟩) (fun A R s => wpAny (model prog w) A.in1 (truthy (.ref x)) (fun b s' => R (.ok (.ret (.bool b))) s') (fun e s' => R (.error e) s') s) :=
  .of_wp fun A R s h => by
    obtain ⟨hp, g, d, tk, os⟩ := s
    have f1 := F.conv_sub_bool
    have h' := wpAny_mono h (fun b s' q => (q : R (.ok (.ret (.bool b))) s')) fun _ _ z => z
    repeat (any_goals (first | assumption | (with_reducible refine wpAny_mono h' (fun b s' q => ?_) fun _ _ z => z) | wp_step))
    all_goals first | exact ⟨_, rfl, q⟩ | exact q | skip
theorem call_bool_ref {x : Addr} {Q : Value → Shared → Prop} (h : wpAny (model prog w) A.in1.in1 (truthy (.ref x)) (fun b s' => Q (.bool b) s') E s) : wpAny (model prog w) A (call (.type "bool") [.ref x]) Q E s :=
  callType_newIn F.called_bool F.newNe_bool (F.typeCall_bool_1 _) (F.newCall_bool_1 _) (fun obj => F.args_object_init_2 obj _) F.entry_bool_new (bool_newIn x) (wpAny_mono h (fun b s' q => ⟨rfl, q⟩) fun _ _ z => z)
end
section
variable {X : Cx} {CX : CXT} {k : Nat} {C f : Addr} {fd : FuncData} {ps : List Str} {sp : Sp} {E : XK}
def rOwnTru (C : Addr) (sp : Sp) (E : XK) : V → Hp → (Bool → Hp → Prop) → Prop := fun x H Q => ∃ a dx fs, x = .ref a ∧ H a = some (.ins C dx fs) ∧ sp [x] H (fun v H' => ∃ b, v = .bl b ∧ Q b H') E
theorem tru_at {A : Around} (hA : A.frames = X.A.frames) (O : OwnOp X.K C "__bool__" f) (F : FnOk X.prog X.w X.K X.mg X.base CX k f fd ps sp) (hr : Room k A) (hb : Binds X.K fd ps []) (hx : Passes CX X E) {pins : List (Addr × Obj)} {s : Shared} {σ : L2.St} {H : Hp} {x : V} {v : Value} {Q : Bool → Hp → Prop} (I : Inv X pins σ H s) (rx : RelV x v) (h : rOwnTru C sp E x H Q) :
    wpAny (model X.prog X.w) A (truthy v) (TP X pins σ Q) X.xe s := by
  obtain ⟨a, dx, fs, rfl, ha, q⟩ := h
  cases rx
  obtain ⟨ox, od, J⟩ := ins_at I ha
  obtain ⟨m, hF⟩ := I.fr
  refine PySem.W.truthy_K hF I.ok.mod.kin J O.at_ O.fn (wpAny_mono (run_fnA F hA hr hb hx I (.cons rref .nil) q) (fun v s' z => ?_) fun _ _ z => z)
  obtain ⟨v', H', I', r, b, rfl, q⟩ := z
  cases r
  exact ⟨H', I', q⟩
theorem tru_own (O : OwnOp X.K C "__bool__" f) (F : FnOk X.prog X.w X.K X.mg X.base CX k f fd ps sp) (hr : Room k X.A) (hb : Binds X.K fd ps []) (hx : Passes CX X E) : TruR X (rOwnTru C sp E) :=
  fun pins s σ H x v Q I rx h => tru_at rfl O F hr hb hx I rx h
theorem call_boolOwn (O : OwnOp X.K C "__bool__" f) (F : FnOk X.prog X.w X.K X.mg X.base CX k f fd ps sp) (hr : Room (k + 2) X.A) (hb : Binds X.K fd ps []) (hx : Passes CX X E) : CallR X (.type "bool") (fun xs H Q => ∃ a, xs = [.ref a] ∧ rOwnTru C sp E (.ref a) H fun b H' => Q (.bl b) H') := by
  intro pins s σ H xs us Q I r h
  obtain ⟨a, rfl, q⟩ := h
  obtain rfl := Vals.ref1 r
  refine call_bool_ref (wpAny_mono (tru_at (A := X.A.in1.in1) rfl O F hr.in1.in1 hb hx I (rref (a := a)) q) (fun b s' z => ?_) fun _ _ z => z)
  obtain ⟨H', I', q⟩ := z
  exact ⟨.bl b, H', I', rfl, q⟩
theorem call_lenOwn (O : OwnOp X.K C "__len__" f) (F : FnOk X.prog X.w X.K X.mg X.base CX k f fd ps sp) (hr : Room (k + 1) X.A) (hb : Binds X.K fd ps []) (hx : Passes CX X E) : CallR X (.builtin "len") (fun xs H Q => ∃ a dx fs, xs = [.ref a] ∧ H a = some (.ins C dx fs) ∧ sp [.ref a] H (fun v H' => ∃ n : Int, v = .int n ∧ 0 ≤ n ∧ n < 2 ^ 63 ∧ Q (.int n) H') E) := by
  intro pins s σ H xs us Q I r h
  obtain ⟨a, dx, fs, rfl, ha, q⟩ := h
  obtain rfl := Vals.ref1 r
  obtain ⟨ox, od, J⟩ := ins_at I ha
  obtain ⟨m, hF⟩ := I.fr
  refine PySem.W.len_K hF I.ok.mod.kin J O.at_ O.fn (wpAny_mono (run_fnA (A := X.A.in1) F rfl hr.in1 hb hx I (.cons rref .nil) q) (fun v s' z => ?_) fun _ _ z => z)
  obtain ⟨v', H', I', r, n, rfl, n0, n1, q⟩ := z
  obtain ⟨t, rfl⟩ := r
  exact ⟨⟨n0, n1⟩, .int n, H', I'.tok _, ⟨_, rfl⟩, q⟩
end
section
variable {X : Cx} {W : Wd} {ρ : List Sl} {D : Dz} {pos : Pos} {a b e : Expr} {es : List Expr} {Ep : Addr → List Sl → Prop} {P : List OD → (OD → Prop) → (Addr → Prop) → Prop} {f : Addr} {fd : FuncData} {ps : List Str} {k : Nat} {C : Addr}
theorem rl_tru {H B : Hp} {σ : L2.St} {v : V} {fs : List (Str × PyData)} {R : Bool → Prop} {Q : Bool → Hp → Prop} (L : Lay X.K W B H σ ρ) (D1 : DoK X.K W B ρ v (.o C fs)) (h : P [.o C fs] (fun r => ∃ b, r = .d (.bool b) ∧ R b) (fun D => Ep D ρ)) (kk : ∀ x H' B', Same B B' → Lay X.K W B' H' σ ρ → R x → Q x H') : rOwnTru C (GCon X.K P) (EK X.K W Ep ρ) v H Q := by
  obtain ⟨a, dx, fv, rfl, g2, g3⟩ := D1.ins L
  refine ⟨a, dx, fv, rfl, g2, gcon_call L (.cons D1 .nil) h fun v H' B' d s L' Dv r => ?_⟩
  obtain ⟨b, rfl, r⟩ := r
  exact ⟨b, dp_bool (show Dq X.K B' v _ from Dv), kk b H' B' s L' r⟩
/-- the truth of an instance as a test -/
theorem et_truO (tk : Tkp X W Ep) {R : Bool → Prop} (O : OwnOp X.K C "__bool__" f) (F : FnOk X.prog X.w X.K X.mg X.base (L2N.CX X.prog X.w) k f fd ps (GCon X.K P)) (hr : Room k X.A) (hb : Binds X.K fd ps [])
    (h : Ed X W e ρ fun d => ∃ fs, d = .o C fs ∧ P [d] (fun r => ∃ b, r = .d (.bool b) ∧ R b) (fun D => Ep D ρ)) (he : ∀ whole, PySem.isTrue e X.env whole = (do let v ← whole; standAt e.pos; holding [v] (truthy v)) := by intro _; rfl) : Et X W e ρ R := by
  refine ⟨fun σ H B Q L kk pins s I => ?_⟩
  refine PyProof.Rows.isTrue_plain (thn (h.run σ H B (fun v H1 => rOwnTru C (GCon X.K P) (EK X.K W Ep ρ) v H1 Q) L (fun v H1 B1 d s1 L1 D1 h2 => ?_) pins s I) fun v s1 ⟨x, H1, I1, rx, q⟩ => tru_own O F hr hb (tk.pass (ρ := ρ)) pins s1 σ H1 x v Q I1 rx q) (he _)
  obtain ⟨fs, rfl, h3⟩ := h2
  exact rl_tru L1 D1 h3 fun x H' B' s L' r => kk x H' B' (s1.trans s) L' r
/-- bool(o) -/
theorem ev_boolO (tk : Tkp X W Ep) {p : Pos} {R : PyData → Prop} (hm : X.mg "bool" = none) (O : OwnOp X.K C "__bool__" f) (F : FnOk X.prog X.w X.K X.mg X.base (L2N.CX X.prog X.w) k f fd ps (GCon X.K P)) (hr : Room (k + 2) X.A) (hb : Binds X.K fd ps [])
    (h : Ed X W e ρ fun d => ∃ fs, d = .o C fs ∧ P [d] (fun r => ∃ b, r = .d (.bool b) ∧ R (.bool b)) (fun D => Ep D ρ)) (hg : Gl X "bool" := by rfl)
    (he : starEach [e] X.env = (false, eval e X.env) :: starEach [] X.env := by rfl) (hpl : (backTo pos (starEach [] X.env)).any (·.1) = false := by rfl) : Ev X W (.Call (.Name "bool" p) [e] [] pos) ρ R := by
  refine ⟨fun σ H B Q L kk => (pe_callTy (call_boolOwn O F hr hb (tk.pass (ρ := ρ))) hg hm boot_bool' (pa_cons pe_w pa_nil he) (by decide) (by decide) he hpl).toZ ?_⟩
  refine h.run σ H B _ L fun v H1 B1 d s1 L1 D1 h2 => ?_
  obtain ⟨fs, rfl, h3⟩ := h2
  obtain ⟨a, dx, fv, rfl, g2, g3⟩ := D1.ins L1
  exact ⟨a, rfl, rl_tru L1 D1 h3 fun x H' B' s L' r => kk _ H' B' (.bool x) (s1.trans s) L' (.bl _) r⟩
/-- len(o) -/
theorem ev_lenO (tk : Tkp X W Ep) {p : Pos} {R : PyData → Prop} (hm : X.mg "len" = none) (O : OwnOp X.K C "__len__" f) (F : FnOk X.prog X.w X.K X.mg X.base (L2N.CX X.prog X.w) k f fd ps (GCon X.K P)) (hr : Room (k + 1) X.A) (hb : Binds X.K fd ps [])
    (h : Ed X W e ρ fun d => ∃ fs, d = .o C fs ∧ P [d] (fun r => ∃ n : Int, r = .d (.int n) ∧ 0 ≤ n ∧ n < 2 ^ 63 ∧ R (.int n)) (fun D => Ep D ρ)) (hg : Gl X "len" := by rfl)
    (he : starEach [e] X.env = (false, eval e X.env) :: starEach [] X.env := by rfl) (hpl : (backTo pos (starEach [] X.env)).any (·.1) = false := by rfl) : Ev X W (.Call (.Name "len" p) [e] [] pos) ρ R := by
  refine ⟨fun σ H B Q L kk => (pe_callB (call_lenOwn O F hr hb (tk.pass (ρ := ρ))) hg hm PySem.boot_len (pa_cons pe_w pa_nil he) (by decide) (by decide) he hpl).toZ ?_⟩
  refine h.run σ H B _ L fun v H1 B1 d s1 L1 D1 h2 => ?_
  obtain ⟨fs, rfl, h3⟩ := h2
  obtain ⟨a, dx, fv, rfl, g2, g3⟩ := D1.ins L1
  refine ⟨a, dx, fv, rfl, g2, gcon_call L1 (.cons D1 .nil) h3 fun v H' B' d s L' Dv r => ?_⟩
  obtain ⟨n, rfl, n0, n1, r⟩ := r
  exact ⟨n, dp_int (show Dq X.K B' v _ from Dv), n0, n1, kk _ H' B' (.int n) (s1.trans s) L' (.int _) r⟩
/-! ### stores -/
theorem slO_of {B H : Hp} {v : V} {d : OD} (h : DoF X.K B v d) : ∃ p, SlOk X.K W B H (some (some v)) (slO p d) ∧ (slO p d).ow = false := by
  cases d with
  | d x => exact ⟨(0, 0), ⟨v, rfl, h⟩, rfl⟩
  | o C fs =>
    obtain ⟨a, dx, fv, rfl, h2, h3⟩ := h
    exact ⟨(a, dx), ⟨fv, rfl, .inl h2, h3⟩, rfl⟩
theorem Lay.putS {K : PySem.W.Frag} {B H : Hp} {σ : L2.St} (L : Lay K W B H σ ρ) {i : Nat} {v : V} {sl : Sl} (hd : SlOk K W B H (some (some v)) sl) (ho : sl.ow = false) : Lay K W B H (σ.set i (some v)) (ρ.set i sl) := by
  refine ⟨L.gr, by simp [L.len], fun j sl' e => ?_, fun j k s t hne e1 e2 o1 o2 => ?_⟩
  · by_cases hj : i = j
    · subst hj
      have hl : i < ρ.length := by
        have := (List.getElem?_eq_some_iff.mp e).1
        simpa using this
      rw [List.getElem?_set_self hl] at e
      cases e
      rw [List.getElem?_set_self (by rw [L.len]; exact hl)]
      exact hd
    · rw [List.getElem?_set_ne hj] at e ⊢
      exact L.at' j sl' e
  · have nn : ∀ (j : Nat) (s : Sl), (ρ.set i sl)[j]? = some s → s.ow = true → i ≠ j := fun j s e o z => by
      subst z
      have hl : i < ρ.length := by
        have := (List.getElem?_eq_some_iff.mp e).1
        simpa using this
      rw [List.getElem?_set_self hl] at e
      cases e
      rw [ho] at o
      cases o
    have n1 := nn j s e1 o1
    have n2 := nn k t e2 o2
    rw [List.getElem?_set_ne n1] at e1 ⊢
    rw [List.getElem?_set_ne n2] at e2 ⊢
    exact L.dis j k s t hne e1 e2 o1 o2
/-- x = e, an instance -/
theorem es_setO (i : Nat) {x : Str} {pos' : Pos} (h : Edf X W e ρ fun d => ∀ p, D.nx (ρ.set i (slO p d))) (hN : X.N.Nodup) (hi : X.N[i]? = some x := by rfl) (hx : Loc X.env.scope x := by first | exact .inl rfl | exact .inr rfl) (hs : swapsWith e (some (.Name x pos')) pos.line X.env = pure false := by rfl)
    (hf : X.fn x = true ∨ X.env.scope.names.lookup x = some .local := by first | exact .inl rfl | exact .inr rfl | assumption) : Es X W (.Assign [.Name x pos'] e pos) ρ D :=
  ⟨fun σ H B L => (ps_set hN hi hx pe_w hs hf).toZ (h.run σ H B _ L fun v H' B' d s L' D' r => by
    obtain ⟨p, h1, h2⟩ := slO_of (H := H') D'
    exact ⟨B', _, s, L'.putS h1 h2, r p⟩)⟩
/-- x, y = e, e' of instances -/
theorem es_parO (i j : Nat) {x y : Str} {px py pt : Pos} {kt k2 pt2} (h : Edfa X W [a, b] ρ fun ds => match ds with | [d, e] => ∀ p q, D.nx ((ρ.set i (slO p d)).set j (slO q e)) | _ => False) (hc : X.calm = true) (hN : X.N.Nodup) (hi : X.N[i]? = some x := by rfl) (hj : X.N[j]? = some y := by rfl) (hij : i ≠ j := by decide)
    (hx : X.env.scope.names.lookup x = some .local := by rfl) (hy : X.env.scope.names.lookup y = some .local := by rfl)
    (hw : swappedStores [.Tuple [.Name x px, .Name y py] kt pt] (.Tuple [a, b] k2 pt2) X.env = pure (some [x, y]) := by rfl)
    (hs : swapsWithSole [.Tuple [.Name x px, .Name y py] kt pt] (.Tuple [a, b] k2 pt2) pos.line X.env = pure false := by rfl) :
    Es X W (.Assign [.Tuple [.Name x px, .Name y py] kt pt] (.Tuple [a, b] k2 pt2) pos) ρ D := by
  refine ⟨fun σ H B L => (ps_par hc hN hi hj hij hx hy pa_w hw hs).toZ ?_⟩
  refine h.run σ H B _ L fun vs H' B' ds s L' D' r => ?_
  cases D' with
  | nil => exact r.elim
  | cons h1 h2 =>
    cases h2 with
    | nil => exact r.elim
    | cons h3 h4 =>
      cases h4 with
      | nil =>
        obtain ⟨p, g1, g2⟩ := slO_of (H := H') h1
        obtain ⟨q, g3, g4⟩ := slO_of (H := H') h3
        exact ⟨_, _, rfl, B', _, s, (L'.putS g1 g2).putS g3 g4, r p q⟩
      | cons _ _ => exact r.elim
end
theorem kit_own' {K : PySem.W.Frag} {t : Value} {C : Addr} {b : Bool} (hi : PySem.W.isClsIn K C = true) (ht : PySem.W.typeIn K (.ref C) = some (.type "type")) (hs : PySem.W.subIn K t (.ref C) = some b) (hn : (t == Value.ref C) = false) : PySem.W.kitOne K t (.ref C) = some b := by
  unfold PySem.W.kitOne
  split
  · rename_i h
    rw [hn] at h
    cases h
  · have h' : (PySem.W.clsIn K C).isSome = true := hi
    show (if ((PySem.W.clsIn K C).isSome && PySem.W.typeIn K (.ref C) == some (.type "type")) = true then PySem.W.subIn K t (.ref C) else none) = some b
    rw [h', ht, if_pos (by rfl)]
    exact hs
theorem kit_self {K : PySem.W.Frag} {C : Addr} : PySem.W.kitOne K (.ref C) (.ref C) = some true := by
  unfold PySem.W.kitOne
  rw [if_pos (by simp)]
theorem ty_ne {n : String} {C : Addr} : (Value.type n == Value.ref C) = false := Bool.eq_false_iff.mpr fun q => by cases beq_iff_eq.mp q
theorem notFirst_of {K : PySem.W.Frag} {C : Addr} {t : Value} (h : PySem.W.subIn K t (.ref C) = some false) : PySem.W.notFirst K C t = true := by
  unfold PySem.W.notFirst
  rw [h]
  simp
/-- bool(a truth value) -/
theorem ev_boolB {X : Cx} {W : Wd} {ρ : List Sl} {pos p : Pos} {e : Expr} {R : PyData → Prop} (hm : X.mg "bool" = none) (h : Ev X W e ρ fun d => match d with | .bool b => R (.bool b) | _ => False) (hg : Gl X "bool" := by rfl)
    (he : starEach [e] X.env = (false, eval e X.env) :: starEach [] X.env := by rfl) (hpl : (backTo pos (starEach [] X.env)).any (·.1) = false := by rfl) : Ev X W (.Call (.Name "bool" p) [e] [] pos) ρ R := by
  refine ⟨fun σ H B Q L k => (pe_callTy call_bool1 hg hm boot_bool' (pa_cons pe_w pa_nil he) (by decide) (by decide) he hpl).toZ ?_⟩
  refine h.run σ H B _ L fun v H1 B1 d s1 L1 D1 h2 => ?_
  cases d <;> first | exact h2.elim | skip
  exact .inr ⟨_, by rw [dp_bool D1], k _ H1 B1 _ s1 L1 (.bl _) h2⟩
/-- x, y = e, e' of instances, by a tuple (a name that a comprehension reads) -/
theorem es_asg2O {X : Cx} {W : Wd} {ρ : List Sl} {D : Dz} {pos : Pos} {a b : Expr} (i j : Nat) {x y : Str} {px py pt : Pos} {kt k2 pt2} (h : Edfa X W [a, b] ρ fun ds => match ds with | [d, e] => ∀ p q, D.nx ((ρ.set i (slO p d)).set j (slO q e)) | _ => False) (hc : X.calm = true) (hN : X.N.Nodup) (hi : X.N[i]? = some x := by rfl) (hj : X.N[j]? = some y := by rfl)
    (hx : Loc X.env.scope x := by first | exact .inl rfl | exact .inr rfl) (hy : Loc X.env.scope y := by first | exact .inl rfl | exact .inr rfl) (hfx : X.fn x = true ∨ X.env.scope.names.lookup x = some .local := by first | exact .inl rfl | exact .inr rfl | assumption) (hfy : X.fn y = true ∨ X.env.scope.names.lookup y = some .local := by first | exact .inl rfl | exact .inr rfl | assumption)
    (hs : swapsWithSole [.Tuple [.Name x px, .Name y py] kt pt] (.Tuple [a, b] k2 pt2) pos.line X.env = pure false := by rfl) (hw : swappedStores [.Tuple [.Name x px, .Name y py] kt pt] (.Tuple [a, b] k2 pt2) X.env = pure none := by rfl)
    (h1 : (assignEach [.Tuple [.Name x px, .Name y py] kt pt] X.env).map (·.2) = [assign (.Tuple [.Name x px, .Name y py] kt pt) X.env] := by rfl) (hn : (assignEach [.Name x px, .Name y py] X.env).length = 2 := by rfl) (hst : (assignEach [.Name x px, .Name y py] X.env).findIdx? (·.1) = none := by rfl)
    (hs1 : (assignEach (.Name x px :: [.Name y py]) X.env).map (·.2) = assign (.Name x px) X.env :: (assignEach [.Name y py] X.env).map (·.2) := by rfl) (hs2 : (assignEach (.Name y py :: []) X.env).map (·.2) = assign (.Name y py) X.env :: (assignEach [] X.env).map (·.2) := by rfl) :
    Es X W (.Assign [.Tuple [.Name x px, .Name y py] kt pt] (.Tuple [a, b] k2 pt2) pos) ρ D := by
  refine ⟨fun σ H B L => (ps_asg (pe_tup pa_w) (pg_tup hc (pgs_cons (pg_name hN hi hx hfx) (pgs_cons (pg_name hN hj hy hfy) pgs_nil hs2) hs1) hn hst) hs hw h1).toZ ?_⟩
  refine h.run σ H B _ L fun vs H1 B1 ds s1 L1 D1 h2 => ?_
  cases D1 with
  | nil => exact h2.elim
  | cons g1 g2 =>
    cases g2 with
    | nil => exact h2.elim
    | cons g3 g4 =>
      cases g4 with
      | cons _ _ => exact h2.elim
      | nil =>
        refine ⟨(by decide : 2 ≤ sizeLine), fun p hp => ?_⟩
        obtain ⟨s, L'⟩ := L1.fresh hp (.tup _)
        obtain ⟨u1, q1, q2⟩ := slO_of (W := W) (X := X) (H := upd H1 p (.tup _)) (g1.mono s)
        obtain ⟨u2, q3, q4⟩ := slO_of (W := W) (X := X) (H := upd H1 p (.tup _)) (g3.mono s)
        exact ⟨p, _, rfl, SqT.of upd_same, rfl, _, _, rfl, _, _, rfl, rfl, _, _, s1.trans s, (L'.putS q1 q2).putS q3 q4, h2 u1 u2⟩
/-- what a body hands on, its calls may raise -/
theorem tk_ofL {X : Cx} {W : Wd} {E : XK} {Ep : Addr → List Sl → Prop} (tk : L2N.Takes X (fun cls d _ H => E cls d H)) (hE : ∀ D B' H' σ ρ, Lay X.K W B' H' σ ρ → Ep D ρ → E (.ref D) none H') : Tkp X W Ep := fun E' hE' pins σ H s e s' I cx =>
  tk e s' (L2N.XE.of_call I (fun cls d H2 z => by
    obtain ⟨D, B', σ, ρ, rfl, rfl, er, L⟩ := hE' cls d H2 z
    exact hE D B' H2 σ ρ L er) cx)
theorem tk_of {X : Cx} {W : Wd} {E : XK} {Er : Addr → Prop} (tk : L2N.Takes X (fun cls d _ H => E cls d H)) (hE : ∀ D B' H', Gr X.K W B' H' → Er D → E (.ref D) none H') : Tkp X W (fun D _ => Er D) := tk_ofL tk fun D B' H' σ ρ L er => hE D B' H' L.gr er
end Z

/-! methods and defs that change an instance or raise, the instance then being as it was -/
namespace Z
open PySem PySem.Spec PyProof.Rows L2 L2H
def XConS (K : PySem.W.Frag) (C : Addr) (P : List (Str × PyData) → List PyData → (PyData → List (Str × PyData) → Prop) → (Addr → Prop) → Prop) : Sp := fun vs H Q E => ∃ B a dx fv fs us ds R Er, vs = .ref a :: us ∧ Same B H ∧ H a = some (.ins C dx fv) ∧ B a = none ∧ FsD K B fv fs ∧ DqAll K B us ds ∧ P fs ds R Er ∧
  (∀ v H' B' d fs' fv', Gr K ⟨none, (0, []), B, minus H a⟩ B' H' → H' a = some (.ins C dx fv') → B' a = none → FsD K B' fv' fs' → Dq K B' v d → R d fs' → Q v H') ∧
  ∀ D H' B' fv', Gr K ⟨none, (0, []), B, minus H a⟩ B' H' → H' a = some (.ins C dx fv') → B' a = none → FsD K B' fv' fs → Er D → E (.ref D) none H'
section
variable {P : Program} {w : World} {K : PySem.W.Frag} {mg : Str → Option Value} {base : Heap}
theorem fn_xconS {x qual : Str} {st : Stmt} {f C : Addr} {fd : FuncData} {N ps : List Str} {k : Nat} {P' : List (Str × PyData) → List PyData → (PyData → List (Str × PyData) → Prop) → (Addr → Prop) → Prop} (F : Fun K x qual st f fd) (S : FnScope N ps (defScope st)) (len : ∀ fs ds R Er, P' fs ds R Er → ds.length + 1 = ps.length)
    (body : ∀ (cdv : Value) (A : Around) (outer : List Env) (s : Shared) (H : Hp) (E : XK) (W : Wd) (a dx : Addr) (fs : List (Str × PyData)) (ds : List PyData) (R : PyData → List (Str × PyData) → Prop) (Er : Addr → Prop), Room k (Bn P w K mg base N qual (defScope st) f cdv A outer s H E).A → L2N.Takes (Bn P w K mg base N qual (defScope st) f cdv A outer s H E) (fun cls d _ H => E cls d H) →
      (∀ (D : Addr) (B' H' : Hp) (σ : L2.St) (ρ : List Sl) (i : Nat), Lay K W B' H' σ ρ → ρ[i]? = some (.obj a dx C fs) → Er D → E (.ref D) none H') → P' fs ds R Er →
      Em (Bn P w K mg base N qual (defScope st) f cdv A outer s H E) W a dx C (defBody st) (.obj a dx C fs :: startZ N.tail ds) R) (hN : N ≠ [] := by simp) : FnOk P w K mg base (L2N.CX P w) (k + 1) f fd ps (XConS K C P') := by
  obtain ⟨oc, od, kV, doc, pm, an, cdv, ct, osl, rfl, lk, hcd⟩ := F.ex
  refine fn_of lk hcd S (fun vs H Q E h => ?_) (fun A outer s H vs Q E hr h => ?_)
  · obtain ⟨B, a, dx, fv, fs, us, ds, R, Er, rfl, _, _, _, _, h1, h2, _⟩ := h
    rw [List.length_cons, dpAll_len h1]
    exact len fs ds R Er h2
  · obtain ⟨B, a, dx, fv, fs, us, ds, R, Er, rfl, sB, ha, hb, hf, h1, h2, q, qe⟩ := h
    refine ⟨_, pss_w, ?_⟩
    intro pins s0 I
    have L := start_obj (H0 := minus H a) (sl := .obj a dx C fs) hN sB (fun _ _ z => (minus_some z).2) h1 ⟨fv, rfl, hb, minus_at, ha, hf⟩
    have tk : L2N.Takes (Bn P w K mg base N qual (defScope st) f cdv A outer s H E) (fun cls d _ H => E cls d H) := L2N.takes_of (X := Bn P w K mg base N qual (defScope st) f cdv A outer s H E) rfl rfl rfl rfl
    refine thn ((body cdv A outer s H E ⟨none, (0, []), B, minus H a⟩ a dx fs ds R Er hr tk (fun D B' H' σ ρ i L' e er => by
      obtain ⟨fv', g1, g2, g3, g4, g5⟩ := L'.at' i _ e
      exact qe D H' B' fv' L'.gr g4 g2 g5 er) h2).run _ _ _ L pins s0 I) fun fl s' hs => ?_
    cases fl with
    | next => obtain ⟨σ', H', I', B', fs', fv', g, g1, g2, g3, r⟩ := hs; exact ⟨σ', H', I', q .non H' B' .none fs' fv' g g1 g2 g3 .non r⟩
    | brk => obtain ⟨σ', H', I', z⟩ := hs; exact z.elim
    | cont => obtain ⟨σ', H', I', z⟩ := hs; exact z.elim
    | ret u => obtain ⟨v, σ', H', I', r, B', d, fs', fv', g, g1, g2, g3, Dv, rr⟩ := hs; exact ⟨v, σ', H', I', r, q v H' B' d fs' fv' g g1 g2 g3 Dv rr⟩
end
section
variable {X : Cx} {W : Wd} {ρ : List Sl} {Dd : Dz} {pos : Pos} {a b c e : Expr} {es : List Expr} {Ep : Addr → List Sl → Prop}
theorem es_raiseL {E : XK} {x m : Str} {j : Nat} {D : Addr} {p p2 pc : Pos} (hc : X.calm = true) (tk : L2N.Takes X (fun cls d _ H => E cls d H)) (r : RzOk X.K X.mg x D) (h : ∀ B' H' σ, Lay X.K W B' H' σ ρ → E (.ref D) none H') (hg : Gl X x := by rfl) (hdb : (x == ("__debug__" : Str)) = false := by decide) :
    Es X W (.Raise (some (.Call (.Name x p) [.Constant (.str m) j p2] [] pc)) none pos) ρ Dd :=
  ⟨fun σ H B L => (L2N.ps_raise hc tk (L2N.pmk_own PySem.F.excBase_ValueError r.q r.gC r.kC (raises_own r.b r.t) hg hdb)).toZ (show E (.ref D) none H from h B H σ L)⟩
theorem set_same {i : Nat} {sl : Sl} (h : ρ[i]? = some sl) : ρ.set i sl = ρ := by
  apply List.ext_getElem?
  intro j
  by_cases hj : i = j
  · subst hj
    rw [List.getElem?_set_self (List.getElem?_eq_some_iff.mp h).1, h]
  · rw [List.getElem?_set_ne hj]
/-- what such a call leaves -/
theorem xconS_call {P : List (Str × PyData) → List PyData → (PyData → List (Str × PyData) → Prop) → (Addr → Prop) → Prop} {B H : Hp} {σ : L2.St} {i : Nat} {ad dx C : Addr} {fs : List (Str × PyData)} {us : List V} {ds : List PyData} {R : PyData → List Sl → Prop} {Q : VK} (L : Lay X.K W B H σ ρ) (hρ : ρ[i]? = some (.obj ad dx C fs)) (D : DqAll X.K B us ds)
    (h : P fs ds (fun d fs' => R d (ρ.set i (.obj ad dx C fs'))) fun D => Ep D ρ) (k : ∀ v H' B' d ρ', Same B B' → Lay X.K W B' H' σ ρ' → Dq X.K B' v d → R d ρ' → Q v H') : XConS X.K C P (.ref ad :: us) H Q (EK X.K W Ep ρ) := by
  obtain ⟨fv1, w1, w2, _, w3, w4⟩ := L.at' i _ hρ
  refine ⟨B, ad, dx, fv1, fs, us, ds, _, _, rfl, L.gr.sub, w3, w2, w4, D, h, fun v H' B' d fs' fv' g e1 e2 e3 D r => ?_, fun D H' B' fv' g e1 e2 e3 er => ?_⟩
  · obtain ⟨s, L'⟩ := L.objd hρ g e1 e2 e3
    exact k v H' B' d _ s L' D r
  · obtain ⟨s, L'⟩ := L.objd hρ g e1 e2 e3
    rw [set_same hρ] at L'
    exact ⟨D, B', σ, rfl, rfl, er, L'⟩
/-- o.m(e, ..) that changes o or raises -/
theorem evx_methS (tk : Tkp X W Ep) (i : Nat) {ad dx C : Addr} {fs : List (Str × PyData)} {x m : Str} {px apos : Pos} {f : Addr} {fd : FuncData} {ps : List Str} {k : Nat} {R : PyData → List Sl → Prop} {P : List (Str × PyData) → List PyData → (PyData → List (Str × PyData) → Prop) → (Addr → Prop) → Prop} {pl : Sem Bool} (hρ : ρ[i]? = some (.obj ad dx C fs)) (cl : Cls X.K C) (hm : Meth X.K C m f)
    (F : FnOk X.prog X.w X.K X.mg X.base (L2N.CX X.prog X.w) k f fd ps (XConS X.K C P)) (hr : Room k X.A) (hbd : Binds X.K fd ps [])
    (hno : fs.lookup m = none) (h : Ea X W (e :: es) ρ fun ds => P fs ds (fun d fs' => R d (ρ.set i (.obj ad dx C fs'))) fun D => Ep D ρ) (hN : X.N[i]? = some x := by rfl) (hv : Vis X.env.scope x := by first | exact Or.inl rfl | exact Or.inr (Or.inl rfl) | exact Or.inr (Or.inr rfl))
    (hd : (x == ("__debug__" : Str)) = false := by decide) (hcd : (x == ("__classdict__" : Str)) = false := by decide)
    (hst : starEach (e :: es) X.env = (false, eval e X.env) :: starEach es X.env := by rfl) (hpl : (backTo pos (starEach es X.env)).any (·.1) = false := by rfl)
    (ht : eval (.Call (.Attribute (.Name x px) m apos) (e :: es) [] pos) X.env = (do
      let ov ← eval (.Name x px) X.env
      standAt apos.atName
      let (f, first) ← holding [ov] (getMethod ov m pl)
      callWith pos f first (backTo pos (starEach (e :: es) X.env)) (backToKw pos (keywordEach [] X.env))) := by rfl) : Evx X W (.Call (.Attribute (.Name x px) m apos) (e :: es) [] pos) ρ R := by
  refine ⟨fun σ H B Q L k' => PE.toZ (t := tMeth C m (XConS X.K C P) [] (EK X.K W Ep ρ) (tVar i) (tWa X (e :: es))) (pe_meth (pl := pl) (pe_var hN hv hd hcd) cl hm F hr hbd .nil tk.pass pa_w hst hpl ht) ?_⟩
  obtain ⟨fv, g1, g2, g3, g4⟩ := ObAt.of L (.inl hρ)
  refine ⟨.ref ad, g1, ad, dx, fv, rfl, g3, ?_, ?_⟩
  · rcases fsd_look (f := m) g4 with ⟨q, _⟩ | ⟨v, d', q1, q2, q3⟩
    · exact q
    · rw [hno] at q2
      cases q2
  · refine h.run σ H B _ L fun vs H1 B1 ds s1 L1 D1 h2 => ?_
    show XConS X.K C P (V.ref ad :: (vs ++ [])) H1 Q _
    rw [List.append_nil]
    exact xconS_call L1 hρ D1 h2 fun v H' B' d ρ' s L' Dv r => k' v H' B' d ρ' (s1.trans s) L' Dv r
/-- o.m() that changes o or raises -/
theorem evx_methS0 (tk : Tkp X W Ep) (i : Nat) {ad dx C : Addr} {fs : List (Str × PyData)} {x m : Str} {px apos : Pos} {f : Addr} {fd : FuncData} {ps : List Str} {k : Nat} {R : PyData → List Sl → Prop} {P : List (Str × PyData) → List PyData → (PyData → List (Str × PyData) → Prop) → (Addr → Prop) → Prop} {pl : Sem Bool} (hρ : ρ[i]? = some (.obj ad dx C fs)) (cl : Cls X.K C) (hm : Meth X.K C m f)
    (F : FnOk X.prog X.w X.K X.mg X.base (L2N.CX X.prog X.w) k f fd ps (XConS X.K C P)) (hr : Room k X.A) (hbd : Binds X.K fd ps [])
    (hno : fs.lookup m = none) (h : P fs [] (fun d fs' => R d (ρ.set i (.obj ad dx C fs'))) fun D => Ep D ρ) (hN : X.N[i]? = some x := by rfl) (hv : Vis X.env.scope x := by first | exact Or.inl rfl | exact Or.inr (Or.inl rfl) | exact Or.inr (Or.inr rfl))
    (hd : (x == ("__debug__" : Str)) = false := by decide) (hcd : (x == ("__classdict__" : Str)) = false := by decide)
    (ht : eval (.Call (.Attribute (.Name x px) m apos) [] [] pos) X.env = (do
      let ov ← eval (.Name x px) X.env
      standAt apos.atName
      let (f, first) ← holding [ov] (getMethod ov m pl)
      callWith pos f first (backTo pos (starEach [] X.env)) (backToKw pos (keywordEach [] X.env))) := by rfl) : Evx X W (.Call (.Attribute (.Name x px) m apos) [] [] pos) ρ R := by
  refine ⟨fun σ H B Q L k' => PE.toZ (t := tMeth C m (XConS X.K C P) [] (EK X.K W Ep ρ) (tVar i) tNil) (pe_meth0 (pl := pl) (pe_var hN hv hd hcd) cl hm F hr hbd .nil tk.pass ht) ?_⟩
  obtain ⟨fv, g1, g2, g3, g4⟩ := ObAt.of L (.inl hρ)
  refine ⟨.ref ad, g1, ad, dx, fv, rfl, g3, ?_, ?_⟩
  · rcases fsd_look (f := m) g4 with ⟨q, _⟩ | ⟨v, d', q1, q2, q3⟩
    · exact q
    · rw [hno] at q2
      cases q2
  · exact xconS_call L hρ .nil h fun v H' B' d ρ' s L' Dv r => k' v H' B' d ρ' s L' Dv r
/-- f(o, e, ..) that changes o -/
theorem evx_callS (tk : Tkp X W Ep) (i : Nat) {ad dx C : Addr} {fs : List (Str × PyData)} {x y : Str} {px py : Pos} {f : Addr} {fd : FuncData} {ps : List Str} {k : Nat} {R : PyData → List Sl → Prop} {P : List (Str × PyData) → List PyData → (PyData → List (Str × PyData) → Prop) → (Addr → Prop) → Prop} (hρ : ρ[i]? = some (.obj ad dx C fs))
    (F : FnOk X.prog X.w X.K X.mg X.base (L2N.CX X.prog X.w) k f fd ps (XConS X.K C P)) (hr : Room k X.A) (hm : X.mg y = some (.ref f)) (hk : PySem.W.keepIn X.K (.ref f) = true) (hbd : Binds X.K fd ps [])
    (h : Ea X W es ρ fun ds => P fs ds (fun d fs' => R d (ρ.set i (.obj ad dx C fs'))) fun D => Ep D ρ) (hN : X.N[i]? = some x := by rfl) (hv : Vis X.env.scope x := by first | exact Or.inl rfl | exact Or.inr (Or.inl rfl) | exact Or.inr (Or.inr rfl))
    (hd : (x == ("__debug__" : Str)) = false := by decide) (hcd : (x == ("__classdict__" : Str)) = false := by decide) (hg : Gl X y := by rfl) (hdb : (y == ("__debug__" : Str)) = false := by decide)
    (hs : starEach (.Name x px :: es) X.env = (false, eval (.Name x px) X.env) :: starEach es X.env := by rfl) (hpl : (backTo pos (starEach es X.env)).any (·.1) = false := by rfl) : Evx X W (.Call (.Name y py) (.Name x px :: es) [] pos) ρ R := by
  refine ⟨fun σ H B Q L k' => PE.toZ (t := tCall (XConS X.K C P) [] (EK X.K W Ep ρ) (tCons (tVar i) (tWa X es))) (pe_call F hr hg hm hk hbd .nil tk.pass (pa_cons (pe_var hN hv hd hcd) pa_w hs) hdb hs hpl) ?_⟩
  obtain ⟨fv, g1, g2, g3, g4⟩ := ObAt.of L (.inl hρ)
  refine ⟨.ref ad, g1, ?_⟩
  refine h.run σ H B _ L fun vs H1 B1 ds s1 L1 D1 h2 => ?_
  show XConS X.K C P ((V.ref ad :: vs) ++ []) H1 Q _
  rw [List.append_nil]
  exact xconS_call L1 hρ D1 h2 fun v H' B' d ρ' s L' Dv r => k' v H' B' d ρ' (s1.trans s) L' Dv r
theorem evx_if {R : PyData → List Sl → Prop} (h : Et X W c ρ fun k => (k = true → Evx X W a ρ R) ∧ (k = false → Evx X W b ρ R)) : Evx X W (.IfExp c a b pos) ρ R := by
  refine ⟨fun σ H B Q L k => (pe_ifExp pt_w pe_w pe_w).toZ ?_⟩
  refine h.run σ H B _ L fun kk H1 B1 s1 L1 h2 => ?_
  cases kk with
  | true =>
    rw [if_pos rfl]
    exact (h2.1 rfl).run σ H1 B1 _ L1 fun v H' B' d ρ' s L' D r => k v H' B' d ρ' (s1.trans s) L' D r
  | false =>
    rw [if_neg Bool.false_ne_true]
    exact (h2.2 rfl).run σ H1 B1 _ L1 fun v H' B' d ρ' s L' D r => k v H' B' d ρ' (s1.trans s) L' D r
/-- return e, e changes the object in slot i -/
theorem em_retx (i : Nat) {ad dx C : Addr} {R : PyData → List (Str × PyData) → Prop} (h : Evx X W e ρ fun d (ρ' : List Sl) => ∃ fs, ρ'[i]? = some (Sl.obj ad dx C fs) ∧ R d fs) : Em X W ad dx C [.Return (some e) pos] ρ R := by
  refine ⟨fun σ H B L => (pss_one (ps_ret pe_w)).toZ (D := DeM X.K W ad dx C R) ?_⟩
  refine h.run σ H B _ L fun v H' B' d ρ' s L' Dv r => ?_
  obtain ⟨fs, hρ, r⟩ := r
  obtain ⟨fv, g1, g2, g3, g4, g5⟩ := L'.at' i _ hρ
  exact ⟨B', d, fs, fv, L'.gr, g4, g2, g5, Dv, r⟩
/-- try: .. except C as e: return f(e), the last of a body that changes its object -/
theorem em_tryE {ad dx C : Addr} {R : PyData → List (Str × PyData) → Prop} {body : List Stmt} {S : Addr → Str} (i : Nat) {x n y : Str} {c f : Addr} {np pos' rp cp yp ep : Pos} {k : Nat} (hs : X.stack = X.env :: X.outer) (hf : X.env.frame = some X.env.locals) (hN : X.N.Nodup) (tk : L2N.Takes X (fun _ _ _ _ => False)) (hr : Room k X.A)
    (gc : X.mg x = some (.ref c)) (hm : X.mg y = some (.ref f)) (hkp : PySem.W.keepIn X.K (.ref f) = true) (hex : ∀ D ρ', Ep D ρ' → PySem.W.exmOne X.K (.ref D) (.ref c) = some true) (F : ∀ D ρ', Ep D ρ' → FnE X.prog X.w X.K X.mg X.base k f D (S D))
    (h : ∀ (pn : List (Addr × Obj)) (xe : Value → Shared → Prop), Tkp (X.tr pn xe) W Ep → Em (X.tr pn xe) W ad dx C body ρ R) (hret : ∀ D' (ρ' : List Sl), Ep D' ρ' → ∃ (fs : List (Str × PyData)) (j : Nat), ρ'[j]? = some (Sl.obj ad dx C fs) ∧ R (.str (S D')) fs)
    (hi : X.N[i]? = some n := by rfl) (hln : X.env.kindOf n = some .local := by rfl) (hgx : Gl X x := by rfl) (hgy : Gl X y := by rfl) (hdx : (x == ("__debug__" : Str)) = false := by decide) (hdy : (y == ("__debug__" : Str)) = false := by decide)
    (hv : Vis X.env.scope n := by first | exact Or.inl rfl | exact Or.inr (Or.inl rfl) | exact Or.inr (Or.inr rfl)) (hdn : (n == ("__debug__" : Str)) = false := by decide) (hcn : (n == ("__classdict__" : Str)) = false := by decide)
    (he : starEach [.Name n ep] X.env = (false, eval (.Name n ep) X.env) :: starEach [] X.env := by rfl) (hpl : (backTo cp (starEach [] X.env)).any (·.1) = false := by rfl) :
    Em X W ad dx C [.Try body [.ExceptHandler (some (.Name x np)) (some n) [.Return (some (.Call (.Name y yp) [.Name n ep] [] cp)) rp] pos'] [] [] pos] ρ R := by
  refine ⟨fun σ H B L => (pss_one (L2N.ps_try_as (tb := fun W0 D σ H => ∀ pn xe, L2N.Takes (X.tr pn xe) W0 → tWss (X.tr pn xe) body D σ H) (ts := fun a cls d D σ H => ∀ oe pn, L2N.Zn cls d oe → (∃ vs, oe.data = .fields vs) → tWss (X.suite a ((a, oe) :: pn)) [.Return (some (.Call (.Name y yp) [.Name n ep] [] cp)) rp] D σ H)
    hs hf hN hi hln ⟨hgx, hdx, .inl gc⟩ tk (fun W0 pn xe t0 _ => ⟨fun pins s σ H D I q => q pn xe t0 pins s I⟩) (fun a oe cls d pn hz hd => ⟨fun pins s σ H D I q => q oe pn hz hd pins s I⟩))).toZ (D := DeM X.K W ad dx C R) ?_⟩
  intro pn xe t0
  refine (h pn xe fun E hE pins σ' H' s e s' I cx => t0 e s' (L2N.XE.of_call I (fun cls d H2 z => ?_) cx)).run σ H B L
  obtain ⟨D', B2, σ2, ρ2, rfl, rfl, er, L2'⟩ := hE cls d H2 z
  refine ⟨true, hex D' ρ2 er, fun _ a na => ?_, fun z => Bool.noConfusion z⟩
  have hlen : σ'.length = X.N.length := I.len
  intro oe pn2 hz hfd pins2 s2 I2
  refine (pss_one (ps_ret (te := fun σ H Q => σ = σ'.set i (some (.ref a)) ∧ H = H2 ∧ ∀ H3 B3, Gr X.K ⟨none, (0, []), B2, H2⟩ B3 H3 → Q (.str (S D')) H3) ⟨fun pins s σ3 H3 Q I3 ⟨e1, e2, hq⟩ => ?_⟩)).run pins2 s2 _ _ _ I2 ⟨rfl, rfl, fun H3 B3 g3 => ?_⟩
  · subst e1 e2
    refine wpAny_Call_Name_kw (ld_glob (X := X.suite a ((a, oe) :: pn2)) I3 hgy hm ?_ hdy)
    have hil : i < σ'.length := by rw [hlen]; exact (List.getElem?_eq_some_iff.mp hi).1
    have ha : PA (X.suite a ((a, oe) :: pn2)) [.Name n ep] (tCons (tVar i) tNil) := pa_cons (pe_var hi hv hdn hcn) pa_nil he
    refine PySem.W.callWith_K (h₀ := X.base) I3.ok.mod.kin hkp (thn (ha.run cp pins s _ _ (fun vs H1 => vs = [V.ref a] ∧ H1 = H3) I3 ⟨.ref a, by rw [List.getElem?_set_self hil], rfl, rfl⟩) fun us s3 hh => ?_) he hpl
    obtain ⟨vs, H1, I4, r1, ev, eH⟩ := hh
    subst ev eH
    refine ⟨I4.kIn, ?_⟩
    cases r1 with
    | cons ru rn =>
      cases rn
      cases ru
      obtain ⟨vs, hd⟩ := hfd
      exact run_E (X := X.suite a ((a, oe) :: pn2)) (p := (a, oe)) (F D' ρ2 er) ⟨hr.dp, hr.un⟩ ⟨rfl, vs, hd, hz.2.2 vs hd⟩ List.mem_cons_self ⟨hz.1, hz.2.1⟩ L2'.gr.sub I4 hq
  · obtain ⟨s3, L3⟩ := L2'.called (.inl rfl) g3
    obtain ⟨fs, j, hj, hR⟩ := hret D' ρ2 er
    obtain ⟨fv, g1, g2, _, g4, g5⟩ := L3.at' j _ hj
    exact ⟨B3, .str (S D'), fs, fv, L3.gr, g4, g2, g5, .str _, hR⟩
end
end Z

/-! texts: str(int), +, * , len, f-strings with a width; generator methods -/
namespace Z
open PySem PySem.Spec PyProof.Rows L2 L2H
section
variable {X : Cx} {W : Wd} {ρ : List Sl} {R : PyData → Prop} {pos : Pos} {a b e o : Expr} {es : List Expr}
theorem boot_str2 : bootBuiltins "str" = some (.type "str") := by decide +kernel
/-- str(an int) -/
theorem ev_strI {p : Pos} (hm : X.mg "str" = none) (h : Ev X W e ρ fun d => match d with | .int i => i.natAbs.log2 < 1920 ∧ R (.str (toString i)) | _ => False) (hg : Gl X "str" := by rfl)
    (he : starEach [e] X.env = (false, eval e X.env) :: starEach [] X.env := by rfl) (hpl : (backTo pos (starEach [] X.env)).any (·.1) = false := by rfl) : Ev X W (.Call (.Name "str" p) [e] [] pos) ρ R := by
  refine ⟨fun σ H B Q L k => (pe_callTy call_str_int hg hm boot_str2 (pa_cons pe_w pa_nil he) (by decide) (by decide) he hpl).toZ ?_⟩
  refine h.run σ H B _ L fun v H1 B1 d s1 L1 D1 h2 => ?_
  cases d <;> first | exact h2.elim | skip
  exact ⟨_, by rw [dp_int D1], h2.1, k _ H1 B1 _ s1 L1 (.str _) h2.2⟩
theorem oz_addS : OpZ X (binaryOp .Add) (fun x y R => match x, y with | .str i, .str j => i.length + j.length ≤ sizeLine ∧ R (.str (i ++ j)) | _, _ => False) := by
  refine ⟨_, op_add_str, fun W σ ρ H B v u d e R Q L D1 D2 r k => ?_⟩
  cases d <;> cases e <;> first | exact r.elim | skip
  exact ⟨_, _, dp_str D1, dp_str D2, r.1, k _ H B _ (Same.refl _) L (.str _) r.2⟩
theorem too_short {n : Nat} (h : n ≤ sizeLine) : Builtin.Str.tooLong n = false := by
  unfold Builtin.Str.tooLong
  simp only [decide_eq_false_iff_not]
  omega
/-- one sign, or no sign, times -/
def repT (x : Str) (n : Int) : Str := if n < 1 then Str.empty else if (n == 1 || x.length == 0) = true then x else ⟨(List.replicate n.toNat x.cps).foldl (· ++ ·) #[]⟩
theorem op_mulT : OpR X (binaryOp .Mult) (fun x y H Q => ∃ (z : Str) (n : Int), x = .str z ∧ y = .int n ∧ z.length = 1 ∧ -1000 ≤ n ∧ n ≤ 1000 ∧ (repT z n).length ≤ sizeLine ∧ Q (.str (repT z n)) H) := by
  intro pins s σ H x y v u Q I rx ry h
  obtain ⟨z, n, rfl, rfl, hz, n0, n1, hs, q⟩ := h
  obtain ⟨t, rfl⟩ := rx
  obtain ⟨t', rfl⟩ := ry
  refine PySem.P.mul_str (by
    rw [decide_eq_false (show ¬ n < -(2 ^ 63 : Int) by omega), decide_eq_false (show ¬ n ≥ 2 ^ 63 by omega)]
    rfl) (fun h1 h2 => ?_) (fun h1 h2 => ?_) ?_
  · rw [hz]
    have : (1 : Int) ≤ (2 ^ 63 - 1) / n := by
      rw [Int.le_ediv_iff_mul_le (by omega)]
      omega
    show ¬ (((1 : Nat) : Int) > (2 ^ 63 - 1) / n)
    omega
  · rw [hz]
    refine too_short ?_
    have := (by decide : (1000 : Nat) ≤ sizeLine)
    omega
  · unfold repT at hs q
    split
    · rename_i h
      rw [if_pos h] at q
      exact ⟨by decide, .str Str.empty, H, I.tok _, ⟨_, rfl⟩, q⟩
    · rename_i h
      rw [if_neg h] at q hs
      split
      · rename_i h2
        rw [if_pos h2] at q
        exact ⟨.str z, H, I, ⟨_, rfl⟩, q⟩
      · rename_i h2
        rw [if_neg h2] at q hs
        exact ⟨hs, .str _, H, I.tok _, ⟨_, rfl⟩, q⟩
end
/-! ### f"{n:>3}" -/
def padT (w : Nat) (a : Int) : Str := ⟨(List.replicate (w - (Nat.toDigits 10 a.natAbs).length) 32 ++ (Nat.toDigits 10 a.natAbs).map Char.toNat).toArray⟩
theorem digits_cons (a : Int) : ∃ c cs, Nat.toDigits 10 a.natAbs = c :: cs := by
  have := Nat.length_toDigits_pos (b := 10) (n := a.natAbs)
  cases e : Nat.toDigits 10 a.natAbs with
  | nil => rw [e] at this; simp at this
  | cons c cs => exact ⟨c, cs, rfl⟩
theorem pad_of {w : Nat} {a : Int} {c : Char} {cs : List Char} (e : Nat.toDigits 10 a.natAbs = c :: cs) {X : Str} (h : X = ⟨(List.replicate ((w : Int) - 0 - ((List.replicate ((0 : Int).toNat - ((c :: cs).map Char.toNat).length) 48 ++ (c :: cs).map Char.toNat).length : Nat)).toNat 32 ++ [] ++ [] ++ List.replicate 0 32 ++ (List.replicate ((0 : Int).toNat - ((c :: cs).map Char.toNat).length) 48 ++ (c :: cs).map Char.toNat) ++ [] ++ List.replicate 0 32).toArray⟩) : X = padT w a := by
  subst h
  unfold padT
  rw [e]
  simp
  try omega
theorem len_of {X T : Str} (e : X = T) (h : T.length ≤ sizeLine) : X.length ≤ sizeLine := by rw [e]; exact h
open Builtin in
theorem ret_T {M : Model} {A : Around} {E : Value → Shared → Prop} {s : Shared} {X T : Str} {Q : PySem.Fin → Shared → Prop} (e : X = T) (hL : T.length ≤ sizeLine) (h : ∀ t k, Q (.done (.ret (.str T t))) { s with toks := k }) : wpAny M A (retStr X) Q E s := PySem.W.KXf.ret_text e (len_of e hL) h
theorem digits_15 {a : Int} (h0 : 0 ≤ a) (h1 : a < 10 ^ 15) : (Nat.toDigits 10 a.natAbs).length ≤ 15 := by
  have e := (Nat.length_repr_le_iff (n := a.natAbs) (by decide : 0 < 15)).mpr (by omega)
  rwa [← String.length_toList, Nat.toList_repr] at e
theorem padT_len {w : Nat} {a : Int} (h0 : 0 ≤ a) (h1 : a < 10 ^ 15) (hw : w ≤ 1000) : (padT w a).length ≤ sizeLine := by
  have := digits_15 h0 h1
  have h2 := (by decide : (2000 : Nat) ≤ sizeLine)
  show (List.toArray _).size ≤ sizeLine
  simp only [List.size_toArray, List.length_append, List.length_replicate, List.length_map]
  omega
open PySem.W Builtin in
theorem fmt3 {a : Int} {t : Tok} (h0 : 0 ≤ a) (h1 : a < 10 ^ 15) (h : a.natAbs.log2 < 1920) : ∀ u, Meets (Builtin.«int.__format__» ⟨[.int a t, .str ">3" u], []⟩) (fun _ R s => ∀ t' k, R (.ok (.ret (.str (padT 3 a) t'))) { s with toks := k }) := by
  intro _
  apply KPc.meets_of
  intro _ _ _ _ _ _ _
  unfold Builtin.«int.__format__»
  refine wpAny_bind (wpAny_of_eq (a := (_, _)) rfl ?_)
  refine wpAny_bind (wpAny_of_eq (a := _) rfl ?_)
  kxf_if
  refine wpAny_bind (wpAny_typeNameOf (T := "str") (typeIs_str _ _ _) (by decide) fun _ => ?_)
  refine wpAny_bind (wpAny_of_eq (a := some _) rfl ?_)
  kxf_if
  kxf_if
  refine wpAny_bind (wpAny_typeNameOfCut_int ?_)
  (repeat kxf_if)
  refine wpAny_bind (wpAny_of_eq (PySem.overDigitLimit_small h) ?_)
  (repeat kxf_if)
  have hd : decide (a < 0) = false := decide_eq_false (by omega)
  obtain ⟨c, cs, e⟩ := digits_cons a
  refine ret_T (T := padT 3 a) (pad_of e ?_) (padT_len h0 h1 (by decide)) ?_
  · rw [hd, e]
    rfl
  · assumption
open PySem.W Builtin in
theorem fmt6 {a : Int} {t : Tok} (h0 : 0 ≤ a) (h1 : a < 10 ^ 15) (h : a.natAbs.log2 < 1920) : ∀ u, Meets (Builtin.«int.__format__» ⟨[.int a t, .str ">6" u], []⟩) (fun _ R s => ∀ t' k, R (.ok (.ret (.str (padT 6 a) t'))) { s with toks := k }) := by
  intro _
  apply KPc.meets_of
  intro _ _ _ _ _ _ _
  unfold Builtin.«int.__format__»
  refine wpAny_bind (wpAny_of_eq (a := (_, _)) rfl ?_)
  refine wpAny_bind (wpAny_of_eq (a := _) rfl ?_)
  kxf_if
  refine wpAny_bind (wpAny_typeNameOf (T := "str") (typeIs_str _ _ _) (by decide) fun _ => ?_)
  refine wpAny_bind (wpAny_of_eq (a := some _) rfl ?_)
  kxf_if
  kxf_if
  refine wpAny_bind (wpAny_typeNameOfCut_int ?_)
  (repeat kxf_if)
  refine wpAny_bind (wpAny_of_eq (PySem.overDigitLimit_small h) ?_)
  (repeat kxf_if)
  have hd : decide (a < 0) = false := decide_eq_false (by omega)
  obtain ⟨c, cs, e⟩ := digits_cons a
  refine ret_T (T := padT 6 a) (pad_of e ?_) (padT_len h0 h1 (by decide)) ?_
  · rw [hd, e]
    rfl
  · assumption
end Z

/-! f-strings with a width; list(o.m()) of a generator method -/
namespace Z
open PySem PySem.Spec PyProof.Rows L2 L2H GenW
section
variable {X : Cx} {W : Wd} {ρ : List Sl} {R : PyData → Prop} {pos : Pos} {a b c e o : Expr} {es : List Expr}
theorem log_15 {i : Int} (h0 : 0 ≤ i) (h1 : i < 10 ^ 15) : i.natAbs.log2 < 1920 := by
  by_cases hz : i.natAbs = 0
  · rw [hz]
    decide
  · rw [Nat.log2_lt hz]
    exact Nat.lt_of_lt_of_le (show i.natAbs < 10 ^ 15 by omega) (by decide)
theorem fmt_ev {sp : Str} {w : Nat} {spec : Expr} (g : ∀ {i : Int} {t : Tok}, 0 ≤ i → i < 10 ^ 15 → i.natAbs.log2 < 1920 → ∀ u, Meets (Builtin.«int.__format__» ⟨[.int i t, .str sp u], []⟩) (fun _ R s => ∀ t' k, R (.ok (.ret (.str (padT w i) t'))) { s with toks := k }))
    (hne : (sp.length == 0) = false) (hsz : sp.length ≤ sizeLine) (hs : PE X spec (tC (.str sp))) (h : Ev X W e ρ fun d => match d with | .int i => (0 ≤ i ∧ i < 10 ^ 15) ∧ R (.str (padT w i)) | _ => False) : Ev X W (.FormattedValue e (-1) (some spec) pos) ρ R := by
  refine ⟨fun σ H B Q L k pins s I => ?_⟩
  refine wpAny_FormattedValue_spec (thn (h.run σ H B (fun v H1 => ∃ i : Int, v = .int i ∧ (0 ≤ i ∧ i < 10 ^ 15) ∧ Q (.str (padT w i)) H1) L (fun v H1 B1 d s1 L1 D1 h2 => ?_) pins s I) fun v s1 ⟨x, H1, I1, r1, i, ex, hi, q⟩ => ?_)
  · cases d <;> first | exact h2.elim | skip
    exact ⟨_, dp_int D1, h2.1, k _ H1 B1 _ s1 L1 (.str _) h2.2⟩
  · subst ex
    obtain ⟨t, rfl⟩ := r1
    refine thn (hs.run pins s1 σ H1 (fun y H2 => y = .str sp ∧ H2 = H1) I1 ⟨rfl, rfl⟩) fun r s2 ⟨y, H2, I2, r2, ey, eH⟩ => ?_
    subst ey eH
    obtain ⟨t2, rfl⟩ := r2
    exact ⟨sp, t2, rfl, PySem.W.KXf.field_int rfl hne hsz (g hi.1 hi.2 (log_15 hi.1 hi.2)) fun t' k' => ⟨.str _, _, I2.tok _, ⟨_, rfl⟩, q⟩⟩
theorem ev_fmt3 {p1 p2 : Pos} {j : Nat} (h : Ev X W e ρ fun d => match d with | .int i => (0 ≤ i ∧ i < 10 ^ 15) ∧ R (.str (padT 3 i)) | _ => False) : Ev X W (.FormattedValue e (-1) (some (.JoinedStr [.Constant (.str ">3") j p1] p2)) pos) ρ R := fmt_ev (fun h0 h1 h2 => fmt3 h0 h1 h2) (by decide) (by decide) (pe_joined1 pe_str) h
theorem ev_fmt6 {p1 p2 : Pos} {j : Nat} (h : Ev X W e ρ fun d => match d with | .int i => (0 ≤ i ∧ i < 10 ^ 15) ∧ R (.str (padT 6 i)) | _ => False) : Ev X W (.FormattedValue e (-1) (some (.JoinedStr [.Constant (.str ">6") j p1] p2)) pos) ρ R := fmt_ev (fun h0 h1 h2 => fmt6 h0 h1 h2) (by decide) (by decide) (pe_joined1 pe_str) h
/-- f"{..}{..}{..}" -/
theorem ev_joined3 (h : Ev X W a ρ fun d => ∃ x, d = .str x ∧ x.length ≤ 1000 ∧ Ev X W b ρ fun d' => ∃ y, d' = .str y ∧ y.length ≤ 1000 ∧ Ev X W c ρ fun d'' => ∃ z, d'' = .str z ∧ z.length ≤ 1000 ∧ R (.str (((Str.empty ++ x) ++ y) ++ z))) : Ev X W (.JoinedStr [a, b, c] pos) ρ R := by
  have la : ∀ x y : Str, (x ++ y).length = x.length + y.length := fun x y => by
    show (x.cps ++ y.cps).size = x.cps.size + y.cps.size
    simp
  have l0 : Str.empty.length = 0 := rfl
  have hb := (by decide : (10000 : Nat) ≤ sizeLine)
  refine ⟨fun σ H B Q L k => (pe_joined (.cons pe_w (.cons pe_w (.cons pe_w .nil)))).toZ ?_⟩
  refine h.run σ H B _ L fun v H1 B1 d s1 L1 D1 h2 => ?_
  obtain ⟨x, rfl, hx, h2⟩ := h2
  refine ⟨x, dp_str D1, by rw [la, l0]; omega, ?_⟩
  refine h2.run σ H1 B1 _ L1 fun v H2 B2 d s2 L2 D2 h3 => ?_
  obtain ⟨y, rfl, hy, h3⟩ := h3
  refine ⟨y, dp_str D2, by rw [la, la, l0]; omega, ?_⟩
  refine h3.run σ H2 B2 _ L2 fun v H3 B3 d s3 L3 D3 h4 => ?_
  obtain ⟨z, rfl, hz, h4⟩ := h4
  refine ⟨z, dp_str D3, by rw [la, la, la, l0]; omega, ?_⟩
  exact k _ H3 B3 _ ((s1.trans s2).trans s3) L3 (.str _) h4
theorem oz_mulT : OpZ X (binaryOp .Mult) (fun x y R => match x, y with | .str z, .int n => (z.length = 1 ∧ -1000 ≤ n ∧ n ≤ 1000 ∧ (repT z n).length ≤ sizeLine) ∧ R (.str (repT z n)) | _, _ => False) := by
  refine ⟨_, op_mulT, fun W σ ρ H B v u d e R Q L D1 D2 r k => ?_⟩
  cases d <;> cases e <;> first | exact r.elim | skip
  exact ⟨_, _, dp_str D1, dp_int D2, r.1.1, r.1.2.1, r.1.2.2.1, r.1.2.2.2, k _ H B _ (Same.refl _) L (.str _) r.2⟩
end
/-! ### a generator method, listed -/
def MConG (K : PySem.W.Frag) (C : Addr) (P : List (Str × PyData) → (List PyData → Prop) → Prop) : SpG := fun vs H Qf _ => ∃ B a dx fv fs R, vs = [.ref a] ∧ Same B H ∧ H a = some (.ins C dx fv) ∧ FsD K B fv fs ∧ P fs R ∧ ∀ out H' B' xs, Gr K ⟨none, (0, []), B, H⟩ B' H' → DqAll K B' out xs → R xs → Qf out H'
theorem fn_mconG {P : Program} {w : World} {K : PySem.W.Frag} {mg : Str → Option Value} {base : Heap} {x qual : Str} {st : Stmt} {f C : Addr} {fd : FuncData} {N ps : List Str} {k : Nat} {P' : List (Str × PyData) → (List PyData → Prop) → Prop} (F : Fun K x qual st f fd) (S : GScope N ps (defScope st)) (hps : ps.length = 1)
    (body : ∀ (cdv : Value) (A : Around) (outer : List Env) (s : Shared) (H : Hp) (E : XK) (pn : List (Addr × Obj)) (W : Wd) (a dx : Addr) (fs : List (Str × PyData)) (R : List PyData → Prop), Room k (GBx P w K mg base N qual (defScope st) f cdv A outer s H E pn).A → P' fs R →
      Gss (GBx P w K mg base N qual (defScope st) f cdv A outer s H E pn) W (defBody st) [] (.obk a dx C fs :: startZ N.tail []) { nx := fun o _ => R o }) (hN : N ≠ [] := by simp) : GFn P w K mg base (k + 1) f fd ps (MConG K C P') := by
  obtain ⟨oc, od, kV, doc, pm, an, cdv, ct, osl, rfl, lk, hcd⟩ := F.ex
  refine gfn_of lk hcd S (fun vs H Q E h => ?_) fun A outer s H vs Q E pn hr h => ?_
  · obtain ⟨B, a, dx, fv, fs, R, rfl, _⟩ := h
    rw [hps]
    rfl
  · obtain ⟨B, a, dx, fv, fs, R, rfl, sB, ha, hf, h2, q⟩ := h
    refine ⟨tGws _ (defBody st), gss_w, ?_⟩
    have L := start_obj (H0 := H) (sl := .obk a dx C fs) hN sB (fun _ _ z => z) .nil ⟨fv, rfl, .inr ⟨ha, fun z => by cases z⟩, hf⟩
    refine tGws.weak ((body cdv A outer s H E pn ⟨none, (0, []), B, H⟩ a dx fs R hr h2).run _ _ _ [] L .nil) ⟨fun ys σ' H' ⟨B', ρ', o, s', L', Y, r⟩ => ?_, fun _ _ _ z => z.elim, fun _ _ _ ⟨_, _, _, _, _, _, z⟩ => z.elim, fun _ _ _ ⟨_, _, _, _, _, _, z⟩ => z.elim⟩
    exact q ys H' B' o L'.gr Y r
/-- list(o.m()) -/
theorem el_listGM {X : Cx} {W : Wd} {ρ : List Sl} {pos : Pos} (i : Nat) {ad dx C : Addr} {fs : List (Str × PyData)} {x m : Str} {px apos p2 pos' : Pos} {f : Addr} {fd : FuncData} {ps : List Str} {k : Nat} {R : List PyData → Prop} {P : List (Str × PyData) → (List PyData → Prop) → Prop} {pl : Sem Bool} (hρ : ObAt ρ i ad dx C fs) (cl : Cls X.K C) (hm : Meth X.K C m f)
    (F : GFn X.prog X.w X.K X.mg X.base k f fd ps (MConG X.K C P)) (hr : Room (k + 3) X.A) (hbd : Binds X.K fd ps []) (hl : X.mg "list" = none) (hno : fs.lookup m = none) (h : P fs R) (hN : X.N[i]? = some x := by rfl) (hv : Vis X.env.scope x := by first | exact Or.inl rfl | exact Or.inr (Or.inl rfl) | exact Or.inr (Or.inr rfl))
    (hd : (x == ("__debug__" : Str)) = false := by decide) (hcd : (x == ("__classdict__" : Str)) = false := by decide) (hgl : Gl X "list" := by rfl)
    (ht : eval (.Call (.Attribute (.Name x px) m apos) [] [] pos') X.env = (do
      let ov ← eval (.Name x px) X.env
      standAt apos.atName
      let (f, first) ← holding [ov] (getMethod ov m pl)
      callWith pos' f first (backTo pos' (starEach [] X.env)) (backToKw pos' (keywordEach [] X.env))) := by rfl)
    (hs2 : starEach [Expr.Call (.Attribute (.Name x px) m apos) [] [] pos'] X.env = (false, eval (Expr.Call (.Attribute (.Name x px) m apos) [] [] pos') X.env) :: starEach [] X.env := by rfl) : El X W (.Call (.Name "list" p2) [.Call (.Attribute (.Name x px) m apos) [] [] pos'] [] pos) ρ R := by
  refine ⟨fun σ H B Q L k' => PE.toZ (t := tListG (tMethG C m (MConG X.K C P) [] E0 (tVar i) tNil)) (pe_listG (E := E0) (pgen_meth0 (pl := pl) (pe_var hN hv hd hcd) cl hm F (hr.mono (by omega)) hbd .nil ht) (fun _ _ _ _ _ _ _ z => ?_) (fun _ _ _ z => z.elim) hr hgl hl boot_list (by decide) (by decide) hs2) ?_⟩
  · obtain ⟨a, B, H', cls, d, _, _, _, _, _, _, _, z⟩ := z
    exact z.elim
  · obtain ⟨fv, g1, _, g3, g4⟩ := hρ.of L
    refine ⟨.ref ad, g1, ad, dx, fv, rfl, g3, ?_, ?_⟩
    · rcases fsd_look (f := m) g4 with ⟨q, _⟩ | ⟨v, d', q1, q2, q3⟩
      · exact q
      · rw [hno] at q2
        cases q2
    · refine ⟨B, ad, dx, fv, fs, R, rfl, L.gr.sub, g3, g4, h, fun out H' B' xs g Y r q hq => ?_⟩
      obtain ⟨s, L'⟩ := L.called (.inl rfl) g
      obtain ⟨L3, q1, q2, q3, q4⟩ := fresh_own L' hq xs out Y
      exact k' q out _ B' xs s L3 q1 q2 q3 q4 Y r
/-! ### the width by hand -/
theorem fold_app (k : Nat) : (List.replicate k (#[32] : Array Nat)).foldl (· ++ ·) #[] = (List.replicate k 32).toArray := by
  have h : ∀ (k : Nat) (acc : Array Nat), (List.replicate k (#[32] : Array Nat)).foldl (· ++ ·) acc = acc ++ (List.replicate k 32).toArray := by
    intro k
    induction k with
    | zero => intro acc; simp
    | succ k ih =>
      intro acc
      rw [List.replicate_succ, List.foldl_cons, ih, List.replicate_succ]
      apply Array.ext'
      simp
  rw [h]
  simp
theorem repT_eq (n : Int) : repT " " n = ⟨(List.replicate n.toNat 32).toArray⟩ := by
  unfold repT
  split
  · rw [show n.toNat = 0 by omega]
    rfl
  · split
    · rename_i h1 h2
      have : n = 1 := by
        have h2 : n = 1 ∨ (" " : Str).length = 0 := by simpa using h2
        rcases h2 with h2 | h2
        · exact h2
        · exact absurd h2 (by decide)
      subst this
      rfl
    · rw [show (" " : Str).cps = #[32] from rfl, fold_app]
theorem str_digits {a : Int} (h : 0 ≤ a) : Str.ofString (toString a) = ⟨((Nat.toDigits 10 a.natAbs).map Char.toNat).toArray⟩ := by
  obtain ⟨m, rfl⟩ := Int.eq_ofNat_of_zero_le h
  exact text_ofNat m
theorem padT_eq {w : Nat} {a : Int} (h : 0 ≤ a) : padT w a = repT " " ((w : Int) - (((Str.ofString (toString a)).length : Nat) : Int)) ++ Str.ofString (toString a) := by
  rw [repT_eq, str_digits h]
  unfold padT
  show _ = (⟨(List.replicate _ 32).toArray ++ _⟩ : Str)
  simp only [Str.mk.injEq]
  apply Array.ext'
  simp
  show w - (Nat.toDigits 10 a.natAbs).length = w - (List.toArray ((Nat.toDigits 10 a.natAbs).map Char.toNat)).size
  simp
end Z

/-! for x, y in zip(a, b) of a tuple and a list, of a list and a tuple -/
namespace Z
open PySem PySem.Spec PyProof.Rows L2
/-- a tuple (true) or a list (false) -/
def SqE (t : Bool) (K : PySem.W.Frag) (H : Hp) (a : Addr) (xs : List V) : Prop := if t = true then SqT K H a xs else SqL K H a xs
def ItS (t : Bool) (h : Heap) (it l : Addr) (i : Nat) : Prop := if t = true then h.IsTupleIter it l i else h.IsListIter it l i
def RwS (t : Bool) (h : Heap) (l : Addr) (its : Array Value) : Prop := if t = true then h.IsTuple l its else h.IsList l its
theorem drawsS {prog : Program} {w : World} {A : Around} (t : Bool) (hh : A.handled = none) (it l : Addr) (hne : l ≠ it) (items : Array Value) : Draws prog w A it [it, l] items.size (fun i v => items[i]? = some v) (fun i h => ItS t h it l i ∧ RwS t h l items) := by
  cases t
  · exact Draws.list hh it l hne items
  · exact Draws.tuple hh it l hne items
theorem ItS.get {t : Bool} {h : Heap} {it l : Addr} {i : Nat} (st : ItS t h it l i) : ∃ o, h.get? it = some o ∧ ∀ v, o.data ≠ .cell v := by
  cases t <;> (obtain ⟨o, e, _, d⟩ := st; exact ⟨o, e, fun v q => by rw [d] at q; cases q⟩)
theorem ItS.at' {t : Bool} {h h' : Heap} {it l : Addr} {i : Nat} (st : ItS t h it l i) (k : ∀ o, h.get? it = some o → h'.get? it = some o) : ItS t h' it l i := by
  cases t
  · exact Heap.IsListIter.at (h := h) st k
  · exact Heap.IsTupleIter.at (h := h) st k
theorem SqE.raw {X : Cx} {pins : List (Addr × Obj)} {σ : L2.St} {H : Hp} {s : Shared} {t : Bool} {a : Addr} {xs : List V} (I : Inv X pins σ H s) (h : SqE t X.K H a xs) : ∃ its : List Value, Vals xs its ∧ RwS t s.heap a its.toArray ∧ a < s.heap.objs.size := by
  cases t
  · obtain ⟨its, r, p, _⟩ := I.list h
    exact ⟨its, r, p.isList, p.lt⟩
  · obtain ⟨its, r, p, _⟩ := I.tuple h
    obtain ⟨o, e, _⟩ := id p
    exact ⟨its, r, p, Heap.lt_size e⟩
theorem SqE.inj {X : Cx} {pins : List (Addr × Obj)} {σ : L2.St} {H : Hp} {s : Shared} {t : Bool} {a : Addr} {xs ys : List V} (I : Inv X pins σ H s) (h : SqE t X.K H a xs) (h' : SqE t X.K H a ys) : xs = ys := by
  cases t
  · exact I.list_inj h h'
  · exact I.tuple_inj h h'
def ItzE (K : PySem.W.Frag) (t1 t2 : Bool) (a b : Addr) : It :=
  ⟨fun i H => ∃ (xs ys : List V) (x y : V), SqE t1 K H a xs ∧ SqE t2 K H b ys ∧ xs[i]? = some x ∧ ys[i]? = some y,
    fun i H v H' => ∃ T x y, v = .ref T ∧ H T = none ∧ H' = upd H T (.tup [x, y]) ∧ (∀ xs, SqE t1 K H a xs → xs[i]? = some x) ∧ ∀ ys, SqE t2 K H b ys → ys[i]? = some y,
    fun i H => ∃ xs ys : List V, SqE t1 K H a xs ∧ SqE t2 K H b ys ∧ i ≤ xs.length ∧ i ≤ ys.length ∧ (i = xs.length ∨ i = ys.length)⟩
/-- the cells of such a zip -/
structure ApE (z TI TO i1 i2 a b : Addr) : Prop where
  sep : ZipSep2 z TI TO i1 i2 [i1, a] [i2, b]
  n1 : a ≠ i1
  n2 : b ≠ i2
theorem turn_zipE {P : Program} {w : World} {K : PySem.W.Frag} {elts : List Expr} {kk : Nat} {tpos : Pos} {t1 t2 : Bool} {a b z TI TO i1 i2 : Addr} (D : ApE z TI TO i1 i2 a b) :
    Turn P w K (.Tuple elts kk tpos) (ItzE K t1 t2 a b) [z, TI, TO, i1, i2] z (fun i h => IsZip h z TI TO .none ∧ IsPair h TI (.ref i1) (.ref i2) ∧ (∃ x y, IsPair h TO x y) ∧ ItS t1 h i1 a i ∧ ItS t2 h i2 b i) where
  mem := by simp
  obj := fun i h st c hc => by
    obtain ⟨hz, hTI, ⟨x, y, hTO⟩, h1, h2⟩ := st
    have e' : c = z ∨ c = TI ∨ c = TO ∨ c = i1 ∨ c = i2 := by simpa using hc
    rcases e' with q | q | q | q | q
    · rw [q]; exact ⟨_, hz, fun v q => nomatch q⟩
    · rw [q]; exact ⟨_, hTI, fun v q => nomatch q⟩
    · rw [q]; exact ⟨_, hTO, fun v q => nomatch q⟩
    · rw [q]; exact h1.get
    · rw [q]; exact h2.get
  keep := fun i h h' st k => by
    obtain ⟨hz, hTI, ⟨x, y, hTO⟩, h1, h2⟩ := st
    exact ⟨k z (by simp) _ hz, k TI (by simp) _ hTI, ⟨x, y, k TO (by simp) _ hTO⟩, h1.at' fun o q => k i1 (by simp) o q, h2.at' fun o q => k i2 (by simp) o q⟩
  item := by
    intro X hP hw hK hc i pins s σ H E I hf st hg
    subst hP hw hK
    obtain ⟨hz, hTI, ⟨x0, y0, hTO⟩, h1, h2⟩ := st
    obtain ⟨xs, ys, x, y, hqx, hqy, hx, hy⟩ := hg
    obtain ⟨its, rv, p, la⟩ := hqx.raw I
    obtain ⟨its2, rv2, p2, lb⟩ := hqy.raw I
    obtain ⟨u, hu, ru⟩ := rv.get hx
    obtain ⟨u2, hu2, ru2⟩ := rv2.get hy
    have hzl : z < s.heap.objs.size := Heap.lt_size hz
    have hh : X.A.in1.handled = none := I.ok.hd hc
    have i1l : i < its.toArray.size := by rw [List.size_toArray]; exact (List.getElem?_eq_some_iff.mp hu).1
    have i2l : i < its2.toArray.size := by rw [List.size_toArray]; exact (List.getElem?_eq_some_iff.mp hu2).1
    refine wpAny_pyNext_zipD2_item D.sep (drawsS t1 hh i1 a D.n1 its.toArray) (drawsS t2 hh i2 b D.n2 its2.toArray) hz hTI hTO ⟨h1, p⟩ ⟨h2, p2⟩ i1l i2l fun v1 v2 h' tk e1 e2 z' TO' h1' h2' hT hsz hk => ?_
    rw [List.getElem?_toArray, hu] at e1
    rw [List.getElem?_toArray, hu2] at e2
    cases e1
    cases e2
    refine ⟨_, rfl, wpAny_letOwnedTupleGo_zip (s := { s with heap := h', toks := tk }) z' fun h'' z'' sb => ?_⟩
    have hT2 : h''.get? s.heap.objs.size = some { cls := .type "tuple", data := .seq #[u, u2] } := (sb.2 _ (Nat.ne_of_gt hzl)).trans hT
    have new : ObjOk X.prog X.w (upd H s.heap.objs.size (.tup [x, y])) h'' s.heap.objs.size (.tup [x, y]) :=
      ⟨by show 2 ≤ sizeLine; decide, [u, u2], .cons ru (.cons ru2 .nil), ⟨_, hT2, rfl, _, rfl⟩⟩
    have I1 : Inv X pins σ (upd H s.heap.objs.size (.tup [x, y])) { s with heap := h'', toks := tk } :=
      I.turnedNew (t' := tk) (ch := [z, TI, TO, i1, i2]) (fun c o hb q => (sb.2 c (fun q' => hb (by simp [q']))).trans (hk c o (fun q' => hb (by simp [q'])) (fun q' => hb (by simp [q'])) (fun q' => hb (by simp [q'])) (fun q' => hb (by simp [q'])) q)) hf (Nat.le_refl _) new
    refine ⟨.ref s.heap.objs.size, _, I1, rfl, ⟨_, x, y, rfl, I.hok.fresh (Nat.le_refl _), rfl, fun l hl => by rw [SqE.inj I hl hqx]; exact hx, fun l hl => by rw [SqE.inj I hl hqy]; exact hy⟩, ⟨z'', ?_, ⟨u, u2, ?_⟩, ?_, ?_⟩, fun c hcm => ?_⟩
    · exact (sb.2 _ D.sep.TIz).trans (hk _ _ D.sep.TIz D.sep.TITO D.sep.TIi1 D.sep.TIi2 hTI)
    · exact (sb.2 _ D.sep.TOz).trans TO'
    · exact h1'.1.at' fun o q => (sb.2 _ D.sep.zi1.symm).trans q
    · exact h2'.1.at' fun o q => (sb.2 _ D.sep.zi2.symm).trans q
    · have hlt : c < s.heap.objs.size := by
        have e' : c = z ∨ c = TI ∨ c = TO ∨ c = i1 ∨ c = i2 := by simpa using hcm
        rcases e' with q | q | q | q | q
        · rw [q]; exact hzl
        · rw [q]; exact Heap.lt_size hTI
        · rw [q]; exact Heap.lt_size hTO
        · rw [q]; obtain ⟨_, e1, _⟩ := h1.get; exact Heap.lt_size e1
        · rw [q]; obtain ⟨_, e2, _⟩ := h2.get; exact Heap.lt_size e2
      rw [upd_ne (Nat.ne_of_lt hlt)]
      exact (hf c hcm).1
  done := by
    intro X hP hw hK hc i pins s σ H E I hf st hg
    subst hP hw hK
    obtain ⟨hz, hTI, ⟨x0, y0, hTO⟩, h1, h2⟩ := st
    obtain ⟨xs, ys, hqx, hqy, le1, le2, hend⟩ := hg
    obtain ⟨its, rv, p, la⟩ := hqx.raw I
    obtain ⟨its2, rv2, p2, lb⟩ := hqy.raw I
    have l1 := rv.length
    have l2 := rv2.length
    have hh : X.A.in1.handled = none := I.ok.hd hc
    have s1 : its.toArray.size = xs.length := by rw [List.size_toArray]; omega
    have s2 : its2.toArray.size = ys.length := by rw [List.size_toArray]; omega
    exact wpAny_pyNext_zipD2_end D.sep (drawsS t1 hh i1 a D.n1 its.toArray) (drawsS t2 hh i2 b D.n2 its2.toArray) hz hTI hTO ⟨h1, p⟩ ⟨h2, p2⟩ (by omega) (by omega) (by omega) fun h' tk hk => ⟨rfl, I.turnedL (t' := tk) (ch := [z, TI, TO, i1, i2]) (fun c o hb q =>
      hk c o (fun q' => hb (by simp [q'])) (fun q' => hb (by simp [q'])) (fun q' => hb (by simp [q'])) (fun q' => hb (by simp [q'])) q) hf⟩
  self := fun A i s Q E st h => wpAny_pyIter_zip st.1 h
abbrev zwH1 (h : Heap) (l1 : Addr) : Heap := h.push { cls := .type "list_iterator", data := .fields #[.ref l1, .int 0 0] }
abbrev zwH2 (h : Heap) (l1 l2 : Addr) : Heap := (zwH1 h l1).push { cls := .type "tuple_iterator", data := .fields #[.ref l2, .int 0 0] }
abbrev zwH3 (h : Heap) (l1 l2 : Addr) : Heap := (zwH2 h l1 l2).push { cls := .type "tuple", data := .seq #[.ref h.objs.size, .ref (zwH1 h l1).objs.size] }
abbrev zwH4 (h : Heap) (l1 l2 : Addr) : Heap := (zwH3 h l1 l2).push { cls := .type "tuple", data := .seq #[.none, .none] }
abbrev zwH5 (h : Heap) (l1 l2 : Addr) : Heap := (zwH4 h l1 l2).push { cls := .type "zip", data := .fields #[.none, .bool false, .bool false, .ref (zwH2 h l1 l2).objs.size, .ref (zwH3 h l1 l2).objs.size] }
theorem meets_zipW_new (l1 l2 : Addr) (xs ys : Array Value) :
    Meets (Builtin.«zip.__new__» ⟨[.type "zip", .ref l1, .ref l2], []⟩) (fun _ R s => s.heap.IsList l1 xs ∧ s.heap.IsTuple l2 ys ∧
      R (.ok (.ret (.ref (zwH4 s.heap l1 l2).objs.size))) { s with heap := zwH5 s.heap l1 l2 }) :=
  .of_wp fun prog w A R s h => by
    obtain ⟨hp, g, d, tk, os⟩ := s; obtain ⟨hl1, hl2, h⟩ := h
    have hsub := sub_zip
    have hL1 : Heap.IsList (Shared.heap ⟨hp, g, d, tk, os⟩) l1 xs := hl1
    have hL2 : Heap.IsTuple (Shared.heap ⟨hp.push { cls := .type "list_iterator", data := .fields #[.ref l1, .int 0 0] }, g, d, tk, os⟩) l2 ys := by
      obtain ⟨o, e, q⟩ := hl2
      exact ⟨o, Heap.get?_push_of_some _ e, q⟩
    wp_walk using wpAny_pyIter_list hL1, wpAny_pyIter_tuple hL2
    exact ⟨_, rfl, h⟩
theorem call_zipE {prog : Program} {w : World} {A : Around} {E : Value → Shared → Prop} {s : Shared} {t : Bool} {l1 l2 : Addr} {xs ys : Array Value} {Q : Value → Shared → Prop} (hl1 : RwS t s.heap l1 xs) (hl2 : RwS (!t) s.heap l2 ys)
    (h : ∀ h', IsZip h' (s.heap.objs.size + 4) (s.heap.objs.size + 2) (s.heap.objs.size + 3) .none → IsPair h' (s.heap.objs.size + 2) (.ref s.heap.objs.size) (.ref (s.heap.objs.size + 1)) →
      IsPair h' (s.heap.objs.size + 3) .none .none → ItS t h' s.heap.objs.size l1 0 → ItS (!t) h' (s.heap.objs.size + 1) l2 0 → h'.objs.size = s.heap.objs.size + 5 →
      (∀ c o, s.heap.get? c = some o → h'.get? c = some o) → Q (.ref (s.heap.objs.size + 4)) { s with heap := h' }) :
    wpAny (model prog w) A (call (.type "zip") [.ref l1, .ref l2]) Q E s := by
  cases t with
  | true => exact call_zipM hl1 hl2 h
  | false =>
    refine callType_new F.called_zip (by decide) (F.typeCall_zip_2 _ _) (F.newCall_zip_2 _ _) (fun obj => F.args_object_init_3 obj _ _) F.entry_zip_new
      (meets_zipW_new l1 l2 xs ys) ⟨hl1, hl2, ?_⟩
    have z1 : (zwH1 s.heap l1).objs.size = s.heap.objs.size + 1 := Heap.size_push ..
    have z2 : (zwH2 s.heap l1 l2).objs.size = s.heap.objs.size + 2 := by rw [Heap.size_push, z1]
    have z3 : (zwH3 s.heap l1 l2).objs.size = s.heap.objs.size + 3 := by rw [Heap.size_push, z2]
    have z4 : (zwH4 s.heap l1 l2).objs.size = s.heap.objs.size + 4 := by rw [Heap.size_push, z3]
    have z5 : (zwH5 s.heap l1 l2).objs.size = s.heap.objs.size + 5 := by rw [Heap.size_push, z4]
    have g5 : (zwH5 s.heap l1 l2).get? (zwH4 s.heap l1 l2).objs.size = some _ := Heap.get?_push_size _ rfl
    have g4 : (zwH5 s.heap l1 l2).get? (zwH3 s.heap l1 l2).objs.size = some _ := Heap.get?_push_of_some _ (Heap.get?_push_size _ rfl)
    have g3 : (zwH5 s.heap l1 l2).get? (zwH2 s.heap l1 l2).objs.size = some _ := Heap.get?_push_of_some _ (Heap.get?_push_of_some _ (Heap.get?_push_size _ rfl))
    have g2 : (zwH5 s.heap l1 l2).get? (zwH1 s.heap l1).objs.size = some _ := Heap.get?_push_of_some _ (Heap.get?_push_of_some _ (Heap.get?_push_of_some _ (Heap.get?_push_size _ rfl)))
    have g1 : (zwH5 s.heap l1 l2).get? s.heap.objs.size = some _ := Heap.get?_push_of_some _ (Heap.get?_push_of_some _ (Heap.get?_push_of_some _ (Heap.get?_push_of_some _ (Heap.get?_push_size _ rfl))))
    show _ ∧ _
    rw [z2, z3, z4] at g5
    rw [z1, z2] at g3
    rw [z3] at g4
    rw [z1] at g2
    rw [z4]
    exact ⟨⟨_, g5, rfl⟩, h _ g5 g3 g4 ⟨_, g1, rfl, rfl⟩ ⟨_, g2, rfl, rfl⟩ z5 fun c o x =>
      Heap.get?_push_of_some _ (Heap.get?_push_of_some _ (Heap.get?_push_of_some _ (Heap.get?_push_of_some _ (Heap.get?_push_of_some _ x))))⟩
def iZipE (K : PySem.W.Frag) (t : Bool) (ta : TA) : TI := fun σ H R => ta σ H fun vs H1 => ∃ a b xs ys, vs = [.ref a, .ref b] ∧ SqE t K H1 a xs ∧ SqE (!t) K H1 b ys ∧ R (ItzE K t (!t) a b) H1
theorem pi_zipE {X : Cx} {t : Bool} {e e2 : Expr} {ta : TA} {p pos tpos : Pos} {elts : List Expr} {kk : Nat} (hg : Gl X "zip") (hm : X.mg "zip" = none) (ha : PA X [e, e2] ta)
    (hs : starEach [e, e2] X.env = (false, eval e X.env) :: starEach [e2] X.env := by rfl) (hpl : (backTo pos (starEach [e2] X.env)).any (·.1) = false := by rfl) :
    PI X (.Tuple elts kk tpos) (.Call (.Name "zip" p) [e, e2] [] pos) (iZipE X.K t ta) := by
  refine ⟨fun pins s σ H R I h => ?_⟩
  refine Call_ (ld_blt I hg hm PyProof.Rows.boot_zip (PyProof.Rows.callWith_type1 (thn (ha.run pos pins s σ H _ I h) fun us s1 ⟨vs, H1, I1, r1, q1⟩ => ?_) hs hpl))
  obtain ⟨a, b, xs, ys, ex, hqx, hqy, q⟩ := q1
  subst ex
  cases r1 with
  | cons r rr =>
    cases rr with
    | cons r' rr =>
      cases rr
      cases r
      cases r'
      obtain ⟨its, rv, p1, la⟩ := hqx.raw I1
      obtain ⟨its2, rv2, p2, lb⟩ := hqy.raw I1
      obtain ⟨N, hN⟩ : ∃ N, N = s1.heap.objs.size := ⟨_, rfl⟩
      have fresh5 : ∀ c, c ∈ [N + 4, N + 2, N + 3, N, N + 1] → FpOk X pins H1 c := fun c hcm => by
        have hle : s1.heap.objs.size ≤ c := by
          rw [← hN]
          have e' : c = N + 4 ∨ c = N + 2 ∨ c = N + 3 ∨ c = N ∨ c = N + 1 := by simpa using hcm
          rcases e' with z | z | z | z | z
          · rw [z]; exact Nat.le_add_right _ _
          · rw [z]; exact Nat.le_add_right _ _
          · rw [z]; exact Nat.le_add_right _ _
          · rw [z]; exact Nat.le_refl _
          · rw [z]; exact Nat.le_add_right _ _
        exact I1.fpOk hle (I1.hok.fresh hle)
      refine call_zipE (t := t) p1 p2 fun h' hz hTI hTO h1 h2 hsz hk => wpAny_pyIter_zip hz ?_
      rw [← hN] at hz hTI hTO h1 h2 la lb ⊢
      have I2 : Inv X pins σ H1 { s1 with heap := h' } := I1.kept (t' := s1.toks) hk
      exact ⟨N + 4, [N + 4, N + 2, N + 3, N, N + 1], _, _, H1, rfl, I2, turn_zipE ⟨zsep_of la lb, Nat.ne_of_lt la, Nat.ne_of_lt (Nat.lt_succ_of_lt lb)⟩, ⟨hz, hTI, ⟨_, _, hTO⟩, h1, h2⟩, fresh5, q⟩
theorem walk_zipE {K : PySem.W.Frag} {t1 t2 : Bool} {p q : Addr} {vs us : List V} {ds es : List PyData} {B : Hp} (h : ∀ H', Same B H' → SqE t1 K H' p vs) (hd : DqAll K B vs ds) (h' : ∀ H', Same B H' → SqE t2 K H' q us) (he : DqAll K B us es) : WalkZ K (ItzE K t1 t2 p q) (zipD ds es) B where
  go := fun i B' H' s s' hi => by
    rw [zipD_len, ← dpAll_len hd, ← dpAll_len he] at hi
    have i1 : i < vs.length := by omega
    have i2 : i < us.length := by omega
    exact ⟨vs, us, vs[i], us[i], h _ (s.trans s'), h' _ (s.trans s'), by simp [i1], by simp [i2]⟩
  stop := fun B' H' s s' => by
    refine ⟨vs, us, h _ (s.trans s'), h' _ (s.trans s'), ?_⟩
    rw [zipD_len, ← dpAll_len hd, ← dpAll_len he]
    omega
  yld := fun i B' H' x H'' W σ ρ s L hy hi => by
    obtain ⟨T, x1, y1, rfl, hT, rfl, hx, hy⟩ := hy
    rw [zipD_len] at hi
    have hx := hx vs (h _ (s.trans L.gr.sub))
    have hy := hy us (h' _ (s.trans L.gr.sub))
    have i1 : i < ds.length := by omega
    have i2 : i < es.length := by omega
    obtain ⟨v, h1, h2⟩ := dpAll_get hd (List.getElem?_eq_getElem i1)
    obtain ⟨u, h3, h4⟩ := dpAll_get he (List.getElem?_eq_getElem i2)
    rw [hx] at h1
    rw [hy] at h3
    cases h1
    cases h3
    obtain ⟨sB, L'⟩ := L.fresh hT (.tup [x1, y1])
    refine ⟨_, _, zipD_get ds es i (List.getElem?_eq_getElem i1) (List.getElem?_eq_getElem i2), sB, L', .tup (SqT.of upd_same) (.cons (dpMono (s.trans sB) _ _ h2) (.cons (dpMono (s.trans sB) _ _ h4) .nil)), fun b o q => ?_, fun b o q1 q2 => ?_⟩
    · rw [upd_ne (ne_of_none q hT)]
      exact q
    · rw [upd_ne (ne_of_none q1 hT)]
      exact q2
section
variable {X : Cx} {W : Wd} {ρ : List Sl} {pos : Pos} {a b : Expr}
/-- zip of a tuple and a list -/
theorem ei_zipTL {p tpos : Pos} {elts : List Expr} {kk : Nat} {R : List PyData → Prop} (hm : X.mg "zip" = none) (h : Ev X W a ρ fun d => Ev X W b ρ fun d' => ∃ xs ys, d = .tuple xs ∧ d' = .list ys ∧ R (zipD xs ys)) (hg : Gl X "zip" := by rfl)
    (hs : starEach [a, b] X.env = (false, eval a X.env) :: starEach [b] X.env := by rfl) (hs2 : starEach [b] X.env = (false, eval b X.env) :: starEach [] X.env := by rfl) (hpl : (backTo pos (starEach [b] X.env)).any (·.1) = false := by rfl) : Ei X W (.Tuple elts kk tpos) (.Call (.Name "zip" p) [a, b] [] pos) ρ R := by
  refine ⟨fun σ H B Q L k => (pi_zipE (t := true) hg hm (pa_cons pe_w (pa_cons pe_w pa_nil hs2) hs) hs hpl).toZ ?_⟩
  refine h.run σ H B _ L fun v H1 B1 d s1 L1 D1 h2 => ?_
  refine h2.run σ H1 B1 _ L1 fun u H2 B2 d' s2 L2 D2 h3 => ?_
  obtain ⟨xs, ys, rfl, rfl, h3⟩ := h3
  obtain ⟨p, vs, rfl, h4, h5⟩ := dp_tup D1
  obtain ⟨q, us, rfl, h6, h7⟩ := dp_list D2
  have h4' := seqT s2 h4
  exact ⟨p, q, vs, us, rfl, seqT L2.gr.sub h4', SqL.of (L2.gr.sub _ _ h6), k _ H2 B2 _ (s1.trans s2) L2 (walk_zipE (t1 := true) (t2 := false) (fun H' s => seqT s h4') (dpAllMono s2 _ _ h5) (fun H' s => SqL.of (s _ _ h6)) h7) h3⟩
/-- zip of a list and a tuple -/
theorem ei_zipLT {p tpos : Pos} {elts : List Expr} {kk : Nat} {R : List PyData → Prop} (hm : X.mg "zip" = none) (h : Ev X W a ρ fun d => Ev X W b ρ fun d' => ∃ xs ys, d = .list xs ∧ d' = .tuple ys ∧ R (zipD xs ys)) (hg : Gl X "zip" := by rfl)
    (hs : starEach [a, b] X.env = (false, eval a X.env) :: starEach [b] X.env := by rfl) (hs2 : starEach [b] X.env = (false, eval b X.env) :: starEach [] X.env := by rfl) (hpl : (backTo pos (starEach [b] X.env)).any (·.1) = false := by rfl) : Ei X W (.Tuple elts kk tpos) (.Call (.Name "zip" p) [a, b] [] pos) ρ R := by
  refine ⟨fun σ H B Q L k => (pi_zipE (t := false) hg hm (pa_cons pe_w (pa_cons pe_w pa_nil hs2) hs) hs hpl).toZ ?_⟩
  refine h.run σ H B _ L fun v H1 B1 d s1 L1 D1 h2 => ?_
  refine h2.run σ H1 B1 _ L1 fun u H2 B2 d' s2 L2 D2 h3 => ?_
  obtain ⟨xs, ys, rfl, rfl, h3⟩ := h3
  obtain ⟨p, vs, rfl, h4, h5⟩ := dp_list D1
  obtain ⟨q, us, rfl, h6, h7⟩ := dp_tup D2
  have h4' := s2 _ _ h4
  exact ⟨p, q, vs, us, rfl, SqL.of (L2.gr.sub _ _ h4'), seqT L2.gr.sub h6, k _ H2 B2 _ (s1.trans s2) L2 (walk_zipE (t1 := false) (t2 := true) (fun H' s => SqL.of (s _ _ h4')) (dpAllMono s2 _ _ h5) (fun H' s => seqT s h6) h7) h3⟩
end
section
variable {X : Cx} {W : Wd} {ρ : List Sl} {D : Dz} {pos : Pos} {a b e e2 : Expr} {Ep : Addr → List Sl → Prop}
theorem tk_none0 : Tk X W (fun _ => False) := fun E hE => tk_none (W := W) E fun cls d H' z => by
  obtain ⟨_, _, _, _, h, _⟩ := hE cls d H' z
  exact h.elim
theorem owns_bn {P : Program} {w : World} {K : PySem.W.Frag} {mg : Str → Option Value} {base : Heap} {N : List Str} {qual : Str} {sc : Scope} {f : Addr} {cdv : Value} {A : Around} {outer : List Env} {s : Shared} {H : Hp} {E : XK} : PassesOwn (model P w) (Bn P w K mg base N qual sc f cdv A outer s H E).A (Bn P w K mg base N qual sc f cdv A outer s H E).env (Bn P w K mg base N qual sc f cdv A outer s H E).xe :=
  L2.passes_of (X := Bn P w K mg base N qual sc f cdv A outer s H E) rfl
theorem inV_ints {n : Int} {ns : List Int} : inV (.int n) (ns.map V.int) = decide (n ∈ ns) := by
  unfold inV
  induction ns with
  | nil => rfl
  | cons a as ih =>
    rw [List.map_cons, List.any_cons, ih]
    have e : eqV (.int a) (.int n) = decide (a = n) := by
      simp only [eqV]
      rfl
    rw [e]
    by_cases h : a = n
    · subst h
      simp
    · have h2 : ¬ n = a := fun z => h z.symm
      simp [h, h2]
theorem flat_ints {ns : List Int} : (ns.map V.int).all flatV = true := by
  rw [List.all_map, List.all_eq_true]
  intro a _
  rfl
/-- a number in a tuple of numbers -/
theorem oz_inTI : OpZ X (compareOp .In) (fun d e R => ∃ (n : Int) (ns : List Int), d = .int n ∧ e = .tuple (ns.map PyData.int) ∧ R (.bool (decide (n ∈ ns)))) := by
  refine ⟨_, op_in_seq, fun W σ ρ H B v u d e R Q L D1 D2 r k => ?_⟩
  obtain ⟨n, ns, rfl, rfl, r⟩ := r
  cases dp_int D1
  obtain ⟨q, vs, rfl, h1, h2⟩ := dp_tup D2
  cases dq_ints h2
  refine ⟨q, _, rfl, .inr (seqT L.gr.sub h1), rfl, flat_ints, ?_⟩
  rw [if_neg (by decide), inV_ints]
  exact k _ H B _ (Same.refl _) L (.bl _) r
theorem oz_notInTI : OpZ X (compareOp .NotIn) (fun d e R => ∃ (n : Int) (ns : List Int), d = .int n ∧ e = .tuple (ns.map PyData.int) ∧ R (.bool (!decide (n ∈ ns)))) := by
  refine ⟨_, op_notIn_seq, fun W σ ρ H B v u d e R Q L D1 D2 r k => ?_⟩
  obtain ⟨n, ns, rfl, rfl, r⟩ := r
  cases dp_int D1
  obtain ⟨q, vs, rfl, h1, h2⟩ := dp_tup D2
  cases dq_ints h2
  refine ⟨q, _, rfl, .inr (seqT L.gr.sub h1), rfl, flat_ints, ?_⟩
  rw [if_pos rfl, inV_ints]
  exact k _ H B _ (Same.refl _) L (.bl _) r
/-- int(a truth value) -/
theorem ev_intB {p : Pos} {R : PyData → Prop} (hm : X.mg "int" = none) (h : Ev X W e ρ fun d => match d with | .bool b => R (.int (if b = true then 1 else 0)) | _ => False) (hg : Gl X "int" := by rfl)
    (he : starEach [e] X.env = (false, eval e X.env) :: starEach [] X.env := by rfl) (hpl : (backTo pos (starEach [] X.env)).any (·.1) = false := by rfl) : Ev X W (.Call (.Name "int" p) [e] [] pos) ρ R := by
  refine ⟨fun σ H B Q L k => (pe_callTy call_int1 hg hm PyProof.Rows.boot_int (pa_cons pe_w pa_nil he) (by decide) (by decide) he hpl).toZ ?_⟩
  refine h.run σ H B _ L fun v H1 B1 d s1 L1 D1 h2 => ?_
  cases d <;> first | exact h2.elim | skip
  exact .inr ⟨_, by rw [dp_bool D1], k _ H1 B1 _ s1 L1 (.int _) h2⟩
/-- a call that changes an instance, as a statement -/
theorem es_exprx (h : Evx X W e ρ fun _ ρ' => D.nx ρ') (hs : swapsWith e none pos.line X.env = pure false := by rfl) : Es X W (.Expr e pos) ρ D :=
  ⟨fun σ H B L => (ps_expr pe_w hs).toZ (h.run σ H B _ L fun v H' B' d ρ' s L' D' r => ⟨B', ρ', s, L', r⟩)⟩
/-- o, y = C(a, k = b), () of plain locals -/
theorem es_parNew {Er : Addr → Prop} (tk : Tk X W Er) (i j : Nat) {C : Addr} {x y c : Str} {px py pt p kpos pc pe : Pos} {kt k2 pt2 ke} {kw : Str} {f : Addr} {fd : FuncData} {ps : List Str} {k : Nat} {g : List Value → List Value → List Value} {P : List (Str × PyData) → List PyData → (PyData → List (Str × PyData) → Prop) → (Addr → Prop) → Prop} (M : Mk X.K C f) (F : FnOk X.prog X.w X.K X.mg X.base (L2N.CX X.prog X.w) k f fd ps (XConR X.K C P)) (hr : Room (k + 1) X.A)
    (hm : X.mg c = some (.ref C)) (hb : KBn X.K fd ps 2 [kw] g fun vs zs => vs ++ zs) (h : Ev X W a ρ fun d => Ev X W b ρ fun d' => P [] [d, d'] (fun r fs => r = .none ∧ ∀ ad dx, D.nx ((ρ.set i (.obj ad dx C fs)).set j (.im (.tuple [])))) Er)
    (hc : X.calm = true) (hN : X.N.Nodup) (hi : X.N[i]? = some x := by rfl) (hj : X.N[j]? = some y := by rfl) (hij : i ≠ j := by decide)
    (hx : X.env.scope.names.lookup x = some .local := by rfl) (hy : X.env.scope.names.lookup y = some .local := by rfl)
    (hw : swappedStores [.Tuple [.Name x px, .Name y py] kt pt] (.Tuple [.Call (.Name c p) [a] [⟨some kw, b, kpos⟩] pc, .Tuple [] ke pe] k2 pt2) X.env = pure (some [x, y]) := by rfl)
    (hs : swapsWithSole [.Tuple [.Name x px, .Name y py] kt pt] (.Tuple [.Call (.Name c p) [a] [⟨some kw, b, kpos⟩] pc, .Tuple [] ke pe] k2 pt2) pos.line X.env = pure false := by rfl)
    (hgl : Gl X c := by rfl) (hil : i < ρ.length := by first | decide | (simp only [List.length_cons, List.length_nil]; decide) | simp)
    (hall : (backToKw pc (keywordEach [⟨some kw, b, kpos⟩] X.env)).all (·.1.isSome) = true := by rfl) (hks : (backToKw pc (keywordEach [⟨some kw, b, kpos⟩] X.env)).filterMap (·.1) = [kw] := by rfl) (hdb : (c == ("__debug__" : Str)) = false := by decide)
    (he : starEach [a] X.env = (false, eval a X.env) :: starEach [] X.env := by rfl) (hpl : ((backTo pc (starEach [a] X.env)).any (·.1) || (backToKw pc (keywordEach [⟨some kw, b, kpos⟩] X.env)).any (·.1.isNone)) = false := by rfl)
    (hs1 : starEach [.Call (.Name c p) [a] [⟨some kw, b, kpos⟩] pc, .Tuple [] ke pe] X.env = (false, eval (.Call (.Name c p) [a] [⟨some kw, b, kpos⟩] pc) X.env) :: starEach [.Tuple [] ke pe] X.env := by rfl) (hs2 : starEach [.Tuple [] ke pe] X.env = (false, eval (.Tuple [] ke pe) X.env) :: starEach [] X.env := by rfl) :
    Es X W (.Assign [.Tuple [.Name x px, .Name y py] kt pt] (.Tuple [.Call (.Name c p) [a] [⟨some kw, b, kpos⟩] pc, .Tuple [] ke pe] k2 pt2) pos) ρ D := by
  refine ⟨fun σ H B L => ?_⟩
  obtain ⟨E, hE⟩ : ∃ E : XK, E = fun cls d H' => ∃ D B', cls = .ref D ∧ d = none ∧ Er D ∧ Gr X.K W B' H' := ⟨_, rfl⟩
  have hx' : Passes (L2N.CX X.prog X.w) X E := tk E fun cls d H' z => by rw [hE] at z; exact z
  refine (ps_par hc hN hi hj hij hx hy (pa_cons (pe_makeK (n := 1) (ks := [kw]) M F hr hgl hm hb hx' (pa_cons pe_w pa_nil he) (pk_cons pe_w pk_nil) hall hks hdb he hpl) (pa_cons (pe_tup pa_nil) pa_nil hs2) hs1) hw hs).toZ ?_
  refine h.run σ H B _ L fun v H1 B1 d s1 L1 D1 h2 => ?_
  refine h2.run σ H1 B1 _ L1 fun u H2 B2 d' s2 L2 D2 h3 => ?_
  refine ⟨rfl, rfl, fun ad dx q1 q2 q3 => ?_⟩
  refine made_ok (us := [v, u]) L2 q1 q2 q3 (.cons (dpMono s2 _ _ D1) (.cons D2 .nil)) h3 (fun r H' B' dr fs' fv' s L' e1 e2 e3 e4 e5 Dr rr => ?_) fun D' H' B' g er => by rw [hE]; exact ⟨D', B', rfl, rfl, er, g⟩
  obtain ⟨rn, rr⟩ := rr
  subst rn
  refine ⟨dp_none Dr, ?_⟩
  refine ⟨Nat.zero_le _, fun q hq => ?_⟩
  obtain ⟨s5, L5⟩ := L'.fresh hq (.tup [])
  have nq : ad ≠ q := ne_of_none e1 hq
  have L6 := L5.putObj hil (by rw [upd_ne nq]; exact e2) e3 (by rw [upd_ne nq]; exact e1) (fsMono s5 e5) e4
  exact ⟨_, _, rfl, _, _, ((s1.trans s2).trans s).trans s5, L6.put (.tup (SqT.of upd_same) .nil), rr ad dx⟩
/-- C(a, k = b), a new instance -/
theorem edf_makeK (tk : Tkp X W Ep) {C f : Addr} {fd : FuncData} {ps : List Str} {k : Nat} {x : Str} {p kpos : Pos} {kw : Str} {g : List Value → List Value → List Value} {R : OD → Prop} {P : List (Str × PyData) → List PyData → (PyData → List (Str × PyData) → Prop) → (Addr → Prop) → Prop} (M : Mk X.K C f) (F : FnOk X.prog X.w X.K X.mg X.base (L2N.CX X.prog X.w) k f fd ps (XConR X.K C P)) (hr : Room (k + 1) X.A)
    (hm : X.mg x = some (.ref C)) (hb : KBn X.K fd ps 2 [kw] g fun vs zs => vs ++ zs) (h : Ev X W a ρ fun d => Ev X W b ρ fun d' => P [] [d, d'] (fun r fs => r = .none ∧ R (.o C fs)) (fun D => Ep D ρ)) (hgl : Gl X x := by rfl)
    (hall : (backToKw pos (keywordEach [⟨some kw, b, kpos⟩] X.env)).all (·.1.isSome) = true := by rfl) (hks : (backToKw pos (keywordEach [⟨some kw, b, kpos⟩] X.env)).filterMap (·.1) = [kw] := by rfl) (hdb : (x == ("__debug__" : Str)) = false := by decide)
    (he : starEach [a] X.env = (false, eval a X.env) :: starEach [] X.env := by rfl) (hpl : ((backTo pos (starEach [a] X.env)).any (·.1) || (backToKw pos (keywordEach [⟨some kw, b, kpos⟩] X.env)).any (·.1.isNone)) = false := by rfl) : Edf X W (.Call (.Name x p) [a] [⟨some kw, b, kpos⟩] pos) ρ R := by
  refine ⟨fun σ H B Q L kk => (pe_makeK (n := 1) (ks := [kw]) M F hr hgl hm hb (tk.pass (ρ := ρ)) (pa_cons pe_w pa_nil he) (pk_cons pe_w pk_nil) hall hks hdb he hpl).toZ ?_⟩
  refine h.run σ H B _ L fun v H1 B1 d s1 L1 D1 h2 => ?_
  refine h2.run σ H1 B1 _ L1 fun u H2 B2 d' s2 L2 D2 h3 => ?_
  refine ⟨rfl, rfl, fun ad dx q1 q2 q3 => ?_⟩
  refine made_okL (us := [v, u]) L2 q1 q2 q3 (.cons (dpMono s2 _ _ D1) (.cons D2 .nil)) h3 (fun v H' B' d fs' fv' s L' e1 e2 e5 Dv rr => ?_) fun D' H' B' g er => ⟨D', B', σ, rfl, rfl, er, g⟩
  obtain ⟨rn, rr⟩ := rr
  subst rn
  obtain ⟨e3, e4⟩ := L2.fresh_at q1
  obtain ⟨s5, L5⟩ := L'.frzNew e2 e3 e1 e4
  exact ⟨dp_none Dv, kk _ H' _ (.o C fs') (((s1.trans s2).trans s).trans s5) L5 ⟨ad, dx, fv', rfl, upd_same, fsMono s5 e5⟩ rr⟩
end
end Z

local macro_rules | `(tactic| walk_at "nin") => `(tactic| assumption)
local macro_rules | `(tactic| walk_at "fit") => `(tactic| assumption)
local macro_rules | `(tactic| walk_at "fln") => `(tactic| first | (show 0 < 1000; decide) | (show 1 < 1000; decide) | (show 2 < 1000; decide) | (show 3 < 1000; decide))
local macro_rules | `(tactic| walk_at "fl") => `(tactic| first | rfl | decide)
local macro_rules | `(tactic| walk_at "zs") => `(tactic| first | assumption | omega | exact Z.divs (by omega) (by omega) | exact Z.mull (by omega) (by omega) | exact Z.mulr (by omega) (by omega) | decide)
local macro_rules | `(tactic| walk_at "sh") => `(tactic| first | rfl | assumption | decide)
local macro_rules | `(tactic| walk_at "pre") => `(tactic| first | assumption | omega | (refine ⟨⟨?_, ?_⟩, ⟨?_, ?_⟩, ?_, ?_⟩ <;> omega) | decide)
local macro_rules | `(tactic| walk_at "wk") => `(tactic| repeat (first | exact Z.Wk.nil | apply Z.Wk.eq | apply Z.Wk.no))
local macro_rules | `(tactic| walk_at "sz") => `(tactic| first | (simp only [List.length_cons, List.length_nil]; decide) | decide)
namespace Law
open PySem PySem.Spec PyProof.Rows L2 Z
def topS (i : Nat) : Stmt := PySem.Challenge.pw_wallrolls_k17_whole_rolls_strip_by_strip.main.body.getD i (.Pass ⟨0, 0, 0, 0⟩)
abbrev s_is_integer : Stmt := topS 12
abbrev s_is_paper : Stmt := topS 13
abbrev s_phase : Stmt := topS 14
abbrev s_begin_behind : Stmt := topS 15
abbrev s_Roll___init__ : Stmt := inClass (topS 17) 0
abbrev s_Roll_places : Stmt := inClass (topS 17) 1
abbrev s_Roll_left : Stmt := inClass (topS 17) 2
abbrev s_Roll_begin_of : Stmt := inClass (topS 17) 3
abbrev s_Roll_cut : Stmt := inClass (topS 17) 4
abbrev s_Roll___call__ : Stmt := inClass (topS 17) 5
abbrev s_Roll_undo : Stmt := inClass (topS 17) 6
abbrev s_Roll_lines : Stmt := inClass (topS 17) 7
abbrev s_Roll___contains__ : Stmt := inClass (topS 17) 8
abbrev s_Roll___len__ : Stmt := inClass (topS 17) 9
abbrev s_Roll___bool__ : Stmt := inClass (topS 17) 10
abbrev s_Roll___eq__ : Stmt := inClass (topS 17) 11
abbrev s__law_draw : Stmt := topS 19
abbrev s__law_whole : Stmt := topS 20
abbrev s__law_within : Stmt := topS 21
abbrev s__law_like : Stmt := topS 22
abbrev s__law_numbers : Stmt := topS 23
abbrev s__law_phase : Stmt := topS 24
abbrev s__law_next : Stmt := topS 25
abbrev s__law_begins : Stmt := topS 26
abbrev s__law_kind : Stmt := topS 27
abbrev s__law_call : Stmt := topS 28
abbrev s__law_asked : Stmt := topS 29
abbrev s__law_right : Stmt := topS 30
abbrev s_law : Stmt := topS 31
theorem sc_is_integer : FnScope ["value", "low", "high"] ["value", "low", "high"] (defScope s_is_integer) := ⟨rfl, rfl, rfl, by decide +kernel, rfl, by decide +kernel, by decide +kernel⟩
theorem sc_is_paper : FnScope ["value"] ["value"] (defScope s_is_paper) := ⟨rfl, rfl, rfl, by decide +kernel, rfl, by decide +kernel, by decide +kernel⟩
theorem sc_phase : FnScope ["paper", "place"] ["paper", "place"] (defScope s_phase) := ⟨rfl, rfl, rfl, by decide +kernel, rfl, by decide +kernel, by decide +kernel⟩
theorem sc_begin_behind : FnScope ["paper", "free", "place"] ["paper", "free", "place"] (defScope s_begin_behind) := ⟨rfl, rfl, rfl, by decide +kernel, rfl, by decide +kernel, by decide +kernel⟩
theorem sc_Roll___init__ : FnScope ["self", "paper", "length"] ["self", "paper", "length"] (defScope s_Roll___init__) := ⟨rfl, rfl, rfl, by decide +kernel, rfl, by decide +kernel, by decide +kernel⟩
theorem sc_Roll_places : FnScope ["self", "place", "begin"] ["self"] (defScope s_Roll_places) := ⟨rfl, rfl, rfl, by decide +kernel, rfl, by decide +kernel, by decide +kernel⟩
theorem sc_Roll_left : FnScope ["self"] ["self"] (defScope s_Roll_left) := ⟨rfl, rfl, rfl, by decide +kernel, rfl, by decide +kernel, by decide +kernel⟩
theorem sc_Roll_begin_of : FnScope ["self", "place", "begin", "own"] ["self", "place"] (defScope s_Roll_begin_of) := ⟨rfl, rfl, rfl, by decide +kernel, rfl, by decide +kernel, by decide +kernel⟩
theorem sc_Roll_cut : FnScope ["self", "place", "begin"] ["self", "place"] (defScope s_Roll_cut) := ⟨rfl, rfl, rfl, by decide +kernel, rfl, by decide +kernel, by decide +kernel⟩
theorem sc_Roll___call__ : FnScope ["self", "place"] ["self", "place"] (defScope s_Roll___call__) := ⟨rfl, rfl, rfl, by decide +kernel, rfl, by decide +kernel, by decide +kernel⟩
theorem sc_Roll_undo : FnScope ["self", "place", "begin"] ["self"] (defScope s_Roll_undo) := ⟨rfl, rfl, rfl, by decide +kernel, rfl, by decide +kernel, by decide +kernel⟩
theorem sc_Roll_lines : GScope ["self", "place", "begin"] ["self"] (defScope s_Roll_lines) := ⟨rfl, rfl, rfl, by decide +kernel, rfl, by decide +kernel, by decide +kernel⟩
theorem sc_Roll___contains__ : FnScope ["self", "x", "place", "begin"] ["self", "x"] (defScope s_Roll___contains__) := ⟨rfl, rfl, rfl, by decide +kernel, rfl, by decide +kernel, by decide +kernel⟩
theorem sc_Roll___len__ : FnScope ["self"] ["self"] (defScope s_Roll___len__) := ⟨rfl, rfl, rfl, by decide +kernel, rfl, by decide +kernel, by decide +kernel⟩
theorem sc_Roll___bool__ : FnScope ["self"] ["self"] (defScope s_Roll___bool__) := ⟨rfl, rfl, rfl, by decide +kernel, rfl, by decide +kernel, by decide +kernel⟩
theorem sc_Roll___eq__ : FnScope ["self", "other"] ["self", "other"] (defScope s_Roll___eq__) := ⟨rfl, rfl, rfl, by decide +kernel, rfl, by decide +kernel, by decide +kernel⟩
theorem sc__law_draw : FnScope ["tape", "many", "prime", "cell", "found"] ["tape", "many"] (defScope s__law_draw) := ⟨rfl, rfl, rfl, by decide +kernel, rfl, by decide +kernel, by decide +kernel⟩
theorem sc__law_whole : FnScope ["item"] ["item"] (defScope s__law_whole) := ⟨rfl, rfl, rfl, by decide +kernel, rfl, by decide +kernel, by decide +kernel⟩
theorem sc__law_within : FnScope ["item", "low", "high"] ["item", "low", "high"] (defScope s__law_within) := ⟨rfl, rfl, rfl, by decide +kernel, rfl, by decide +kernel, by decide +kernel⟩
theorem sc__law_like : FnScope ["one", "two", "k"] ["one", "two"] (defScope s__law_like) := ⟨rfl, rfl, rfl, by decide +kernel, rfl, by decide +kernel, by decide +kernel⟩
theorem sc__law_numbers : FnScope ["tape", "most", "far", "repeat", "some"] ["tape", "most", "far"] (defScope s__law_numbers) := ⟨rfl, rfl, rfl, by decide +kernel, rfl, by decide +kernel, by decide +kernel⟩
theorem sc__law_phase : FnScope ["kind", "place"] ["kind", "place"] (defScope s__law_phase) := ⟨rfl, rfl, rfl, by decide +kernel, rfl, by decide +kernel, by decide +kernel⟩
theorem sc__law_next : FnScope ["kind", "free", "place", "begin"] ["kind", "free", "place"] (defScope s__law_next) := ⟨rfl, rfl, rfl, by decide +kernel, rfl, by decide +kernel, by decide +kernel⟩
theorem sc__law_begins : FnScope ["kind", "size", "places", "found", "free", "place", "begin"] ["kind", "size", "places"] (defScope s__law_begins) := ⟨rfl, rfl, rfl, by decide +kernel, rfl, by decide +kernel, by decide +kernel⟩
theorem sc__law_kind : FnScope ["e", "some", "word", "good"] ["e"] (defScope s__law_kind) := ⟨rfl, rfl, rfl, by decide +kernel, rfl, by decide +kernel, by decide +kernel⟩
theorem sc__law_call : FnScope ["own", "place", "e"] ["own", "place"] (defScope s__law_call) := ⟨rfl, rfl, rfl, by decide +kernel, rfl, by decide +kernel, by decide +kernel⟩
theorem sc__law_asked : FnScope ["own", "place", "e"] ["own", "place"] (defScope s__law_asked) := ⟨rfl, rfl, rfl, by decide +kernel, rfl, by decide +kernel, by decide +kernel⟩
theorem sc__law_right : FnScope ["own", "kind", "size", "places", "begins", "free", "lines", "place", "begin", "parts", "part", "wide"] ["own", "kind", "size", "places"] (defScope s__law_right) := ⟨rfl, rfl, rfl, by decide +kernel, rfl, by decide +kernel, by decide +kernel⟩
theorem sc_law : FnScope ["script", "tape", "kind", "size", "own", "places", "turn", "place", "due", "rows", "twin", "one"] ["script"] (defScope s_law) := ⟨rfl, rfl, rfl, by decide +kernel, rfl, by decide +kernel, by decide +kernel⟩
structure En (K : PySem.W.Frag) (mg : Str → Option Value) where
  C_Roll : Addr
  m_Roll : mg "Roll" = some (.ref C_Roll)
  cl_Roll : Cls K C_Roll
  na_Roll_kind : NoAttr K C_Roll "kind"
  na_Roll_size : NoAttr K C_Roll "size"
  na_Roll_rows : NoAttr K C_Roll "rows"
  ne_Roll : PySem.W.findIn K (.ref C_Roll) "__ne__" = some (some (.builtin "object.__ne__"))
  ob_Roll : PySem.W.mroIn K C_Roll (.type "object") = some true
  ic_Roll : C8.InsC K C_Roll
  tu_Roll : PySem.W.notFirst K C_Roll (.type "tuple") = true
  kt_Roll : PySem.W.kitOne K (.type "tuple") (.ref C_Roll) = some false
  C_WallError : Addr
  m_WallError : mg "WallError" = some (.ref C_WallError)
  C_InvalidPaper : Addr
  m_InvalidPaper : mg "InvalidPaper" = some (.ref C_InvalidPaper)
  C_InvalidLength : Addr
  m_InvalidLength : mg "InvalidLength" = some (.ref C_InvalidLength)
  C_InvalidPlace : Addr
  m_InvalidPlace : mg "InvalidPlace" = some (.ref C_InvalidPlace)
  C_InvalidFactor : Addr
  m_InvalidFactor : mg "InvalidFactor" = some (.ref C_InvalidFactor)
  C_NoRoom : Addr
  m_NoRoom : mg "NoRoom" = some (.ref C_NoRoom)
  C_NothingToUndo : Addr
  m_NothingToUndo : mg "NothingToUndo" = some (.ref C_NothingToUndo)
  rz_InvalidPaper : RzOk K mg "InvalidPaper" C_InvalidPaper
  ex_InvalidPaper : ExcC K C_InvalidPaper
  ek_InvalidPaper : PySem.W.exmOne K (.ref C_InvalidPaper) (.ref C_WallError) = some true
  ki_InvalidPaper_InvalidPaper : PySem.W.kitOne K (.ref C_InvalidPaper) (.ref C_InvalidPaper) = some true
  ki_InvalidPaper_InvalidLength : PySem.W.kitOne K (.ref C_InvalidPaper) (.ref C_InvalidLength) = some false
  ki_InvalidPaper_InvalidPlace : PySem.W.kitOne K (.ref C_InvalidPaper) (.ref C_InvalidPlace) = some false
  ki_InvalidPaper_InvalidFactor : PySem.W.kitOne K (.ref C_InvalidPaper) (.ref C_InvalidFactor) = some false
  ki_InvalidPaper_NoRoom : PySem.W.kitOne K (.ref C_InvalidPaper) (.ref C_NoRoom) = some false
  ki_InvalidPaper_NothingToUndo : PySem.W.kitOne K (.ref C_InvalidPaper) (.ref C_NothingToUndo) = some false
  rz_InvalidLength : RzOk K mg "InvalidLength" C_InvalidLength
  ex_InvalidLength : ExcC K C_InvalidLength
  ek_InvalidLength : PySem.W.exmOne K (.ref C_InvalidLength) (.ref C_WallError) = some true
  ki_InvalidLength_InvalidPaper : PySem.W.kitOne K (.ref C_InvalidLength) (.ref C_InvalidPaper) = some false
  ki_InvalidLength_InvalidLength : PySem.W.kitOne K (.ref C_InvalidLength) (.ref C_InvalidLength) = some true
  ki_InvalidLength_InvalidPlace : PySem.W.kitOne K (.ref C_InvalidLength) (.ref C_InvalidPlace) = some false
  ki_InvalidLength_InvalidFactor : PySem.W.kitOne K (.ref C_InvalidLength) (.ref C_InvalidFactor) = some false
  ki_InvalidLength_NoRoom : PySem.W.kitOne K (.ref C_InvalidLength) (.ref C_NoRoom) = some false
  ki_InvalidLength_NothingToUndo : PySem.W.kitOne K (.ref C_InvalidLength) (.ref C_NothingToUndo) = some false
  rz_InvalidPlace : RzOk K mg "InvalidPlace" C_InvalidPlace
  ex_InvalidPlace : ExcC K C_InvalidPlace
  ek_InvalidPlace : PySem.W.exmOne K (.ref C_InvalidPlace) (.ref C_WallError) = some true
  ki_InvalidPlace_InvalidPaper : PySem.W.kitOne K (.ref C_InvalidPlace) (.ref C_InvalidPaper) = some false
  ki_InvalidPlace_InvalidLength : PySem.W.kitOne K (.ref C_InvalidPlace) (.ref C_InvalidLength) = some false
  ki_InvalidPlace_InvalidPlace : PySem.W.kitOne K (.ref C_InvalidPlace) (.ref C_InvalidPlace) = some true
  ki_InvalidPlace_InvalidFactor : PySem.W.kitOne K (.ref C_InvalidPlace) (.ref C_InvalidFactor) = some false
  ki_InvalidPlace_NoRoom : PySem.W.kitOne K (.ref C_InvalidPlace) (.ref C_NoRoom) = some false
  ki_InvalidPlace_NothingToUndo : PySem.W.kitOne K (.ref C_InvalidPlace) (.ref C_NothingToUndo) = some false
  rz_NoRoom : RzOk K mg "NoRoom" C_NoRoom
  ex_NoRoom : ExcC K C_NoRoom
  ek_NoRoom : PySem.W.exmOne K (.ref C_NoRoom) (.ref C_WallError) = some true
  ki_NoRoom_InvalidPaper : PySem.W.kitOne K (.ref C_NoRoom) (.ref C_InvalidPaper) = some false
  ki_NoRoom_InvalidLength : PySem.W.kitOne K (.ref C_NoRoom) (.ref C_InvalidLength) = some false
  ki_NoRoom_InvalidPlace : PySem.W.kitOne K (.ref C_NoRoom) (.ref C_InvalidPlace) = some false
  ki_NoRoom_InvalidFactor : PySem.W.kitOne K (.ref C_NoRoom) (.ref C_InvalidFactor) = some false
  ki_NoRoom_NoRoom : PySem.W.kitOne K (.ref C_NoRoom) (.ref C_NoRoom) = some true
  ki_NoRoom_NothingToUndo : PySem.W.kitOne K (.ref C_NoRoom) (.ref C_NothingToUndo) = some false
  rz_NothingToUndo : RzOk K mg "NothingToUndo" C_NothingToUndo
  ex_NothingToUndo : ExcC K C_NothingToUndo
  ek_NothingToUndo : PySem.W.exmOne K (.ref C_NothingToUndo) (.ref C_WallError) = some true
  ki_NothingToUndo_InvalidPaper : PySem.W.kitOne K (.ref C_NothingToUndo) (.ref C_InvalidPaper) = some false
  ki_NothingToUndo_InvalidLength : PySem.W.kitOne K (.ref C_NothingToUndo) (.ref C_InvalidLength) = some false
  ki_NothingToUndo_InvalidPlace : PySem.W.kitOne K (.ref C_NothingToUndo) (.ref C_InvalidPlace) = some false
  ki_NothingToUndo_InvalidFactor : PySem.W.kitOne K (.ref C_NothingToUndo) (.ref C_InvalidFactor) = some false
  ki_NothingToUndo_NoRoom : PySem.W.kitOne K (.ref C_NothingToUndo) (.ref C_NoRoom) = some false
  ki_NothingToUndo_NothingToUndo : PySem.W.kitOne K (.ref C_NothingToUndo) (.ref C_NothingToUndo) = some true
  f_is_integer : Addr
  fd_is_integer : FuncData
  F_is_integer : Fun K "is_integer" "is_integer" s_is_integer f_is_integer fd_is_integer
  b_is_integer : Binds K fd_is_integer ["value", "low", "high"] []
  g_is_integer : mg "is_integer" = some (.ref f_is_integer)
  f_is_paper : Addr
  fd_is_paper : FuncData
  F_is_paper : Fun K "is_paper" "is_paper" s_is_paper f_is_paper fd_is_paper
  b_is_paper : Binds K fd_is_paper ["value"] []
  g_is_paper : mg "is_paper" = some (.ref f_is_paper)
  f_phase : Addr
  fd_phase : FuncData
  F_phase : Fun K "phase" "phase" s_phase f_phase fd_phase
  b_phase : Binds K fd_phase ["paper", "place"] []
  g_phase : mg "phase" = some (.ref f_phase)
  f_begin_behind : Addr
  fd_begin_behind : FuncData
  F_begin_behind : Fun K "begin_behind" "begin_behind" s_begin_behind f_begin_behind fd_begin_behind
  b_begin_behind : Binds K fd_begin_behind ["paper", "free", "place"] []
  g_begin_behind : mg "begin_behind" = some (.ref f_begin_behind)
  f_Roll___init__ : Addr
  fd_Roll___init__ : FuncData
  F_Roll___init__ : Fun K "__init__" "Roll.__init__" s_Roll___init__ f_Roll___init__ fd_Roll___init__
  b_Roll___init__ : KBn K fd_Roll___init__ ["self", "paper", "length"] 2 ["length"] (fun us ws => us ++ ws) (fun vs zs => vs ++ zs)
  mk_Roll : Mk K C_Roll f_Roll___init__
  f_Roll_places : Addr
  fd_Roll_places : FuncData
  F_Roll_places : Fun K "places" "Roll.places" s_Roll_places f_Roll_places fd_Roll_places
  b_Roll_places : Binds K fd_Roll_places ["self"] []
  p_Roll_places : Addr
  me_Roll_places : PropOf K C_Roll "places" p_Roll_places f_Roll_places
  f_Roll_left : Addr
  fd_Roll_left : FuncData
  F_Roll_left : Fun K "left" "Roll.left" s_Roll_left f_Roll_left fd_Roll_left
  b_Roll_left : Binds K fd_Roll_left ["self"] []
  p_Roll_left : Addr
  me_Roll_left : PropOf K C_Roll "left" p_Roll_left f_Roll_left
  f_Roll_begin_of : Addr
  fd_Roll_begin_of : FuncData
  F_Roll_begin_of : Fun K "begin_of" "Roll.begin_of" s_Roll_begin_of f_Roll_begin_of fd_Roll_begin_of
  b_Roll_begin_of : Binds K fd_Roll_begin_of ["self", "place"] []
  me_Roll_begin_of : Meth K C_Roll "begin_of" f_Roll_begin_of
  f_Roll_cut : Addr
  fd_Roll_cut : FuncData
  F_Roll_cut : Fun K "cut" "Roll.cut" s_Roll_cut f_Roll_cut fd_Roll_cut
  b_Roll_cut : Binds K fd_Roll_cut ["self", "place"] []
  me_Roll_cut : Meth K C_Roll "cut" f_Roll_cut
  f_Roll___call__ : Addr
  fd_Roll___call__ : FuncData
  F_Roll___call__ : Fun K "__call__" "Roll.__call__" s_Roll___call__ f_Roll___call__ fd_Roll___call__
  b_Roll___call__ : Binds K fd_Roll___call__ ["self", "place"] []
  co_Roll : StX.CallO K C_Roll f_Roll___call__
  f_Roll_undo : Addr
  fd_Roll_undo : FuncData
  F_Roll_undo : Fun K "undo" "Roll.undo" s_Roll_undo f_Roll_undo fd_Roll_undo
  b_Roll_undo : Binds K fd_Roll_undo ["self"] []
  me_Roll_undo : Meth K C_Roll "undo" f_Roll_undo
  f_Roll_lines : Addr
  fd_Roll_lines : FuncData
  F_Roll_lines : Fun K "lines" "Roll.lines" s_Roll_lines f_Roll_lines fd_Roll_lines
  b_Roll_lines : Binds K fd_Roll_lines ["self"] []
  me_Roll_lines : Meth K C_Roll "lines" f_Roll_lines
  f_Roll___contains__ : Addr
  fd_Roll___contains__ : FuncData
  F_Roll___contains__ : Fun K "__contains__" "Roll.__contains__" s_Roll___contains__ f_Roll___contains__ fd_Roll___contains__
  b_Roll___contains__ : Binds K fd_Roll___contains__ ["self", "x"] []
  oo_Roll___contains__ : OwnOp K C_Roll "__contains__" f_Roll___contains__
  f_Roll___len__ : Addr
  fd_Roll___len__ : FuncData
  F_Roll___len__ : Fun K "__len__" "Roll.__len__" s_Roll___len__ f_Roll___len__ fd_Roll___len__
  b_Roll___len__ : Binds K fd_Roll___len__ ["self"] []
  oo_Roll___len__ : OwnOp K C_Roll "__len__" f_Roll___len__
  f_Roll___bool__ : Addr
  fd_Roll___bool__ : FuncData
  F_Roll___bool__ : Fun K "__bool__" "Roll.__bool__" s_Roll___bool__ f_Roll___bool__ fd_Roll___bool__
  b_Roll___bool__ : Binds K fd_Roll___bool__ ["self"] []
  oo_Roll___bool__ : OwnOp K C_Roll "__bool__" f_Roll___bool__
  f_Roll___eq__ : Addr
  fd_Roll___eq__ : FuncData
  F_Roll___eq__ : Fun K "__eq__" "Roll.__eq__" s_Roll___eq__ f_Roll___eq__ fd_Roll___eq__
  b_Roll___eq__ : Binds K fd_Roll___eq__ ["self", "other"] []
  oo_Roll___eq__ : OwnOp K C_Roll "__eq__" f_Roll___eq__
  f__law_draw : Addr
  fd__law_draw : FuncData
  F__law_draw : Fun K "_law_draw" "_law_draw" s__law_draw f__law_draw fd__law_draw
  b__law_draw : Binds K fd__law_draw ["tape", "many"] []
  g__law_draw : mg "_law_draw" = some (.ref f__law_draw)
  f__law_whole : Addr
  fd__law_whole : FuncData
  F__law_whole : Fun K "_law_whole" "_law_whole" s__law_whole f__law_whole fd__law_whole
  b__law_whole : Binds K fd__law_whole ["item"] []
  g__law_whole : mg "_law_whole" = some (.ref f__law_whole)
  f__law_within : Addr
  fd__law_within : FuncData
  F__law_within : Fun K "_law_within" "_law_within" s__law_within f__law_within fd__law_within
  b__law_within : Binds K fd__law_within ["item", "low", "high"] []
  g__law_within : mg "_law_within" = some (.ref f__law_within)
  f__law_like : Addr
  fd__law_like : FuncData
  F__law_like : Fun K "_law_like" "_law_like" s__law_like f__law_like fd__law_like
  b__law_like : Binds K fd__law_like ["one", "two"] []
  g__law_like : mg "_law_like" = some (.ref f__law_like)
  f__law_numbers : Addr
  fd__law_numbers : FuncData
  F__law_numbers : Fun K "_law_numbers" "_law_numbers" s__law_numbers f__law_numbers fd__law_numbers
  b__law_numbers : Binds K fd__law_numbers ["tape", "most", "far"] []
  g__law_numbers : mg "_law_numbers" = some (.ref f__law_numbers)
  f__law_phase : Addr
  fd__law_phase : FuncData
  F__law_phase : Fun K "_law_phase" "_law_phase" s__law_phase f__law_phase fd__law_phase
  b__law_phase : Binds K fd__law_phase ["kind", "place"] []
  g__law_phase : mg "_law_phase" = some (.ref f__law_phase)
  f__law_next : Addr
  fd__law_next : FuncData
  F__law_next : Fun K "_law_next" "_law_next" s__law_next f__law_next fd__law_next
  b__law_next : Binds K fd__law_next ["kind", "free", "place"] []
  g__law_next : mg "_law_next" = some (.ref f__law_next)
  f__law_begins : Addr
  fd__law_begins : FuncData
  F__law_begins : Fun K "_law_begins" "_law_begins" s__law_begins f__law_begins fd__law_begins
  b__law_begins : Binds K fd__law_begins ["kind", "size", "places"] []
  g__law_begins : mg "_law_begins" = some (.ref f__law_begins)
  f__law_kind : Addr
  fd__law_kind : FuncData
  F__law_kind : Fun K "_law_kind" "_law_kind" s__law_kind f__law_kind fd__law_kind
  b__law_kind : Binds K fd__law_kind ["e"] []
  g__law_kind : mg "_law_kind" = some (.ref f__law_kind)
  f__law_call : Addr
  fd__law_call : FuncData
  F__law_call : Fun K "_law_call" "_law_call" s__law_call f__law_call fd__law_call
  b__law_call : Binds K fd__law_call ["own", "place"] []
  g__law_call : mg "_law_call" = some (.ref f__law_call)
  f__law_asked : Addr
  fd__law_asked : FuncData
  F__law_asked : Fun K "_law_asked" "_law_asked" s__law_asked f__law_asked fd__law_asked
  b__law_asked : Binds K fd__law_asked ["own", "place"] []
  g__law_asked : mg "_law_asked" = some (.ref f__law_asked)
  f__law_right : Addr
  fd__law_right : FuncData
  F__law_right : Fun K "_law_right" "_law_right" s__law_right f__law_right fd__law_right
  b__law_right : Binds K fd__law_right ["own", "kind", "size", "places"] []
  g__law_right : mg "_law_right" = some (.ref f__law_right)
  n_ValueError : mg "ValueError" = none
  n_bool : mg "bool" = none
  n_int : mg "int" = none
  n_isinstance : mg "isinstance" = none
  n_len : mg "len" = none
  n_list : mg "list" = none
  n_max : mg "max" = none
  n_property : mg "property" = none
  n_range : mg "range" = none
  n_str : mg "str" = none
  n_tuple : mg "tuple" = none
  n_zip : mg "zip" = none
  c_MOST_REPEAT : ∃ t, mg "MOST_REPEAT" = some (.int 200 t)
  c_MOST_ROLL : ∃ t, mg "MOST_ROLL" = some (.int 10000 t)
  c_MOST_PLACE : ∃ t, mg "MOST_PLACE" = some (.int 1000000000000 t)
def wholeD : PyData → Bool
  | .int _ => true
  | _ => false
def within : PyData → Int → Int → Bool
  | .int i, lo, hi => decide (lo ≤ i) && decide (i ≤ hi)
  | _, _, _ => false
def valI : PyData → Int
  | .int i => i
  | _ => 0
def papB : PyData → Bool
  | .tuple [a, b, c] => within a 1 200 && within b 0 (valI a - 1) && within c 1 10000
  | _ => false

/-! ### papers -/
abbrev pap (r d l : Int) : PyData := .tuple [.int r, .int d, .int l]
def POk (r d l : Int) : Prop := (1 ≤ r ∧ r ≤ 200) ∧ (0 ≤ d ∧ d < r) ∧ (1 ≤ l ∧ l ≤ 10000)

/-! ### the next begin -/
def nxt (r d f n : Int) : Int := f + (n * d - f) % r
theorem nxt_spec {r d f n : Int} (hr : 0 < r) : f ≤ nxt r d f n ∧ nxt r d f n < f + r ∧ nxt r d f n % r = n * d % r := by
  unfold nxt
  have h0 := Int.emod_nonneg (n * d - f) (show r ≠ 0 by omega)
  have h1 := Int.emod_lt_of_pos (n * d - f) hr
  refine ⟨by omega, by omega, ?_⟩
  have h2 := Int.emod_add_mul_ediv (n * d - f) r
  have e : f + (n * d - f) % r = n * d + r * (-((n * d - f) / r)) := by
    rw [Int.mul_neg]
    omega
  rw [e, Int.add_mul_emod_self_left]
theorem nxt_min {r d f n x : Int} (hr : 0 < r) (h1 : f ≤ x) (h2 : x % r = n * d % r) : nxt r d f n ≤ x := by
  have h := nxt_spec (d := d) (f := f) (n := n) hr
  have e : (x - nxt r d f n) % r = 0 := by
    rw [Int.sub_emod, h2, h.2.2, Int.sub_self]
    rfl
  obtain ⟨q, hq⟩ := Int.dvd_of_emod_eq_zero e
  rcases Int.lt_or_le q 0 with hq0 | hq0
  · have : r * q ≤ r * (-1) := Int.mul_le_mul_of_nonneg_left (by omega) (by omega)
    omega
  · have : 0 ≤ r * q := Int.mul_nonneg (by omega) hq0
    omega
theorem nxt_zero {r d n : Int} : nxt r d 0 n = n * d % r := by
  unfold nxt
  rw [Int.zero_add, Int.sub_zero]

/-! ### papers in naturals; strips of a roll -/
/-- the least multiple of g that is at least z -/
def up (g z : Int) : Int := (z + g - 1) / g * g
theorem up_spec {g z : Int} (hg : 0 < g) : z ≤ up g z ∧ up g z < z + g ∧ up g z % g = 0 := by
  unfold up
  have h1 := Int.emod_add_mul_ediv (z + g - 1) g
  have h2 := Int.emod_nonneg (z + g - 1) (show g ≠ 0 by omega)
  have h3 := Int.emod_lt_of_pos (z + g - 1) hg
  rw [Int.mul_comm] at h1
  refine ⟨by omega, by omega, Int.mul_emod_left _ _⟩
/-- a multiple that is at least z is at least up g z -/
theorem up_le {g z m : Int} (hg : 0 < g) (hm : m % g = 0) (hz : z ≤ m) : up g z ≤ m := by
  obtain ⟨q, rfl⟩ := Int.dvd_of_emod_eq_zero hm
  have h := up_spec (z := z) hg
  obtain ⟨p, hp⟩ := Int.dvd_of_emod_eq_zero h.2.2
  rw [hp]
  rw [hp] at h
  have : g * p < g * q + g := by omega
  have h4 : g * p < g * (q + 1) := by rw [Int.mul_add]; omega
  have h5 : p < q + 1 := Int.lt_of_mul_lt_mul_left h4 (by omega)
  exact Int.mul_le_mul_of_nonneg_left (by omega) (by omega)
theorem up_neg {g z : Int} (hg : 0 < g) : -((-z) / g) * g = up g z := by
  have h := up_spec (z := z) hg
  have h1 := Int.emod_add_mul_ediv (-z) g
  have h2 := Int.emod_nonneg (-z) (show g ≠ 0 by omega)
  have h3 := Int.emod_lt_of_pos (-z) hg
  have e : -((-z) / g) * g = z + (-z) % g := by
    rw [Int.neg_mul, Int.mul_comm]
    omega
  rw [e]
  apply Int.le_antisymm
  · obtain ⟨p, hp⟩ := Int.dvd_of_emod_eq_zero h.2.2
    have : (z + -z % g) % g = 0 := by
      rw [← e]
      exact Int.mul_emod_left _ _
    obtain ⟨q, hq⟩ := Int.dvd_of_emod_eq_zero this
    rw [hp, hq]
    rw [hp] at h
    have h6 : g * q < z + g := by rw [← hq]; omega
    have h4 : g * q < g * (p + 1) := by rw [Int.mul_add]; omega
    have h5 : q < p + 1 := Int.lt_of_mul_lt_mul_left h4 (by omega)
    exact Int.mul_le_mul_of_nonneg_left (by omega) (by omega)
  · refine up_le hg ?_ (by omega)
    rw [← e]
    exact Int.mul_emod_left _ _
/-- the divisor of a paper's drop and repeat -/
def pg (r d : Int) : Int := (Nat.gcd r.toNat d.toNat : Nat)
theorem pg_pos {r d : Int} (h : 1 ≤ r) : 0 < pg r d := by
  unfold pg
  have : 0 < Nat.gcd r.toNat d.toNat := Nat.gcd_pos_of_pos_left _ (by omega)
  omega
theorem pg_le {r d : Int} (h : 1 ≤ r) : pg r d ≤ r := by
  unfold pg
  have : Nat.gcd r.toNat d.toNat ≤ r.toNat := Nat.gcd_le_left _ (by omega)
  omega
/-- the most strips of a roll l, begins being multiples of g -/
def most (g l z : Int) : Int := 1 + (l - z) / up g z
def strip (g l z : Int) : Int := if z ≤ l then most g l z else 0

-- NEEDS gcd
/-! ### steps -/
def stp (r d z s : Int) : Int := z + (s * d - z) % r
theorem bezout : ∀ (a b : Nat), ∃ x y : Int, ((Nat.gcd a b : Nat) : Int) = a * x + b * y
  | 0, b => ⟨0, 1, by rw [Nat.gcd_zero_left]; omega⟩
  | a + 1, b => by
    have hlt : b % (a + 1) < a + 1 := Nat.mod_lt _ (Nat.succ_pos a)
    obtain ⟨x, y, h⟩ := bezout (b % (a + 1)) (a + 1)
    refine ⟨y - ((b / (a + 1) : Nat) : Int) * x, x, ?_⟩
    rw [Nat.gcd_rec, h]
    have e : ((b % (a + 1) : Nat) : Int) = (b : Int) - ((a + 1 : Nat) : Int) * ((b / (a + 1) : Nat) : Int) := by
      have := Nat.mod_add_div b (a + 1)
      have h2 : ((b % (a + 1) : Nat) : Int) + ((a + 1 : Nat) : Int) * ((b / (a + 1) : Nat) : Int) = (b : Int) := by exact_mod_cast this
      omega
    rw [e, Int.sub_mul, Int.mul_sub, Int.mul_assoc]
    omega
  termination_by a _ => a
theorem pg_dvd_r {r d : Int} (h : 0 ≤ r) : pg r d ∣ r := by
  unfold pg
  have := Nat.gcd_dvd_left r.toNat d.toNat
  have h2 := Int.natCast_dvd_natCast.mpr this
  rwa [Int.toNat_of_nonneg h] at h2
theorem pg_dvd_d {r d : Int} (h : 0 ≤ d) : pg r d ∣ d := by
  unfold pg
  have := Nat.gcd_dvd_right r.toNat d.toNat
  have h2 := Int.natCast_dvd_natCast.mpr this
  rwa [Int.toNat_of_nonneg h] at h2
theorem stp_ge {r d z s : Int} (hr : 0 < r) : z ≤ stp r d z s ∧ stp r d z s < z + r := by
  unfold stp
  have := Int.emod_nonneg (s * d - z) (show r ≠ 0 by omega)
  have := Int.emod_lt_of_pos (s * d - z) hr
  omega
theorem stp_mod {r d z s : Int} (hr : 0 < r) (hd : 0 ≤ d) : stp r d z s % pg r d = 0 := by
  unfold stp
  have h1 := Int.emod_add_mul_ediv (s * d - z) r
  have e : z + (s * d - z) % r = s * d - r * ((s * d - z) / r) := by omega
  rw [e]
  exact Int.emod_eq_zero_of_dvd (Int.dvd_sub (Int.dvd_mul_of_dvd_right (pg_dvd_d hd)) (Int.dvd_mul_of_dvd_left (pg_dvd_r (by omega))))
theorem stp_up {r d z s : Int} (hr : 0 < r) (hd : 0 ≤ d) : up (pg r d) z ≤ stp r d z s :=
  up_le (pg_pos (by omega)) (stp_mod hr hd) (stp_ge hr).1
/-- some number of lines up to the repeat has that step -/
theorem stp_ex {r d z : Int} (hr : 0 < r) (hd : 0 ≤ d) : ∃ s : Int, 1 ≤ s ∧ s ≤ r ∧ stp r d z s = up (pg r d) z := by
  have hg := pg_pos (d := d) (show 1 ≤ r by omega)
  have hu := up_spec (z := z) hg
  obtain ⟨q, hq⟩ := Int.dvd_of_emod_eq_zero hu.2.2
  obtain ⟨x, y, hb⟩ := bezout r.toNat d.toNat
  rw [Int.toNat_of_nonneg (by omega), Int.toNat_of_nonneg hd] at hb
  have hb' : pg r d = r * x + d * y := hb
  -- y * q lines, reduced to 1 .. r
  have hle := pg_le (d := d) (show 1 ≤ r by omega)
  have m0 := Int.emod_nonneg (y * q - 1) (show r ≠ 0 by omega)
  have m1 := Int.emod_lt_of_pos (y * q - 1) hr
  refine ⟨(y * q - 1) % r + 1, by omega, by omega, ?_⟩
  have hm := Int.emod_add_mul_ediv (y * q - 1) r
  have key : ((y * q - 1) % r + 1) * d - z = (up (pg r d) z - z) + r * (-(x * q) - (y * q - 1) / r * d) := by
    have e1 : (y * q - 1) % r + 1 = y * q - r * ((y * q - 1) / r) := by omega
    rw [e1, hq, hb', Int.sub_mul, Int.add_mul, Int.mul_sub, Int.mul_neg]
    have e2 : y * q * d = d * y * q := by rw [Int.mul_comm (y * q) d, Int.mul_assoc]
    have e3 : r * ((y * q - 1) / r) * d = r * ((y * q - 1) / r * d) := Int.mul_assoc _ _ _
    have e4 : r * x * q = r * (x * q) := Int.mul_assoc _ _ _
    rw [e2, e3, e4]
    omega
  unfold stp
  rw [key, Int.add_mul_emod_self_left, Int.emod_eq_of_lt (by omega) (by omega)]
  omega
/-- b is the smallest number of lines with the smallest step -/
def Best (r d z b : Int) : Prop := (1 ≤ b ∧ b ≤ r) ∧ (∀ s, 1 ≤ s → s ≤ r → stp r d z b ≤ stp r d z s) ∧ ∀ s, 1 ≤ s → s < b → stp r d z b < stp r d z s
theorem Best.uniq {r d z b b' : Int} (h : Best r d z b) (h' : Best r d z b') : b = b' := by
  rcases Int.lt_trichotomy b b' with l | e | l
  · have h1 := h'.2.2 b h.1.1 l
    have h2 := h.2.1 b' h'.1.1 h'.1.2
    omega
  · exact e
  · have h1 := h.2.2 b' h'.1.1 l
    have h2 := h'.2.1 b h.1.1 h.1.2
    omega
theorem Best.stp {r d z b : Int} (hr : 0 < r) (hd : 0 ≤ d) (h : Best r d z b) : stp r d z b = up (pg r d) z := by
  obtain ⟨s, h1, h2, h3⟩ := stp_ex (z := z) hr hd
  have := h.2.1 s h1 h2
  have := stp_up (z := z) (s := b) hr hd
  omega

-- NEEDS steps
-- NEEDS next
theorem up_add {g m z : Int} (hg : 0 < g) (hm : m % g = 0) : up g (m + z) = m + up g z := by
  obtain ⟨c, rfl⟩ := Int.dvd_of_emod_eq_zero hm
  unfold up
  have e : g * c + z + g - 1 = (z + g - 1) + c * g := by rw [Int.mul_comm g c]; omega
  rw [e, Int.add_mul_ediv_right _ _ (by omega), Int.add_mul, Int.mul_comm g c]
  omega
theorem up_mul {g z : Int} (hg : 0 < g) (k : Int) : (k * up g z) % g = 0 := by
  rw [Int.mul_emod, (up_spec (z := z) hg).2.2]
  simp
theorem up_pos {g z : Int} (hg : 0 < g) (hz : 1 ≤ z) : 0 < up g z := by
  have := (up_spec (z := z) hg).1
  omega
theorem most_eq {g l z k : Int} (hu : 0 < up g z) (h1 : (k - 1) * up g z + z ≤ l) (h2 : l < k * up g z + z) : most g l z = k := by
  unfold most
  have a1 : k - 1 ≤ (l - z) / up g z := (Int.le_ediv_iff_mul_le hu).mpr (by omega)
  have a2 : (l - z) / up g z < k := (Int.ediv_lt_iff_lt_mul hu).mpr (by omega)
  omega
theorem most_le {g l z : Int} (hu : 0 < up g z) (hz : z ≤ l) (h0 : 0 ≤ z) : 1 ≤ most g l z ∧ most g l z ≤ 1 + l := by
  unfold most
  have a1 : 0 ≤ (l - z) / up g z := Int.ediv_nonneg (by omega) (by omega)
  have a2 : (l - z) / up g z ≤ l - z := Int.ediv_le_self _ (by omega)
  omega
theorem most_mono {g l z : Int} (hg : 0 < g) (hz : 1 < z) (hl : z ≤ l) : most g l z ≤ most g l (z - 1) := by
  have u1 := up_spec (z := z) hg
  have u2 := up_spec (z := z - 1) hg
  have u3 : up g (z - 1) ≤ up g z := up_le hg u1.2.2 (by omega)
  unfold most
  have hu : 0 < up g z := by omega
  have hu2 : 0 < up g (z - 1) := by omega
  have a0 : 0 ≤ (l - z) / up g z := Int.ediv_nonneg (by omega) (by omega)
  have a1 : (l - z) / up g z * up g z ≤ l - z := Int.ediv_mul_le _ (by omega)
  have a2 : (l - z) / up g z * up g (z - 1) ≤ (l - z) / up g z * up g z := Int.mul_le_mul_of_nonneg_left u3 a0
  have a3 : (l - z) / up g z ≤ (l - (z - 1)) / up g (z - 1) := (Int.le_ediv_iff_mul_le hu2).mpr (by omega)
  omega
/-! strips cut one behind another -/
def bgs (r d l z : Int) : Int → List Int → List Int → Option (List Int)
  | _, acc, [] => some acc
  | f, acc, p :: ps => if l < nxt r d f p + z then none else bgs r d l z (nxt r d f p + z) (acc ++ [nxt r d f p]) ps
def optL : Option (List Int) → PyData
  | none => .none
  | some ns => .list (ns.map PyData.int)
inductive Cut (r d l z : Int) : List Int → Int → Prop
  | nil : Cut r d l z [] 0
  | snoc {ps : List Int} {f p : Int} : Cut r d l z ps f → nxt r d f p + z ≤ l → Cut r d l z (ps ++ [p]) (nxt r d f p + z)
theorem Cut.run {r d l z f : Int} {ps : List Int} (h : Cut r d l z ps f) : ∃ acc, ∀ qs, bgs r d l z 0 [] (ps ++ qs) = bgs r d l z f acc qs := by
  induction h with
  | nil => exact ⟨[], fun qs => rfl⟩
  | @snoc ps f p h1 h2 ih =>
    obtain ⟨acc, ih⟩ := ih
    refine ⟨acc ++ [nxt r d f p], fun qs => ?_⟩
    rw [List.append_assoc, ih]
    show (if l < nxt r d f p + z then none else _) = _
    rw [if_neg (by omega)]
    rfl
theorem Cut.all {r d l z f : Int} {ps : List Int} (h : Cut r d l z ps f) : ∃ acc, bgs r d l z 0 [] ps = some acc := by
  obtain ⟨acc, h⟩ := h.run
  have := h []
  rw [List.append_nil] at this
  exact ⟨acc, this⟩
theorem nxt_add {r d f p k : Int} : nxt r d f (p + r * k) = nxt r d f p := by
  unfold nxt
  have e : (p + r * k) * d - f = (p * d - f) + r * (k * d) := by rw [Int.add_mul, Int.mul_assoc]; omega
  rw [e, Int.add_mul_emod_self_left]
theorem nxt_up {r d f : Int} (hr : 0 < r) (hd : 0 ≤ d) : (∀ p, up (pg r d) f ≤ nxt r d f p) ∧ ∃ p : Int, 0 ≤ p ∧ p < r ∧ nxt r d f p = up (pg r d) f := by
  refine ⟨fun p => stp_up hr hd, ?_⟩
  obtain ⟨s, s1, s2, s3⟩ := stp_ex (z := f) hr hd
  by_cases h : s = r
  · refine ⟨0, Int.le_refl _, hr, ?_⟩
    subst h
    have : nxt s d f (0 + s * 1) = nxt s d f 0 := nxt_add
    rw [← this]
    have e : (0 : Int) + s * 1 = s := by omega
    rw [e]
    exact s3
  · exact ⟨s, by omega, by omega, s3⟩

-- NEEDS most
/-! the rolls of all lines, strip by strip -/
def lineT (r d l z : Int) : List Int → List (List Int) × List Int → Option (List (List Int) × List Int)
  | [], st => some st
  | p :: ps, (rs, ro) => if l < p * d % r + z then none else if (bgs r d l z 0 [] (ro ++ [p])).isNone = true then lineT r d l z ps (rs ++ [ro], [p]) else lineT r d l z ps (rs, ro ++ [p])
/-- the places of a line -/
def plc (s n i : Int) : List Int := (List.range (rgN i n s)).map fun j => i + ((j : Nat) : Int) * s
def turnA (r d l z s n : Int) : List Int → List (List Int) → Option (List (List Int))
  | [], rs => some rs
  | i :: is, rs => match lineT r d l z (plc s n i) (rs, []) with
    | none => none
    | some (rs', ro) => turnA r d l z s n is (rs' ++ [ro])
def linesI (k : Nat) : List Int := (List.range k).map fun i => 0 + ((i : Nat) : Int)
def turned (r d l z s n : Int) : Option (List (List Int)) := turnA r d l z s n (linesI (min s n).toNat) []
def optR : Option (List (List Int)) → PyData
  | none => .none
  | some rs => .list (rs.map fun ro => .tuple (ro.map PyData.int))
theorem rgN_le {i n s : Int} (hs : 0 < s) (hi : 0 ≤ i) (hn : 0 ≤ n) : rgN i n s ≤ n.toNat := by
  unfold rgN
  split
  · have h1 := Int.ediv_nonneg (a := n - i - 1) (b := s) (by omega) (by omega)
    have h2 := Int.ediv_le_self s (show (0 : Int) ≤ n - i - 1 by omega)
    omega
  · simp
theorem plc_D (s n i : Int) : rng3D i s (rgN i n s) = (plc s n i).map PyData.int := by
  unfold rng3D plc
  rw [List.map_map]
  rfl
theorem plc_len {s n i : Int} : (plc s n i).length = rgN i n s := by simp [plc]
theorem linesI_D (k : Nat) : rngD 0 k = (linesI k).map PyData.int := by
  unfold rngD linesI
  rw [List.map_map]
  rfl
theorem linesI_at {k i : Nat} (h : i < k) : (linesI k)[i]? = some ((i : Nat) : Int) := by
  unfold linesI
  simp [h]
theorem linesI_len {k : Nat} : (linesI k).length = k := by simp [linesI]

-- NEEDS turned
/-! the strips of all rolls, line by line -/
def layL (r d l z : Int) : List Int → List (List (Int × Int)) → List (Int × Int) → Int → List (List (Int × Int)) × List (Int × Int)
  | [], o, ro, _ => (o, ro)
  | p :: ps, o, ro, f => if l < nxt r d f p + z then layL r d l z ps (o ++ [ro]) [(p, p * d % r)] (p * d % r + z) else layL r d l z ps o (ro ++ [(p, nxt r d f p)]) (nxt r d f p + z)
def layA (r d l z s n : Int) : List Int → List (List (Int × Int)) → List (List (Int × Int))
  | [], o => o
  | i :: is, o => layA r d l z s n is ((layL r d l z (plc s n i) o [] 0).1 ++ [(layL r d l z (plc s n i) o [] 0).2])
def lay (r d l z s n : Int) : List (List (Int × Int)) := layA r d l z s n (linesI (min s n).toNat) []
def pcut (q : Int × Int) : PyData := .tuple [.int q.1, .int q.2]
def prow (ro : List (Int × Int)) : PyData := .tuple (ro.map pcut)

/-! ### plain data of bounded depth -/
def Sim : Nat → PyData → Prop
  | _, .none => True
  | _, .bool _ => True
  | _, .int _ => True
  | _, .str x => PyData.strOk x = true
  | n + 1, .list ds => ds.length ≤ 1000000 ∧ ∀ d ∈ ds, Sim n d
  | n + 1, .tuple ds => ds.length ≤ 1000000 ∧ ∀ d ∈ ds, Sim n d
  | 0, .list _ => False
  | 0, .tuple _ => False
  | _, .dict _ => False
theorem canLayAll_of : ∀ {ds : List PyData}, (∀ d ∈ ds, d.canLay0 = true) → PyData.canLayAll0 ds = true
  | [], _ => by simp [PyData.canLayAll0]
  | d :: ds, h => by
    simp only [PyData.canLayAll0, Bool.and_eq_true]
    exact ⟨h d (by simp), canLayAll_of fun e he => h e (by simp [he])⟩
theorem depthAll_of {n : Nat} : ∀ {ds : List PyData}, (∀ d ∈ ds, d.depth ≤ n) → PyData.depthAll ds ≤ n
  | [], _ => by simp [PyData.depthAll]
  | d :: ds, h => by
    simp only [PyData.depthAll]
    have h1 := h d (by simp)
    have h2 := depthAll_of (ds := ds) fun e he => h e (by simp [he])
    omega
theorem Sim.lay : ∀ {n : Nat} {d : PyData}, Sim n d → d.canLay0 = true ∧ d.depth ≤ n
  | n, .none, _ => by simp [PyData.canLay0, PyData.depth]
  | n, .bool _, _ => by simp [PyData.canLay0, PyData.depth]
  | n, .int _, _ => by simp [PyData.canLay0, PyData.depth]
  | n, .str x, h => by
    have h : PyData.strOk x = true := by cases n <;> exact h
    simp [PyData.canLay0, PyData.depth, h]
  | n + 1, .list ds, h => by
    simp only [PyData.canLay0, PyData.depth]
    refine ⟨canLayAll_of fun d hd => (Sim.lay (h.2 d hd)).1, ?_⟩
    have := depthAll_of (n := n) (ds := ds) fun d hd => (Sim.lay (h.2 d hd)).2
    omega
  | n + 1, .tuple ds, h => by
    simp only [PyData.canLay0, PyData.depth]
    refine ⟨canLayAll_of fun d hd => (Sim.lay (h.2 d hd)).1, ?_⟩
    have := depthAll_of (n := n) (ds := ds) fun d hd => (Sim.lay (h.2 d hd)).2
    omega
  | 0, .list _, h => h.elim
  | 0, .tuple _, h => h.elim
  | n, .dict _, h => by cases n <;> exact h.elim
theorem Sim.shaped {n : Nat} {d : PyData} (h : Sim n d) (hn : n ≤ 64) : SeqAt.shaped d = true := by
  unfold SeqAt.shaped
  rw [Bool.and_eq_true]
  exact ⟨h.lay.1, decide_eq_true (Nat.le_trans h.lay.2 hn)⟩
theorem eqvAll_self : ∀ {ds : List PyData}, (∀ d ∈ ds, PyData.eqv d d = true) → PyData.eqvAll ds ds = true
  | [], _ => by simp [PyData.eqvAll]
  | d :: ds, h => by
    simp only [PyData.eqvAll, Bool.and_eq_true]
    exact ⟨h d (by simp), eqvAll_self fun e he => h e (by simp [he])⟩
theorem Sim.self : ∀ {n : Nat} {d : PyData}, Sim n d → PyData.eqv d d = true
  | n, .none, _ => by simp [PyData.eqv]
  | n, .bool _, _ => by simp [PyData.eqv]
  | n, .int _, _ => by simp [PyData.eqv]
  | n, .str x, h => by simp [PyData.eqv]
  | n + 1, .list ds, h => by
    simp only [PyData.eqv]
    exact eqvAll_self fun d hd => Sim.self (h.2 d hd)
  | n + 1, .tuple ds, h => by
    simp only [PyData.eqv]
    exact eqvAll_self fun d hd => Sim.self (h.2 d hd)
  | 0, .list _, h => h.elim
  | 0, .tuple _, h => h.elim
  | n, .dict _, h => by cases n <;> exact h.elim
theorem Sim.up : ∀ {n m : Nat} {d : PyData}, Sim n d → n ≤ m → Sim m d
  | n, m, .none, _, _ => by cases m <;> trivial
  | n, m, .bool _, _, _ => by cases m <;> trivial
  | n, m, .int _, _, _ => by cases m <;> trivial
  | n, m, .str x, h, _ => by
    have h : PyData.strOk x = true := by cases n <;> exact h
    cases m <;> exact h
  | n + 1, 0, .list ds, h, e => by omega
  | n + 1, m + 1, .list ds, h, e => ⟨h.1, fun d hd => (h.2 d hd).up (by omega)⟩
  | n + 1, 0, .tuple ds, h, e => by omega
  | n + 1, m + 1, .tuple ds, h, e => ⟨h.1, fun d hd => (h.2 d hd).up (by omega)⟩
  | 0, _, .list _, h, _ => h.elim
  | 0, _, .tuple _, h, _ => h.elim
  | n, _, .dict _, h, _ => by cases n <;> exact h.elim
theorem sim_dict {n : Nat} {k : List (PyData × PyData)} (h : Sim n (.dict k)) : False := by cases n <;> exact h
theorem sim_int {n : Nat} {i : Int} : Sim n (.int i) := by cases n <;> trivial
theorem sim_bool {n : Nat} {i : Bool} : Sim n (.bool i) := by cases n <;> trivial
theorem sim_none {n : Nat} : Sim n .none := by cases n <;> trivial
theorem sim_ints {n : Nat} {ns : List Int} (h : ns.length ≤ 1000000) : Sim (n + 1) (.list (ns.map PyData.int)) := ⟨by rw [List.length_map]; exact h, fun d hd => by
  obtain ⟨i, _, rfl⟩ := List.mem_map.mp hd
  exact sim_int⟩
theorem sim_intsT {n : Nat} {ns : List Int} (h : ns.length ≤ 1000000) : Sim (n + 1) (.tuple (ns.map PyData.int)) := ⟨by rw [List.length_map]; exact h, fun d hd => by
  obtain ⟨i, _, rfl⟩ := List.mem_map.mp hd
  exact sim_int⟩
/-- == of ints' data is equality -/
theorem eqvAll_ints : ∀ {ns ms : List Int}, PyData.eqvAll (ns.map PyData.int) (ms.map PyData.int) = decide (ns = ms)
  | [], [] => by simp [PyData.eqvAll]
  | [], m :: ms => by simp [PyData.eqvAll]
  | n :: ns, [] => by simp [PyData.eqvAll]
  | n :: ns, m :: ms => by
    simp only [List.map_cons, PyData.eqvAll, PyData.eqv]
    rw [eqvAll_ints]
    by_cases h1 : n = m
    · by_cases h2 : ns = ms
      · simp [h1, h2]
      · simp [h1, h2]
    · simp [h1]
theorem eqv_ints {ns ms : List Int} : PyData.eqv (.list (ns.map PyData.int)) (.list (ms.map PyData.int)) = decide (ns = ms) := by
  simp only [PyData.eqv]
  exact eqvAll_ints
theorem eqv_intsT {ns ms : List Int} : PyData.eqv (.tuple (ns.map PyData.int)) (.tuple (ms.map PyData.int)) = decide (ns = ms) := by
  simp only [PyData.eqv]
  exact eqvAll_ints

-- NEEDS base
-- NEEDS layout
-- NEEDS sim
-- NEEDS within
/-! a roll object: its fields; where its last strip ends -/
def rolF (r d l z : Int) (rows : List (Int × Int)) : List (Str × PyData) := [("kind", pap r d l), ("size", .int z), ("rows", prow rows)]
def endR (z : Int) (rows : List (Int × Int)) : Int := match rows.getLast? with
  | none => 0
  | some q => q.2 + z
theorem endR_nil {z : Int} : endR z [] = 0 := rfl
theorem endR_snoc {z : Int} {rows : List (Int × Int)} {q : Int × Int} : endR z (rows ++ [q]) = q.2 + z := by
  unfold endR
  rw [List.getLast?_append]
  rfl
def begO (r d l z : Int) (rows : List (Int × Int)) (p : Int) : Option Int := if nxt r d (endR z rows) p + z ≤ l then some (nxt r d (endR z rows) p) else none
theorem sim_prow {n : Nat} {ro : List (Int × Int)} (h : ro.length ≤ 1000000) : Sim (n + 2) (prow ro) := by
  refine ⟨by rw [List.length_map]; exact h, fun d hd => ?_⟩
  obtain ⟨q, h4, rfl⟩ := List.mem_map.mp hd
  exact sim_intsT (ns := [q.1, q.2]) (show 2 ≤ 1000000 by decide)
theorem eqv_prow_nil {ro : List (Int × Int)} : PyData.eqv (prow ro) (.tuple []) = ro.isEmpty := by
  cases ro with
  | nil => simp [prow, PyData.eqv, PyData.eqvAll]
  | cons q r => simp [prow, PyData.eqv, PyData.eqvAll]
theorem prow_any {ro : List (Int × Int)} {p : Int} : ((ro.map Prod.fst).map PyData.int).any (fun z => PyData.eqv z (.int p)) = decide (p ∈ ro.map Prod.fst) := by
  induction ro with
  | nil => simp
  | cons q r ih =>
    rw [List.map_cons, List.map_cons, List.any_cons, ih]
    have e : PyData.eqv (.int q.1) (.int p) = decide (q.1 = p) := by simp [PyData.eqv]; rfl
    rw [e]
    by_cases h : q.1 = p
    · simp [h]
    · have h2 : ¬ p = q.1 := fun z => h z.symm
      simp [h, h2]

-- NEEDS within
-- NEEDS roll
/-! what is asked of an error; papers and rolls that are made -/
def pairsK (b1 b2 b3 b4 b5 b6 : Bool) : List (Str × Bool) := [("paper", b1), ("length", b2), ("place", b3), ("factor", b4), ("room", b5), ("nothing", b6)]
def wordsK (b1 b2 b3 b4 b5 b6 : Bool) : List Str := (pairsK b1 b2 b3 b4 b5 b6).filterMap fun q => if q.2 = true then some q.1 else none
def kindS (b1 b2 b3 b4 b5 b6 : Bool) : Str := Txt.join "" (wordsK b1 b2 b3 b4 b5 b6)
def pairD (q : Str × Bool) : PyData := .tuple [.str q.1, .bool q.2]
theorem wordsK_small (b1 b2 b3 b4 b5 b6 : Bool) : ((wordsK b1 b2 b3 b4 b5 b6).map (·.length)).sum + (wordsK b1 b2 b3 b4 b5 b6).length * ("" : Str).length ≤ 16777216 := by
  revert b1 b2 b3 b4 b5 b6
  decide +kernel
theorem kindS_paper : kindS true false false false false false = "paper" := by decide +kernel
theorem kindS_length : kindS false true false false false false = "length" := by decide +kernel
theorem papB_true {k : PyData} (h : papB k = true) : ∃ r d l, k = pap r d l ∧ POk r d l := by
  unfold papB at h
  split at h
  · rename_i a b c
    cases a <;> simp [within, valI] at h
    rename_i r
    cases b <;> simp [within, valI] at h
    rename_i d
    cases c <;> simp [within, valI] at h
    rename_i l
    exact ⟨r, d, l, rfl, ⟨by omega, by omega⟩, ⟨by omega, by omega⟩, by omega, by omega⟩
  · cases h
theorem within_true {z : PyData} {lo hi : Int} (h : within z lo hi = true) : ∃ n, z = .int n ∧ lo ≤ n ∧ n ≤ hi := by
  cases z <;> simp [within] at h
  exact ⟨_, rfl, h.1, h.2⟩
def rollD (k z : PyData) : PyData := if papB k = true then (match k with
  | .tuple [_, _, .int l] => if within z 1 l = true then .tuple [.tuple [], .int l] else .str "length"
  | _ => .none) else .str "paper"

-- NEEDS most
/-! rolls of a line -/
/-- how many strips a roll gives that begins with a place -/
def sf (r d l z s p : Int) : Int := if p * d % r + z ≤ l then 1 + (l - z - p * d % r) / stp r d z s else 0
theorem sf_pos {r d l z s p : Int} (hr : 0 < r) (hz : 1 ≤ z) (h : p * d % r + z ≤ l) : 1 ≤ sf r d l z s p := by
  unfold sf
  rw [if_pos h]
  have h1 := stp_ge (d := d) (z := z) (s := s) hr
  have := Int.ediv_nonneg (a := l - z - p * d % r) (b := stp r d z s) (by omega) (by omega)
  omega
/-- rolls until c strips are cut: g x strips come from the roll that begins behind x strips -/
def rlF (g : Int → Int) (c : Int) : Nat → Int → Int
  | 0, _ => 0
  | n + 1, x => if x < c then 1 + rlF g c n (x + g x) else 0
def rl (g : Int → Int) (c x : Int) : Int := rlF g c (c - x).toNat x
theorem rlF_eq {g : Int → Int} {c : Int} (hg : ∀ x, 0 ≤ x → x < c → 1 ≤ g x) : ∀ (n m : Nat) (x : Int), 0 ≤ x → (c - x).toNat ≤ n → (c - x).toNat ≤ m → rlF g c n x = rlF g c m x
  | 0, 0, _, _, _, _ => rfl
  | 0, m + 1, x, _, h, _ => by
    rw [rlF, rlF, if_neg (by omega)]
  | n + 1, 0, x, _, _, h => by
    rw [rlF, rlF, if_neg (by omega)]
  | n + 1, m + 1, x, h0, h1, h2 => by
    rw [rlF, rlF]
    by_cases h : x < c
    · rw [if_pos h, if_pos h]
      have := hg x h0 h
      rw [rlF_eq hg n m (x + g x) (by omega) (by omega) (by omega)]
    · rw [if_neg h, if_neg h]
theorem rl_end {g : Int → Int} {c x : Int} (h : c ≤ x) : rl g c x = 0 := by
  unfold rl
  have e : (c - x).toNat = 0 := by omega
  rw [e]
  rfl
theorem rl_step {g : Int → Int} {c x : Int} (hg : ∀ x, 0 ≤ x → x < c → 1 ≤ g x) (h0 : 0 ≤ x) (h : x < c) : rl g c x = 1 + rl g c (x + g x) := by
  have hx := hg x h0 h
  have e : (c - x).toNat = ((c - x).toNat - 1) + 1 := by omega
  unfold rl
  rw [e, rlF, if_pos h]
  rw [rlF_eq hg _ (c - (x + g x)).toNat (x + g x) (by omega) (by omega) (by omega)]
theorem rl_nonneg {g : Int → Int} {c : Int} : ∀ (n : Nat) (x : Int), 0 ≤ rlF g c n x
  | 0, _ => Int.le_refl _
  | n + 1, x => by
    rw [rlF]
    split
    · have := rl_nonneg (g := g) (c := c) n (x + g x)
      omega
    · exact Int.le_refl _
theorem rl_le {g : Int → Int} {c : Int} (hg : ∀ x, 0 ≤ x → x < c → 1 ≤ g x) : ∀ (n : Nat) (x : Int), 0 ≤ x → x ≤ c → (c - x).toNat = n → rl g c x ≤ c - x := by
  intro n
  induction n using Nat.strongRecOn with
  | _ n ih =>
    intro x h0 h1 hn
    by_cases h : x < c
    · rw [rl_step hg h0 h]
      have hx := hg x h0 h
      by_cases h2 : x + g x ≤ c
      · have := ih (c - (x + g x)).toNat (by omega) (x + g x) (by omega) h2 rfl
        omega
      · rw [rl_end (by omega)]
        omega
    · rw [rl_end (by omega)]
      omega
/-- each roll gives at most M strips -/
theorem rl_ge {g : Int → Int} {c M : Int} (hg : ∀ x, 0 ≤ x → x < c → 1 ≤ g x) (hM : ∀ x, 0 ≤ x → x < c → g x ≤ M) (hM0 : 0 ≤ M) : ∀ (n : Nat) (x : Int), 0 ≤ x → (c - x).toNat = n → c - x ≤ rl g c x * M := by
  intro n
  induction n using Nat.strongRecOn with
  | _ n ih =>
    intro x h0 hn
    by_cases h : x < c
    · rw [rl_step hg h0 h]
      have hx := hg x h0 h
      have hy := hM x h0 h
      have := ih (c - (x + g x)).toNat (by omega) (x + g x) (by omega) rfl
      rw [Int.add_mul, Int.one_mul]
      omega
    · rw [rl_end (by omega)]
      omega
/-- from a, after n rolls, b: each begun before c -/
inductive Rch (g : Int → Int) (c : Int) : Int → Nat → Int → Prop
  | refl (a : Int) : Rch g c a 0 a
  | step {a b : Int} {n : Nat} : Rch g c a n b → b < c → Rch g c a (n + 1) (b + g b)
section
variable {g : Int → Int} {c a b : Int} {n : Nat}
theorem Rch.le (hg : ∀ x, 0 ≤ x → x < c → 1 ≤ g x) (ha : 0 ≤ a) (h : Rch g c a n b) : a + n ≤ b := by
  induction h with
  | refl => omega
  | @step b n h hb ih =>
    have := hg b (by omega) hb
    omega
theorem Rch.rl (hg : ∀ x, 0 ≤ x → x < c → 1 ≤ g x) (ha : 0 ≤ a) (h : Rch g c a n b) : rl g c a = n + rl g c b := by
  induction h with
  | refl => simp
  | @step b n h hb ih =>
    have := h.le hg ha
    rw [ih, rl_step hg (by omega) hb]
    omega
theorem Rch.shift {κ : Int → Int} (hg : ∀ x, 0 ≤ x → x < c → 1 ≤ g x) (hk : ∀ x y, κ x = κ y → g x = g y) (hs : ∀ x y u, κ x = κ y → κ (x + u) = κ (y + u)) (ha : 0 ≤ a) (h : Rch g c a n b) {y : Int} (hy : κ y = κ a) (hc : y + (b - a) ≤ c) : Rch g c y n (y + (b - a)) := by
  induction h with
  | refl => 
    have e : y + (a - a) = y := by omega
    rw [e]
    exact .refl y
  | @step b n h hb ih =>
    have h1 := h.le hg ha
    have h2 := hg b (by omega) hb
    have h3 := ih (by omega)
    have h4 := Rch.step h3 (by omega)
    have e1 : κ (y + (b - a)) = κ b := by
      have := hs y a (b - a) hy
      rw [this]
      congr 1
      omega
    rw [hk _ _ e1] at h4
    have e2 : y + (b - a) + g b = y + (b + g b - a) := by omega
    rw [e2] at h4
    exact h4
theorem rl_turns {κ : Int → Int} (hg : ∀ x, 0 ≤ x → x < c → 1 ≤ g x) (hk : ∀ x y, κ x = κ y → g x = g y) (hs : ∀ x y u, κ x = κ y → κ (x + u) = κ (y + u)) (ha : 0 ≤ a) (h : Rch g c a n b) (hab : κ b = κ a) : ∀ (t : Nat) (y : Int), 0 ≤ y → κ y = κ a → y + t * (b - a) ≤ c → rl g c y = t * n + rl g c (y + t * (b - a)) ∧ κ (y + t * (b - a)) = κ a
  | 0, y, _, hy, _ => by simp [hy]
  | t + 1, y, h0, hy, hc => by
    have h1 := h.le hg ha
    have e1 : ((t + 1 : Nat) : Int) * (b - a) = t * (b - a) + (b - a) := by
      rw [Int.natCast_add, Int.add_mul]
      simp
    rw [e1] at hc ⊢
    have h2 : 0 ≤ (t : Int) * (b - a) := Int.mul_nonneg (by omega) (by omega)
    have h3 := (h.shift hg hk hs ha hy (by omega)).rl hg h0
    have e2 : κ (y + (b - a)) = κ a := by
      rw [hs y a (b - a) hy]
      have e3 : a + (b - a) = b := by omega
      rw [e3, hab]
    obtain ⟨h4, h5⟩ := rl_turns hg hk hs ha h hab t (y + (b - a)) (by omega) e2 (by omega)
    have e4 : y + (b - a) + t * (b - a) = y + (t * (b - a) + (b - a)) := by omega
    rw [e4] at h4 h5
    refine ⟨?_, h5⟩
    rw [h3, h4, Int.natCast_add, Int.add_mul]
    simp
    omega
end
/-- how many strips the roll of a line gives that begins behind x strips -/
def gl (r d l z s line : Int) (x : Int) : Int := sf r d l z s (line + x * s)
theorem gl_key {r d l z s line x y : Int} (h : (line + x * s) * d % r = (line + y * s) * d % r) : gl r d l z s line x = gl r d l z s line y := by
  unfold gl sf
  rw [h]
theorem key_add {r d s line x y : Int} (u : Int) (h : (line + x * s) * d % r = (line + y * s) * d % r) : (line + (x + u) * s) * d % r = (line + (y + u) * s) * d % r := by
  have e : ∀ v : Int, (line + (v + u) * s) * d = (line + v * s) * d + u * s * d := fun v => by
    rw [Int.add_mul v, ← Int.add_assoc, Int.add_mul (line + v * s)]
  rw [e x, e y, Int.add_emod, h, ← Int.add_emod]
theorem sf_le {r d l z s p : Int} (hr : 0 < r) (hd : 0 ≤ d) (hz : 1 ≤ z) (hl : z ≤ l) : sf r d l z s p ≤ most (pg r d) l z := by
  have hm := most_le (g := pg r d) (up_pos (pg_pos (d := d) (by omega)) hz) hl (by omega)
  unfold sf
  split
  · rename_i h
    unfold most
    have h1 := stp_up (z := z) (s := s) hr hd
    have h2 := up_pos (z := z) (pg_pos (d := d) (show 1 ≤ r by omega)) hz
    have h3 := Int.emod_nonneg (p * d) (show r ≠ 0 by omega)
    have h4 : 0 ≤ (l - z - p * d % r) / stp r d z s := Int.ediv_nonneg (by omega) (by omega)
    have h5 : (l - z - p * d % r) / stp r d z s * stp r d z s ≤ l - z - p * d % r := Int.ediv_mul_le _ (by omega)
    have h6 : (l - z - p * d % r) / stp r d z s * up (pg r d) z ≤ (l - z - p * d % r) / stp r d z s * stp r d z s := Int.mul_le_mul_of_nonneg_left h1 h4
    have h7 : (l - z - p * d % r) / stp r d z s ≤ (l - z) / up (pg r d) z := (Int.le_ediv_iff_mul_le h2).mpr (by omega)
    omega
  · omega
/-! all places -/
def allC (r d l z n : Int) : Bool := (List.range (min n r).toNat).all fun p => decide (((p : Nat) : Int) * d % r + z ≤ l)
theorem allC_at {r d l z n : Int} (hr : 0 < r) (h : allC r d l z n = true) {p : Int} (h0 : 0 ≤ p) (h1 : p < n) : p * d % r + z ≤ l := by
  unfold allC at h
  rw [List.all_eq_true] at h
  by_cases hp : p < r
  · have := of_decide_eq_true (h p.toNat (List.mem_range.mpr (by omega)))
    have e : ((p.toNat : Nat) : Int) = p := by omega
    rw [e] at this
    exact this
  · have a1 := Int.emod_nonneg p (show r ≠ 0 by omega)
    have a2 := Int.emod_lt_of_pos p hr
    have := of_decide_eq_true (h (p % r).toNat (List.mem_range.mpr (by omega)))
    have e : (((p % r).toNat : Nat) : Int) = p % r := by omega
    rw [e, Int.mul_emod, Int.emod_emod_of_dvd _ (Int.dvd_refl r), ← Int.mul_emod] at this
    exact this
/-- the strips of a line -/
def cnt (s n i : Int) : Int := (n - i + s - 1) / s
theorem cnt_lt {s n i x : Int} (hs : 0 < s) (hx : x < cnt s n i) : i + x * s < n := by
  unfold cnt at hx
  have : x * s + s ≤ n - i + s - 1 := by
    have := (Int.le_ediv_iff_mul_le (a := x + 1) (b := n - i + s - 1) hs).mp (by omega)
    rw [Int.add_mul, Int.one_mul] at this
    exact this
  omega
def rbF (r d l z s n : Int) : Nat → Int
  | 0 => 0
  | i + 1 => rbF r d l z s n i + rl (gl r d l z s (i : Nat)) (cnt s n (i : Nat)) 0
/-- the rolls by turns -/
def rbt (r d l z s n : Int) : Option Int := if allC r d l z n = true then some (rbF r d l z s n (min s n).toNat) else none
def optI : Option Int → PyData
  | none => .none
  | some i => .int i
theorem gl_pos {r d l z s n i : Int} (hr : 0 < r) (hz : 1 ≤ z) (hs : 0 < s) (hi : 0 ≤ i) (h : allC r d l z n = true) : ∀ x, 0 ≤ x → x < cnt s n i → 1 ≤ gl r d l z s i x := fun x h0 h1 =>
  sf_pos hr hz (allC_at hr h (by have := Int.mul_nonneg h0 (show 0 ≤ s by omega); omega) (cnt_lt hs h1))
theorem cnt_bd {s n i : Int} (hs : 0 < s) (hi : 0 ≤ i) (h : i ≤ n) : 0 ≤ cnt s n i ∧ cnt s n i ≤ n := by
  unfold cnt
  refine ⟨Int.ediv_nonneg (by omega) (by omega), ?_⟩
  have : (n - i + s - 1) / s < n + 1 := (Int.ediv_lt_iff_lt_mul hs).mpr (by
    have : n * 1 ≤ n * s := Int.mul_le_mul_of_nonneg_left (by omega) (by omega)
    rw [Int.add_mul]
    omega)
  omega
/-! keys of a dict of phases -/
def keysOk (r : Int) (kvs : List (Key × PyData)) : Prop := (kvs.map (·.1)).Nodup ∧ ∀ p ∈ kvs, ∃ k : Int, p.1 = Sum.inl k ∧ 0 ≤ k ∧ k < r
theorem keysOk_len {r : Int} {kvs : List (Key × PyData)} (h : keysOk r kvs) : kvs.length ≤ r.toNat := by
  obtain ⟨h1, h2⟩ := h
  have hn : (kvs.map fun p => (Sum.elim Int.toNat (fun _ => 0) p.1 : Nat)).Nodup := by
    unfold List.Nodup at h1 ⊢
    rw [List.pairwise_map] at h1 ⊢
    refine List.Pairwise.imp_of_mem (fun {p q} hp hq hne => ?_) h1
    obtain ⟨k, e1, k0, k1⟩ := h2 p hp
    obtain ⟨k', e2, k2, k3⟩ := h2 q hq
    rw [e1, e2] at hne ⊢
    intro hc
    apply hne
    have hc : k.toNat = k'.toNat := hc
    congr 1
    omega
  have := nat_nodup_len _ (List.range r.toNat) hn fun x hx => by
    obtain ⟨p, hp, rfl⟩ := List.mem_map.mp hx
    obtain ⟨k, e1, k0, k1⟩ := h2 p hp
    rw [e1]
    exact List.mem_range.mpr (show k.toNat < r.toNat by omega)
  simpa using this
theorem keysOk_put {r : Int} {kvs : List (Key × PyData)} (h : keysOk r kvs) {k : Int} (k0 : 0 ≤ k) (k1 : k < r) (d : PyData) : keysOk r (ptD kvs (Sum.inl k) d) := by
  obtain ⟨h1, h2⟩ := h
  unfold ptD
  split
  · refine ⟨?_, fun p hp => ?_⟩
    · rw [List.map_map]
      have e : ((fun x : Key × PyData => x.1) ∘ fun kv : Key × PyData => if kv.1 = Sum.inl k then (kv.1, d) else kv) = fun x => x.1 := by
        funext x
        simp only [Function.comp]
        split <;> rfl
      rw [e]
      exact h1
    · obtain ⟨q, hq, rfl⟩ := List.mem_map.mp hp
      split
      · exact h2 q hq
      · exact h2 q hq
  · rename_i hn
    refine ⟨?_, fun p hp => ?_⟩
    · rw [List.map_append, List.nodup_append]
      refine ⟨h1, by simp, fun x hx y hy => ?_⟩
      simp at hy
      subst hy
      obtain ⟨p, hp, rfl⟩ := List.mem_map.mp hx
      intro e
      apply hn
      unfold gtD
      rw [Option.isSome_map, List.find?_isSome]
      exact ⟨p, hp, decide_eq_true e⟩
    · rcases List.mem_append.mp hp with hp | hp
      · exact h2 p hp
      · simp at hp
        subst hp
        exact ⟨k, rfl, k0, k1⟩

-- NEEDS turns
theorem cnt_eq {s n i : Int} (hs : 0 < s) (hi : 0 ≤ i) (h : i < s) : cnt s n i = n / s + (if i < n % s then 1 else 0) := by
  have e := Int.emod_add_mul_ediv n s
  have t0 := Int.emod_nonneg n (show s ≠ 0 by omega)
  have t1 := Int.emod_lt_of_pos n hs
  unfold cnt
  have e1 : n - i + s - 1 = (n % s - i + s - 1) + (n / s) * s := by rw [Int.mul_comm (n / s) s]; omega
  rw [e1, Int.add_mul_ediv_right _ _ (by omega)]
  by_cases q : i < n % s
  · rw [if_pos q]
    have e2 : (n % s - i + s - 1) / s = 1 := by
      have a1 : 1 ≤ (n % s - i + s - 1) / s := (Int.le_ediv_iff_mul_le hs).mpr (by omega)
      have a2 : (n % s - i + s - 1) / s < 2 := (Int.ediv_lt_iff_lt_mul hs).mpr (by omega)
      omega
    omega
  · rw [if_neg q]
    have e2 : (n % s - i + s - 1) / s = 0 := by
      have a1 : 0 ≤ (n % s - i + s - 1) / s := (Int.le_ediv_iff_mul_le hs).mpr (by omega)
      have a2 : (n % s - i + s - 1) / s < 1 := (Int.ediv_lt_iff_lt_mul hs).mpr (by omega)
      omega
    omega
def sumC (s n : Int) : Nat → Int
  | 0 => 0
  | k + 1 => sumC s n k + cnt s n (k : Nat)
theorem sumC_eq {s n : Int} (hs : 0 < s) : ∀ k : Nat, (k : Int) ≤ s → sumC s n k = k * (n / s) + min (k : Int) (n % s)
  | 0, _ => by
    have t0 := Int.emod_nonneg n (show s ≠ 0 by omega)
    simp [sumC]
    omega
  | k + 1, h => by
    rw [sumC, sumC_eq hs k (by omega), cnt_eq hs (by omega) (by omega)]
    have e : ((k + 1 : Nat) : Int) * (n / s) = k * (n / s) + n / s := by rw [Int.natCast_add, Int.add_mul]; simp
    rw [e]
    split <;> omega
theorem sumC_all {s n : Int} (hs : 0 < s) (hn : 0 ≤ n) : sumC s n (min s n).toNat = n := by
  have e := Int.emod_add_mul_ediv n s
  have t0 := Int.emod_nonneg n (show s ≠ 0 by omega)
  have t1 := Int.emod_lt_of_pos n hs
  rw [sumC_eq hs _ (by omega)]
  have ec : (((min s n).toNat : Nat) : Int) = min s n := by omega
  rw [ec]
  by_cases h : s ≤ n
  · rw [Int.min_eq_left h]
    omega
  · have h1 : n / s = 0 := Int.ediv_eq_zero_of_lt hn (by omega)
    have h2 : n % s = n := Int.emod_eq_of_lt hn (by omega)
    rw [h1, h2]
    omega
theorem rbF_le {r d l z s n : Int} (hr : 0 < r) (hz : 1 ≤ z) (hs : 0 < s) (h : allC r d l z n = true) : ∀ k : Nat, (k : Int) ≤ min s n → rbF r d l z s n k ≤ sumC s n k
  | 0, _ => Int.le_refl _
  | k + 1, hk => by
    have h1 := rbF_le hr hz hs h k (by omega)
    have hb := cnt_bd (s := s) (n := n) (i := (k : Nat)) hs (by omega) (by omega)
    have h2 := rl_le (gl_pos (i := (k : Nat)) hr hz hs (by omega) h) _ 0 (Int.le_refl _) hb.1 rfl
    rw [rbF, sumC]
    omega
theorem rbF_ge {r d l z s n : Int} (hr : 0 < r) (hd : 0 ≤ d) (hz : 1 ≤ z) (hl : z ≤ l) (hs : 0 < s) (h : allC r d l z n = true) : ∀ k : Nat, (k : Int) ≤ min s n → sumC s n k ≤ rbF r d l z s n k * most (pg r d) l z
  | 0, _ => by simp [sumC, rbF]
  | k + 1, hk => by
    have h1 := rbF_ge hr hd hz hl hs h k (by omega)
    have hm := most_le (g := pg r d) (up_pos (pg_pos (d := d) (by omega)) hz) hl (by omega)
    have h2 := rl_ge (M := most (pg r d) l z) (gl_pos (i := (k : Nat)) hr hz hs (by omega) h) (fun x _ _ => sf_le hr hd hz hl) (by omega) _ 0 (Int.le_refl _) rfl
    rw [rbF, sumC, Int.add_mul]
    omega
theorem rl_const {g : Int → Int} {c M : Int} (hM : 1 ≤ M) (hg : ∀ x, 0 ≤ x → x < c → g x = M) : ∀ (n : Nat) (x : Int), 0 ≤ x → x ≤ c + M - 1 → (c - x).toNat = n → rl g c x = (c - x + M - 1) / M := by
  intro n
  induction n using Nat.strongRecOn with
  | _ n ih =>
    intro x h0 h1 hn
    by_cases h : x < c
    · rw [rl_step (fun x a b => by rw [hg x a b]; exact hM) h0 h, hg x h0 h]
      rw [ih (c - (x + M)).toNat (by omega) (x + M) (by omega) (by omega) rfl]
      have e : c - x + M - 1 = (c - (x + M) + M - 1) + 1 * M := by omega
      rw [e, Int.add_mul_ediv_right _ _ (by omega)]
      omega
    · rw [rl_end (by omega)]
      have e : (c - x + M - 1) / M = 0 := Int.ediv_eq_zero_of_lt (by omega) (by omega)
      omega
/-- the places up to i all can be cut -/
def allP (r d l z : Int) (i : Nat) : Bool := (List.range i).all fun p => decide (((p : Nat) : Int) * d % r + z ≤ l)
theorem allP_succ {r d l z : Int} {i : Nat} : allP r d l z (i + 1) = (allP r d l z i && decide (((i : Nat) : Int) * d % r + z ≤ l)) := by
  unfold allP
  rw [List.range_succ, List.all_append]
  simp

-- NEEDS sim
/-! arbitrary plain data: depth at most n, lists and texts no longer than L -/
def An : Nat → Nat → PyData → Prop
  | _, _, .none => True
  | _, _, .bool _ => True
  | _, _, .int _ => True
  | _, L, .str x => x.length ≤ L ∧ PyData.strOk x = true
  | n + 1, L, .list ds => ds.length ≤ L ∧ ∀ d ∈ ds, An n L d
  | n + 1, L, .tuple ds => ds.length ≤ L ∧ ∀ d ∈ ds, An n L d
  | 0, _, .list _ => False
  | 0, _, .tuple _ => False
  | _, _, .dict _ => False
theorem an_int {n L : Nat} {i : Int} : An n L (.int i) := by cases n <;> trivial
theorem an_bool {n L : Nat} {i : Bool} : An n L (.bool i) := by cases n <;> trivial
theorem an_none {n L : Nat} : An n L .none := by cases n <;> trivial
theorem an_str {n L : Nat} {x : Str} : An n L (.str x) ↔ (x.length ≤ L ∧ PyData.strOk x = true) := by cases n <;> exact Iff.rfl
theorem An.up : ∀ {n m L M : Nat} {d : PyData}, An n L d → n ≤ m → L ≤ M → An m M d
  | n, m, L, M, .none, _, _, _ => an_none
  | n, m, L, M, .bool _, _, _, _ => an_bool
  | n, m, L, M, .int _, _, _, _ => an_int
  | n, m, L, M, .str x, h, _, h2 => an_str.mpr ⟨Nat.le_trans (an_str.mp h).1 h2, (an_str.mp h).2⟩
  | n + 1, m + 1, L, M, .list ds, h, h1, h2 => ⟨Nat.le_trans h.1 h2, fun d hd => (h.2 d hd).up (by omega) h2⟩
  | n + 1, m + 1, L, M, .tuple ds, h, h1, h2 => ⟨Nat.le_trans h.1 h2, fun d hd => (h.2 d hd).up (by omega) h2⟩
  | n + 1, 0, L, M, .list ds, _, h1, _ => by omega
  | n + 1, 0, L, M, .tuple ds, _, h1, _ => by omega
  | 0, _, _, _, .list _, h, _, _ => h.elim
  | 0, _, _, _, .tuple _, h, _, _ => h.elim
  | n, _, _, _, .dict _, h, _, _ => by cases n <;> exact h.elim
theorem an_dict {n L : Nat} {x} (h : An n L (.dict x)) : False := by cases n <;> exact h
theorem An.sim {L : Nat} (hL : L ≤ 1000000) : ∀ {n : Nat} {d : PyData}, An n L d → Sim n d
  | n, .none, _ => sim_none
  | n, .bool _, _ => sim_bool
  | n, .int _, _ => sim_int
  | n, .str x, h => by
    have h2 := (an_str.mp h).2
    cases n <;> exact h2
  | n + 1, .list ds, h => ⟨Nat.le_trans h.1 hL, fun d hd => An.sim hL (h.2 d hd)⟩
  | n + 1, .tuple ds, h => ⟨Nat.le_trans h.1 hL, fun d hd => An.sim hL (h.2 d hd)⟩
  | 0, .list _, h => h.elim
  | 0, .tuple _, h => h.elim
  | n, .dict _, h => by cases n <;> exact h.elim
theorem ok_app {a b : Str} (ha : PyData.strOk a = true) (hb : PyData.strOk b = true) : PyData.strOk (a ++ b) = true := by
  show (a.cps ++ b.cps).all (· < 0x110000) = true
  rw [Array.all_append, Bool.and_eq_true]
  exact ⟨ha, hb⟩
theorem ok_cut {z : Str} (lo hi : Option Int) (hz : PyData.strOk z = true) : PyData.strOk (cutS z lo hi) = true := by
  have hz : z.cps.all (· < 0x110000) = true := hz
  rw [← Array.all_toList] at hz
  show (((z.cps.toList.drop (HT.sIx z.length 0 lo)).take (HT.sIx z.length z.length hi - HT.sIx z.length 0 lo)).toArray).all (· < 0x110000) = true
  rw [← Array.all_toList]
  rw [List.all_eq_true] at hz ⊢
  intro x hx
  exact hz x (List.mem_of_mem_drop (List.mem_of_mem_take (by simpa using hx)))

-- NEEDS most
-- NEEDS within
-- NEEDS anyd
/-! the end of strips cut one behind another -/
def endZ (r d z : Int) : Int → List Int → Int
  | f, [] => f
  | f, p :: ps => endZ r d z (nxt r d f p + z) ps
theorem endZ_ge {r d z : Int} (hr : 0 < r) (hz : 0 ≤ z) : ∀ (f : Int) (ps : List Int), f ≤ endZ r d z f ps
  | f, [] => Int.le_refl _
  | f, p :: ps => by
    have h1 := endZ_ge (d := d) hr hz (nxt r d f p + z) ps
    have h2 := (nxt_spec (d := d) (f := f) (n := p) hr).1
    rw [endZ]
    omega
theorem bgs_end {r d l z : Int} (hr : 0 < r) (hz : 0 ≤ z) : ∀ (f : Int) (acc ps : List Int), f ≤ l → (bgs r d l z f acc ps).isNone = decide (l < endZ r d z f ps)
  | f, acc, [], h => by
    rw [bgs, endZ, decide_eq_false (by omega)]
    rfl
  | f, acc, p :: ps, h => by
    rw [bgs, endZ]
    by_cases q : l < nxt r d f p + z
    · rw [if_pos q]
      have := endZ_ge (d := d) hr hz (nxt r d f p + z) ps
      rw [decide_eq_true (by omega)]
      rfl
    · rw [if_neg q]
      exact bgs_end hr hz _ _ _ (by omega)
/-! plans -/
def rollB (r d l z n : Int) : PyData → Option (List Int)
  | .tuple ds => if ds = [] then none else if ds.all (fun x => within x 0 (n - 1)) = true then (if l < endZ r d z 0 (ds.map valI) then none else some (ds.map valI)) else none
  | _ => none
theorem rollB_t {r d l z n : Int} {ds : List PyData} : rollB r d l z n (.tuple ds) = (if ds = [] then none else if ds.all (fun x => within x 0 (n - 1)) = true then (if l < endZ r d z 0 (ds.map valI) then none else some (ds.map valI)) else none) := rfl
def seenA (r d l z n : Int) : List Int → List PyData → Option (List Int)
  | acc, [] => some acc
  | acc, x :: xs => match rollB r d l z n x with
    | none => none
    | some ps => seenA r d l z n (acc ++ ps) xs
def rngI (n : Nat) : List Int := (List.range n).map fun i => 0 + ((i : Nat) : Int)
theorem rngI_D (n : Nat) : rngD 0 n = (rngI n).map PyData.int := by
  unfold rngD rngI
  rw [List.map_map]
  rfl
theorem rngI_inc (n : Nat) : (rngI n).Pairwise (· ≤ ·) := by
  unfold rngI
  rw [List.pairwise_map]
  exact List.Pairwise.imp (fun {a b} h => by omega) List.pairwise_lt_range
def planB (r d l z n : Int) : PyData → Bool
  | .tuple rs => match seenA r d l z n [] rs with
    | none => false
    | some ns => decide (ns.Perm (rngI n.toNat))
  | _ => false
theorem planB_t {r d l z n : Int} {rs : List PyData} : planB r d l z n (.tuple rs) = (match seenA r d l z n [] rs with | none => false | some ns => decide (ns.Perm (rngI n.toNat))) := rfl
theorem sorted_is {ms ns : List Int} {n : Nat} (h1 : ms.Perm ns) (h2 : ms.Pairwise (· ≤ ·)) : decide (ms = rngI n) = decide (ns.Perm (rngI n)) := by
  by_cases h : ms = rngI n
  · rw [decide_eq_true h, decide_eq_true]
    rw [← h]
    exact h1.symm
  · rw [decide_eq_false h, decide_eq_false]
    intro q
    apply h
    exact (h1.trans q).eq_of_pairwise (fun x y _ _ a b => by omega) h2 (rngI_inc n)
theorem within_int {ds : List PyData} {lo hi : Int} (h : ds.all (fun x => within x lo hi) = true) : ds = (ds.map valI).map PyData.int := by
  rw [List.map_map]
  rw [List.all_eq_true] at h
  conv => lhs; rw [← List.map_id ds]
  refine List.map_congr_left fun d hd => ?_
  have := h d hd
  cases d <;> first | rfl | cases this
theorem rollB_len {r d l z n : Int} {x : PyData} {ps : List Int} {m L : Nat} (h : rollB r d l z n x = some ps) (ha : An m L x) : ps.length ≤ L := by
  cases x with
  | tuple ds =>
    have hl : ds.length ≤ L := by
      cases m with
      | zero => exact ha.elim
      | succ m => exact ha.1
    have h : (if ds = [] then none else if ds.all (fun x => within x 0 (n - 1)) = true then (if l < endZ r d z 0 (ds.map valI) then none else some (ds.map valI)) else none) = some ps := h
    split at h
    · cases h
    · split at h
      · split at h
        · cases h
        · cases h
          rw [List.length_map]
          exact hl
      · cases h
  | none => cases h
  | bool _ => cases h
  | int _ => cases h
  | str _ => cases h
  | list _ => cases h
  | dict _ => cases h
theorem eqv_nilTD {ds : List PyData} : PyData.eqv (.tuple ds) (.tuple []) = decide (ds = []) := by
  cases ds <;> simp [PyData.eqv, PyData.eqvAll]

-- NEEDS layout
-- NEEDS counts
-- NEEDS plans
/-! rolls by turns, strip by strip: how many, and where each strip begins -/
def bgz (r d z : Int) : Int → List Int → List Int
  | _, [] => []
  | f, p :: ps => nxt r d f p :: bgz r d z (nxt r d f p + z) ps
theorem bgs_z {r d l z : Int} (hr : 0 < r) (hz : 0 ≤ z) : ∀ (f : Int) (acc ps : List Int), f ≤ l → bgs r d l z f acc ps = if l < endZ r d z f ps then none else some (acc ++ bgz r d z f ps)
  | f, acc, [], h => by
    rw [bgs, endZ, if_neg (by omega), bgz, List.append_nil]
  | f, acc, p :: ps, h => by
    rw [bgs, endZ, bgz]
    by_cases q : l < nxt r d f p + z
    · have := endZ_ge (d := d) hr hz (nxt r d f p + z) ps
      rw [if_pos q, if_pos (by omega)]
    · rw [if_neg q, bgs_z hr hz _ _ _ (by omega), List.append_assoc]
      rfl
theorem endZ_app {r d z : Int} : ∀ (f : Int) (ps qs : List Int), endZ r d z f (ps ++ qs) = endZ r d z (endZ r d z f ps) qs
  | f, [], qs => rfl
  | f, p :: ps, qs => by
    rw [List.cons_append, endZ, endZ]
    exact endZ_app _ ps qs
theorem bgz_app {r d z : Int} : ∀ (f : Int) (ps qs : List Int), bgz r d z f (ps ++ qs) = bgz r d z f ps ++ bgz r d z (endZ r d z f ps) qs
  | f, [], qs => rfl
  | f, p :: ps, qs => by
    rw [List.cons_append, bgz, bgz, endZ, bgz_app _ ps qs]
    rfl
theorem bgz_len {r d z : Int} : ∀ (f : Int) (ps : List Int), (bgz r d z f ps).length = ps.length
  | f, [] => rfl
  | f, p :: ps => by
    rw [bgz, List.length_cons, List.length_cons, bgz_len _ ps]
def rowZ (r d z : Int) (ro : List Int) : List (Int × Int) := ro.zip (bgz r d z 0 ro)
theorem rowZ_snoc {r d z p : Int} {ro : List Int} : rowZ r d z (ro ++ [p]) = rowZ r d z ro ++ [(p, nxt r d (endZ r d z 0 ro) p)] := by
  unfold rowZ
  rw [bgz_app, List.zip_append (by rw [bgz_len])]
  rfl
theorem isNone_z {r d l z p : Int} {ro : List Int} (hr : 0 < r) (hz : 0 ≤ z) (hl : 0 ≤ l) : ((bgs r d l z 0 [] (ro ++ [p])).isNone = true) ↔ l < nxt r d (endZ r d z 0 ro) p + z := by
  rw [bgs_end hr hz 0 [] (ro ++ [p]) hl, endZ_app]
  exact decide_eq_true_iff
theorem line_lay {r d l z : Int} (hr : 0 < r) (hz : 0 ≤ z) (hl : 0 ≤ l) : ∀ (ps : List Int) (rs : List (List Int)) (ro : List Int) (rs' : List (List Int)) (ro' : List Int), endZ r d z 0 ro ≤ l → (∀ q ∈ rs, endZ r d z 0 q ≤ l) → lineT r d l z ps (rs, ro) = some (rs', ro') →
    layL r d l z ps (rs.map (rowZ r d z)) (rowZ r d z ro) (endZ r d z 0 ro) = (rs'.map (rowZ r d z), rowZ r d z ro') ∧ endZ r d z 0 ro' ≤ l ∧ ∀ q ∈ rs', endZ r d z 0 q ≤ l
  | [], rs, ro, rs', ro', h1, h2, h => by
    rw [lineT] at h
    cases h
    exact ⟨rfl, h1, h2⟩
  | p :: ps, rs, ro, rs', ro', h1, h2, h => by
    rw [lineT] at h
    by_cases q : l < p * d % r + z
    · rw [if_pos q] at h
      cases h
    rw [if_neg q] at h
    rw [layL]
    by_cases t : l < nxt r d (endZ r d z 0 ro) p + z
    · rw [if_pos ((isNone_z hr hz hl).mpr t)] at h
      rw [if_pos t]
      have e1 : rowZ r d z [p] = [(p, p * d % r)] := by
        show [(p, nxt r d 0 p)] = _
        rw [nxt_zero]
      have e2 : endZ r d z 0 [p] = p * d % r + z := by
        show nxt r d 0 p + z = _
        rw [nxt_zero]
      have := line_lay hr hz hl ps (rs ++ [ro]) [p] rs' ro' (by omega) (fun q hq => by
        rcases List.mem_append.mp hq with hq | hq
        · exact h2 q hq
        · simp at hq
          rw [hq]
          exact h1) h
      rw [e1, e2, List.map_append] at this
      exact this
    · rw [if_neg (fun x => t ((isNone_z hr hz hl).mp x))] at h
      rw [if_neg t]
      have e2 : endZ r d z 0 (ro ++ [p]) = nxt r d (endZ r d z 0 ro) p + z := by rw [endZ_app]; rfl
      have := line_lay hr hz hl ps rs (ro ++ [p]) rs' ro' (by omega) h2 h
      rw [rowZ_snoc, e2] at this
      exact this
theorem turn_lay {r d l z s n : Int} (hr : 0 < r) (hz : 0 ≤ z) (hl : 0 ≤ l) : ∀ (is : List Int) (rs rs' : List (List Int)), (∀ q ∈ rs, endZ r d z 0 q ≤ l) → turnA r d l z s n is rs = some rs' → layA r d l z s n is (rs.map (rowZ r d z)) = rs'.map (rowZ r d z) ∧ ∀ q ∈ rs', endZ r d z 0 q ≤ l
  | [], rs, rs', h1, h => by
    rw [turnA] at h
    cases h
    exact ⟨rfl, h1⟩
  | i :: is, rs, rs', h1, h => by
    rw [turnA] at h
    cases q : lineT r d l z (plc s n i) (rs, []) with
    | none =>
      rw [q] at h
      cases h
    | some st =>
      obtain ⟨ra, ro⟩ := st
      rw [q] at h
      obtain ⟨e1, e2, e3⟩ := line_lay hr hz hl _ rs [] ra ro (show endZ r d z 0 [] ≤ l from hl) h1 q
      have e1 : layL r d l z (plc s n i) (rs.map (rowZ r d z)) [] 0 = (ra.map (rowZ r d z), rowZ r d z ro) := e1
      rw [layA, e1]
      have := turn_lay hr hz hl is (ra ++ [ro]) rs' (fun q hq => by
        rcases List.mem_append.mp hq with hq | hq
        · exact e3 q hq
        · simp at hq
          rw [hq]
          exact e2) h
      rw [List.map_append] at this
      exact this
theorem turned_lay {r d l z s n : Int} {rs : List (List Int)} (hr : 0 < r) (hz : 0 ≤ z) (hl : 0 ≤ l) (h : turned r d l z s n = some rs) : lay r d l z s n = rs.map (rowZ r d z) ∧ ∀ q ∈ rs, endZ r d z 0 q ≤ l :=
  turn_lay hr hz hl _ [] rs (fun q hq => by cases hq) h
/-! how many -/
theorem nxt_step {r d z s q k : Int} : nxt r d (q * d % r + k * stp r d z s + z) (q + (k + 1) * s) = q * d % r + (k + 1) * stp r d z s := by
  have e0 : stp r d z s = z + (s * d - z) % r := rfl
  have e1 := Int.emod_add_mul_ediv (s * d - z) r
  have e2 := Int.emod_add_mul_ediv (q * d) r
  unfold nxt
  have e3 : (q + (k + 1) * s) * d - (q * d % r + k * stp r d z s + z) = (s * d - z) + r * (q * d / r + k * ((s * d - z) / r)) := by
    have a1 : stp r d z s = s * d - r * ((s * d - z) / r) := by omega
    have a2 : q * d % r = q * d - r * (q * d / r) := by omega
    rw [a1, a2, Int.add_mul, Int.add_mul, Int.add_mul, Int.one_mul, Int.mul_add, Int.mul_sub]
    have a3 : k * (r * ((s * d - z) / r)) = r * (k * ((s * d - z) / r)) := by rw [← Int.mul_assoc, Int.mul_comm k r, Int.mul_assoc]
    have a4 : k * s * d = k * (s * d) := Int.mul_assoc _ _ _
    omega
  rw [e3, Int.add_mul_emod_self_left]
  rw [Int.add_mul k 1, Int.one_mul]
  omega
/-- so many places, from p on, in steps of s -/
def plp (p s : Int) (k : Nat) : List Int := (List.range k).map fun j => p + ((j : Nat) : Int) * s
theorem plp_succ {p s : Int} {k : Nat} : plp p s (k + 1) = plp p s k ++ [p + (k : Int) * s] := by
  unfold plp
  rw [List.range_succ, List.map_append]
  rfl
theorem plp_end {r d z p s : Int} : ∀ k : Nat, endZ r d z 0 (plp p s (k + 1)) = p * d % r + (k : Int) * stp r d z s + z
  | 0 => by
    show nxt r d 0 (p + ((0 : Nat) : Int) * s) + z = _
    have e : p + ((0 : Nat) : Int) * s = p := by simp
    rw [e, nxt_zero]
    simp
  | k + 1 => by
    rw [plp_succ, endZ_app, plp_end k]
    show nxt r d _ (p + ((k + 1 : Nat) : Int) * s) + z = _
    have e : ((k + 1 : Nat) : Int) = (k : Int) + 1 := by omega
    rw [e, nxt_step]
theorem sf_iff {r d l z s p : Int} (hr : 0 < r) (hz : 1 ≤ z) (hp : p * d % r + z ≤ l) (k : Int) : k < sf r d l z s p ↔ p * d % r + k * stp r d z s + z ≤ l := by
  unfold sf
  rw [if_pos hp]
  have h1 := stp_ge (d := d) (z := z) (s := s) hr
  have := Int.le_ediv_iff_mul_le (a := k) (b := l - z - p * d % r) (show 0 < stp r d z s by omega)
  constructor
  · intro h
    have := this.mp (by omega)
    omega
  · intro h
    have := this.mpr (by omega)
    omega
theorem rgN_cnt {s n i : Int} (hs : 0 < s) : ((rgN i n s : Nat) : Int) = if i < n then cnt s n i else 0 := by
  unfold rgN cnt
  by_cases h : i < n
  · rw [if_pos h, if_pos h]
    have e : n - i + s - 1 = (n - i - 1) + 1 * s := by omega
    rw [e, Int.add_mul_ediv_right _ _ (by omega)]
    have := Int.ediv_nonneg (a := n - i - 1) (b := s) (by omega) (by omega)
    omega
  · rw [if_neg h, if_neg h]
    rfl
theorem lineT_cnt {r d l z s n i : Int} (hr : 0 < r) (hz : 1 ≤ z) (hl : 0 ≤ l) (hs : 0 < s) (hfit : ∀ x : Int, 0 ≤ x → x < (rgN i n s : Nat) → (i + x * s) * d % r + z ≤ l) : ∀ (m x a : Nat) (rs : List (List Int)) (ro : List Int), rgN i n s - x = m → x ≤ rgN i n s → a < x → ((x : Int) - a ≤ gl r d l z s i a) → endZ r d z 0 ro = (i + (a : Int) * s) * d % r + ((x : Int) - a - 1) * stp r d z s + z →
    ∃ rs' ro', lineT r d l z ((plc s n i).drop x) (rs, ro) = some (rs', ro') ∧ (rs'.length : Int) + 1 = rs.length + rl (gl r d l z s i) (rgN i n s : Nat) a := by
  have hg : ∀ x, 0 ≤ x → x < ((rgN i n s : Nat) : Int) → 1 ≤ gl r d l z s i x := fun x h0 h1 => sf_pos hr hz (hfit x h0 h1)
  intro m
  induction m with
  | zero =>
    intro x a rs ro hm hx ha h1 h2
    have e : (plc s n i).drop x = [] := List.drop_eq_nil_of_le (by rw [plc_len]; omega)
    rw [e, lineT]
    refine ⟨rs, ro, rfl, ?_⟩
    rw [rl_step hg (by omega) (by omega), rl_end (by omega)]
    omega
  | succ m ih =>
    intro x a rs ro hm hx ha h1 h2
    have hlt : x < (plc s n i).length := by rw [plc_len]; omega
    have e : (plc s n i).drop x = (i + (x : Int) * s) :: (plc s n i).drop (x + 1) := by
      rw [List.drop_eq_getElem_cons hlt]
      congr 1
      simp [plc]
    have hf := hfit x (by omega) (by omega)
    have hfa := hfit a (by omega) (by omega)
    rw [e, lineT, if_neg (by omega)]
    have en : nxt r d (endZ r d z 0 ro) (i + (x : Int) * s) = (i + (a : Int) * s) * d % r + ((x : Int) - a) * stp r d z s := by
      have := nxt_step (r := r) (d := d) (z := z) (s := s) (q := i + (a : Int) * s) (k := (x : Int) - a - 1)
      have c1 : (x : Int) - a - 1 + 1 = x - a := by omega
      have c2 : i + (a : Int) * s + ((x : Int) - a) * s = i + x * s := by rw [Int.sub_mul]; omega
      rw [c1, c2] at this
      rw [h2, this]
    have hsf := sf_iff (s := s) hr hz hfa ((x : Int) - a)
    by_cases t : (x : Int) - a < gl r d l z s i a
    · have t2 := hsf.mp t
      rw [if_neg (fun y => by
        have := (isNone_z hr (by omega) hl).mp y
        rw [en] at this
        omega)]
      refine ih (x + 1) a rs (ro ++ [i + (x : Int) * s]) (by omega) (by omega) (by omega) (by omega) ?_
      rw [endZ_app]
      show nxt r d (endZ r d z 0 ro) (i + (x : Int) * s) + z = _
      rw [en]
      have c1 : ((x + 1 : Nat) : Int) - a - 1 = x - a := by omega
      rw [c1]
    · have t2 : ¬ ((i + (a : Int) * s) * d % r + ((x : Int) - a) * stp r d z s + z ≤ l) := fun y => t (hsf.mpr y)
      rw [if_pos ((isNone_z hr (by omega) hl).mpr (by rw [en]; omega))]
      have eg : (x : Int) = a + gl r d l z s i a := by omega
      obtain ⟨rs', ro', q1, q2⟩ := ih (x + 1) x (rs ++ [ro]) [i + (x : Int) * s] (by omega) (by omega) (by omega) (by
        have := hg x (by omega) (by omega)
        omega) (by
        show nxt r d 0 (i + (x : Int) * s) + z = _
        rw [nxt_zero]
        have c1 : ((x + 1 : Nat) : Int) - x - 1 = 0 := by omega
        rw [c1]
        omega)
      refine ⟨rs', ro', q1, ?_⟩
      rw [q2, List.length_append, rl_step hg (x := a) (by omega) (by omega), ← eg]
      simp
      omega
theorem lineT_all {r d l z s n i : Int} (hr : 0 < r) (hz : 1 ≤ z) (hl : 0 ≤ l) (hs : 0 < s) (hin : i < n) (hfit : ∀ x : Int, 0 ≤ x → x < cnt s n i → (i + x * s) * d % r + z ≤ l) (rs : List (List Int)) :
    ∃ rs' ro', lineT r d l z (plc s n i) (rs, []) = some (rs', ro') ∧ (rs'.length : Int) + 1 = rs.length + rl (gl r d l z s i) (cnt s n i) 0 := by
  have ec := rgN_cnt (n := n) (i := i) hs
  rw [if_pos hin] at ec
  have hc1 : 1 ≤ cnt s n i := by
    unfold cnt
    exact (Int.le_ediv_iff_mul_le hs).mpr (by omega)
  have hfit' : ∀ x : Int, 0 ≤ x → x < (rgN i n s : Nat) → (i + x * s) * d % r + z ≤ l := fun x h0 h1 => hfit x h0 (by omega)
  have hlt : 0 < (plc s n i).length := by rw [plc_len]; omega
  have e : plc s n i = i :: (plc s n i).drop 1 := by
    have := List.drop_eq_getElem_cons hlt
    rw [List.drop_zero] at this
    rw [this]
    congr 1
    simp [plc]
  have h0 := hfit 0 (by omega) (by omega)
  have e0 : i + 0 * s = i := by omega
  rw [e0] at h0
  obtain ⟨rs', ro', q1, q2⟩ := lineT_cnt hr hz hl hs hfit' _ 1 0 rs [i] rfl (by omega) (by omega) (by
    have := sf_pos (s := s) hr hz h0
    unfold gl
    have e1 : i + ((0 : Nat) : Int) * s = i := by omega
    rw [e1]
    omega) (by
    show nxt r d 0 i + z = _
    have e1 : i + ((0 : Nat) : Int) * s = i := by omega
    rw [nxt_zero, e1]
    omega)
  refine ⟨rs', ro', ?_, ?_⟩
  · rw [e, lineT, if_neg (by omega), if_neg (fun y => by
      have := (isNone_z (ro := []) hr (by omega) hl).mp y
      have this : l < nxt r d 0 i + z := this
      rw [nxt_zero] at this
      omega)]
    exact q1
  · rw [q2, ec]
    rfl
theorem lineT_fit {r d l z : Int} : ∀ (ps : List Int) (rs : List (List Int)) (ro : List Int), lineT r d l z ps (rs, ro) ≠ none → ∀ p ∈ ps, p * d % r + z ≤ l
  | [], _, _, _, p, hp => by cases hp
  | q :: ps, rs, ro, h, p, hp => by
    rw [lineT] at h
    by_cases hq : l < q * d % r + z
    · rw [if_pos hq] at h
      exact absurd rfl h
    rw [if_neg hq] at h
    rcases List.mem_cons.mp hp with hp | hp
    · rw [hp]
      omega
    · split at h
      · exact lineT_fit ps _ _ h p hp
      · exact lineT_fit ps _ _ h p hp
theorem turnA_fit {r d l z s n : Int} : ∀ (is : List Int) (rs : List (List Int)), turnA r d l z s n is rs ≠ none → ∀ i ∈ is, ∀ p ∈ plc s n i, p * d % r + z ≤ l
  | [], _, _, i, hi => by cases hi
  | j :: is, rs, h, i, hi => by
    rw [turnA] at h
    cases q : lineT r d l z (plc s n j) (rs, []) with
    | none =>
      rw [q] at h
      exact absurd rfl h
    | some st =>
      rw [q] at h
      rcases List.mem_cons.mp hi with hi | hi
      · rw [hi]
        exact lineT_fit _ _ _ (by rw [q]; simp)
      · exact turnA_fit is _ h i hi
theorem turnA_cnt {r d l z s n : Int} (hr : 0 < r) (hz : 1 ≤ z) (hl : 0 ≤ l) (hs : 0 < s) (h : allC r d l z n = true) : ∀ (m i : Nat) (rs : List (List Int)), (min s n).toNat - i = m → i ≤ (min s n).toNat → (rs.length : Int) = rbF r d l z s n i →
    ∃ rs', turnA r d l z s n ((linesI (min s n).toNat).drop i) rs = some rs' ∧ (rs'.length : Int) = rbF r d l z s n (min s n).toNat := by
  intro m
  induction m with
  | zero =>
    intro i rs hm hi hrs
    have e : (linesI (min s n).toNat).drop i = [] := List.drop_eq_nil_of_le (by rw [linesI_len]; omega)
    have ei : i = (min s n).toNat := by omega
    rw [e, turnA]
    exact ⟨rs, rfl, by rw [← ei]; exact hrs⟩
  | succ m ih =>
    intro i rs hm hi hrs
    have ed : (linesI (min s n).toNat).drop i = ((i : Nat) : Int) :: (linesI (min s n).toNat).drop (i + 1) := by
      rw [List.drop_eq_getElem_cons (by rw [linesI_len]; omega)]
      congr 1
      exact (List.getElem?_eq_some_iff.mp (linesI_at (by omega))).2
    obtain ⟨rs', ro', q1, q2⟩ := lineT_all (d := d) (n := n) (i := (i : Nat)) hr hz hl hs (by omega) (fun x h0 h1 => allC_at hr h (by
      have := Int.mul_nonneg h0 (show 0 ≤ s by omega)
      omega) (cnt_lt hs h1)) rs
    rw [ed, turnA, q1]
    refine ih (i + 1) (rs' ++ [ro']) (by omega) (by omega) ?_
    rw [List.length_append, rbF]
    simp
    omega
theorem allC_mem {r d l z n : Int} (h : ∀ p : Int, 0 ≤ p → p < n → p * d % r + z ≤ l) : allC r d l z n = true := by
  unfold allC
  rw [List.all_eq_true]
  intro p hp
  have := List.mem_range.mp hp
  exact decide_eq_true (h p (by omega) (by omega))
/-- the rolls by turns, and None where there are none -/
theorem turned_rbt {r d l z s n : Int} (hr : 0 < r) (hz : 1 ≤ z) (hl : 0 ≤ l) (hs : 0 < s) (hn : 0 ≤ n) : match turned r d l z s n with
    | none => rbt r d l z s n = none
    | some rs => rbt r d l z s n = some (rs.length : Int) := by
  by_cases h : allC r d l z n = true
  · obtain ⟨rs', q1, q2⟩ := turnA_cnt hr hz hl hs h _ 0 [] rfl (by omega) rfl
    have q1 : turned r d l z s n = some rs' := q1
    rw [q1]
    show rbt r d l z s n = _
    unfold rbt
    rw [if_pos h, q2]
  · have e : rbt r d l z s n = none := by
      unfold rbt
      rw [if_neg h]
    cases q : turned r d l z s n with
    | none => exact e
    | some rs =>
      refine absurd (allC_mem fun p h0 h1 => ?_) h
      have t0 := Int.emod_nonneg p (show s ≠ 0 by omega)
      have t1 := Int.emod_lt_of_pos p hs
      have t2 := Int.emod_add_mul_ediv p s
      have t3 := Int.ediv_nonneg h0 (show 0 ≤ s by omega)
      have t4 : 0 ≤ s * (p / s) := Int.mul_nonneg (by omega) t3
      refine turnA_fit _ [] (by show turned r d l z s n ≠ none; rw [q]; simp) (p % s) ?_ p ?_
      · refine List.mem_of_getElem? (i := (p % s).toNat) ?_
        rw [linesI_at (by omega)]
        congr 1
        omega
      · have ec := rgN_cnt (n := n) (i := p % s) hs
        rw [if_pos (by omega)] at ec
        have hlt : p / s < cnt s n (p % s) := by
          unfold cnt
          have e2 : n - p % s + s - 1 = (n - 1 - p % s) + 1 * s := by omega
          rw [e2, Int.add_mul_ediv_right _ _ (by omega)]
          have : p / s ≤ (n - 1 - p % s) / s := (Int.le_ediv_iff_mul_le hs).mpr (by
            rw [Int.mul_comm]
            omega)
          omega
        unfold plc
        refine List.mem_map.mpr ⟨(p / s).toNat, List.mem_range.mpr (by omega), ?_⟩
        have e3 : (((p / s).toNat : Nat) : Int) = p / s := by omega
        rw [e3, Int.mul_comm]
        omega

section
variable {P : Program} {w : World} {K : PySem.W.Frag} {mg : Str → Option Value} {base : Heap}
-- NEEDS within
-- FILL: ⟨_, _, _, rfl, ?_⟩
def p_is_integer : List PyData → (PyData → Prop) → Prop := fun ds R => ∃ d lo hi, ds = [d, .int lo, .int hi] ∧ R (.bool (within d lo hi))
theorem ok_is_integer (T : En K mg) : FnOk P w K mg base CX0 1 T.f_is_integer T.fd_is_integer ["value", "low", "high"] (Con K p_is_integer) := by
  refine fn_con T.F_is_integer sc_is_integer (fun ds R h => ?_) (fun cdv A outer s H E W ds R hr h => ?_)
  · obtain ⟨d, lo, hi, rfl, _⟩ := h
    rfl
  · obtain ⟨d, lo, hi, rfl, hR⟩ := h
    refine ess_one (es_ret ?_)
    refine ev_and ?_
    refine ev_isInt T.n_isinstance T.n_int ?_
    refine ev_name 0 rfl ?_
    refine ⟨fun h1 => ?_, fun h1 => ?_⟩
    · refine ev_and ?_
      refine ev_not ?_
      refine ev_isBool T.n_isinstance T.n_bool ?_
      refine ev_name 0 rfl ?_
      cases d <;> first | (cases h1; done) | skip
      · exact ⟨fun z => (by cases z), fun _ => hR⟩
      · rename_i i
        refine ⟨fun _ => ?_, fun z => (by cases z)⟩
        refine ev_one ?_
        refine ev_chain oz_le oz_le ?_
        refine ev_name 1 rfl ?_
        refine ev_name 0 rfl ?_
        have hR : R (.bool (decide (lo ≤ i) && decide (i ≤ hi))) := hR
        refine dB (fun h2 => ?_) fun h2 => ?_
        · refine ev_name 2 rfl ?_
          rw [decide_eq_true h2, Bool.true_and] at hR
          exact hR
        · rw [decide_eq_false h2, Bool.false_and] at hR
          exact hR
    · cases d <;> first | exact hR | cases h1

-- NEEDS within
-- FILL: ⟨_, rfl, ?_⟩
def p_is_paper : List PyData → (PyData → Prop) → Prop := fun ds R => ∃ d, ds = [d] ∧ R (.bool (papB d))
theorem ok_is_paper (T : En K mg) : FnOk P w K mg base CX0 2 T.f_is_paper T.fd_is_paper ["value"] (Con K p_is_paper) := by
  refine fn_con T.F_is_paper sc_is_paper (fun ds R h => ?_) (fun cdv A outer s H E W ds R hr h => ?_)
  · obtain ⟨d, rfl, _⟩ := h
    rfl
  · obtain ⟨d, rfl, hR⟩ := h
    have nottup : isTupD d = false → papB d = false := fun h => by cases d <;> first | rfl | cases h
    refine ess_cons (es_if ?_)
    refine et_ew (ew_or ?_)
    refine et_not (et_val ?_)
    refine ev_isTup T.n_isinstance T.n_tuple ?_
    refine ev_name 0 rfl ?_
    cases ht : isTupD d with
    | false =>
      rw [nottup ht] at hR
      refine yesT (yesT ?_)
      refine ess_one (es_ret ?_)
      refine ev_bool ?_
      exact hR
    | true =>
      obtain ⟨ds, rfl⟩ : ∃ ds, d = .tuple ds := by cases d <;> first | exact ⟨_, rfl⟩ | cases ht
      refine noF ?_
      refine ew_or ?_
      refine et_cmp oz_ne ?_
      refine ev_len T.n_len ?_
      refine ev_name 0 rfl ?_
      refine ev_int ?_
      refine dN (fun hne => ?_) fun heq => ?_
      · have e : papB (.tuple ds) = false := by
          match ds, hne with
          | [], _ => rfl
          | [_], _ => rfl
          | [_, _], _ => rfl
          | [_, _, _], h => exact absurd rfl h
          | _ :: _ :: _ :: _ :: _, _ => rfl
        rw [e] at hR
        refine yesT ?_
        refine ess_one (es_ret ?_)
        refine ev_bool ?_
        exact hR
      obtain ⟨a, b, c, rfl⟩ : ∃ a b c, ds = [a, b, c] := by
        match ds, heq with
        | [], h => simp at h
        | [_], h => simp at h
        | [_, _], h => simp at h
        | [a, b, c], _ => exact ⟨a, b, c, rfl⟩
        | _ :: _ :: _ :: _ :: _, h => simp at h; omega
      refine ew_or1 ?_
      refine et_not (et_val ?_)
      refine ev_call (ok_is_integer T) hr T.g_is_integer T.F_is_integer.kp T.b_is_integer ?_
      refine ea_cons ?_
      refine ev_ix ?_
      refine ev_name 0 rfl ?_
      refine ev_int ?_
      refine ⟨_, rfl, ?_⟩
      refine ea_cons ?_
      refine ev_int ?_
      refine ea_cons ?_
      refine ev_glob T.c_MOST_REPEAT ?_
      refine ea_nil ⟨_, _, _, rfl, ?_⟩
      have ep : papB (.tuple [a, b, c]) = (within a 1 200 && within b 0 (valI a - 1) && within c 1 10000) := rfl
      rw [ep] at hR
      cases hw : within a 1 200 with
      | false =>
        rw [hw] at hR
        refine yesT ?_
        refine ess_one (es_ret ?_)
        refine ev_bool ?_
        exact hR
      | true =>
        rw [hw] at hR
        obtain ⟨i, rfl⟩ : ∃ i, a = .int i := by cases a <;> first | exact ⟨_, rfl⟩ | cases hw
        refine noF (ess_nil ?_)
        refine ess_one (es_ret ?_)
        refine ev_and ?_
        refine ev_call (ok_is_integer T) hr T.g_is_integer T.F_is_integer.kp T.b_is_integer ?_
        refine ea_cons ?_
        refine ev_ix ?_
        refine ev_name 0 rfl ?_
        refine ev_int ?_
        refine ⟨_, rfl, ?_⟩
        refine ea_cons ?_
        refine ev_int ?_
        refine ea_cons ?_
        refine ev_bin oz_sub ?_
        refine ev_ix ?_
        refine ev_name 0 rfl ?_
        refine ev_int ?_
        refine ⟨_, rfl, ?_⟩
        refine ev_int ?_
        refine ea_nil ⟨_, _, _, rfl, ?_⟩
        cases hw2 : within b 0 (i - 1) with
        | false =>
          have e2 : within b 0 (valI (.int i) - 1) = false := hw2
          rw [e2] at hR
          exact noF hR
        | true =>
          have e2 : within b 0 (valI (.int i) - 1) = true := hw2
          rw [e2] at hR
          refine yesT ?_
          refine ev_one ?_
          refine ev_call (ok_is_integer T) hr T.g_is_integer T.F_is_integer.kp T.b_is_integer ?_
          refine ea_cons ?_
          refine ev_ix ?_
          refine ev_name 0 rfl ?_
          refine ev_int ?_
          refine ⟨_, rfl, ?_⟩
          refine ea_cons ?_
          refine ev_int ?_
          refine ea_cons ?_
          refine ev_glob T.c_MOST_ROLL ?_
          exact ea_nil ⟨_, _, _, rfl, hR⟩

-- FILL: ⟨_, _, _, _, rfl, by walk_at "pre", ?_⟩
-- NEEDS base
def p_phase : List PyData → (PyData → Prop) → Prop := fun ds R => ∃ r d l n, ds = [pap r d l, .int n] ∧ POk r d l ∧ R (.int (n * d % r))
theorem ok_phase (T : En K mg) : FnOk P w K mg base CX0 1 T.f_phase T.fd_phase ["paper", "place"] (Con K p_phase) := by
  refine fn_con T.F_phase sc_phase (fun ds R h => ?_) (fun cdv A outer s H E W ds R hr h => ?_)
  · obtain ⟨r, d, l, n, rfl, _⟩ := h
    rfl
  · obtain ⟨r, d, l, n, rfl, ⟨⟨h1, h2⟩, ⟨h3, h4⟩, h5⟩, hR⟩ := h
    refine ess_one (es_ret ?_)
    refine ev_bin oz_mod ?_
    refine ev_bin oz_mul ?_
    refine ev_name 1 rfl ?_
    refine ev_ix ?_
    refine ev_name 0 rfl ?_
    refine ev_int ?_
    refine ⟨_, rfl, ?_⟩
    refine ⟨by walk_at "zs", ?_⟩
    refine ev_ix ?_
    refine ev_name 0 rfl ?_
    refine ev_int ?_
    refine ⟨_, rfl, ?_⟩
    exact ⟨by walk_at "zs", hR⟩

-- NEEDS next
-- FILL: ⟨_, _, _, _, _, rfl, by walk_at "pre", ?_⟩
def p_begin_behind : List PyData → (PyData → Prop) → Prop := fun ds R => ∃ r d l f n : Int, ds = [pap r d l, .int f, .int n] ∧ POk r d l ∧ R (.int (nxt r d f n))
theorem ok_begin_behind (T : En K mg) : FnOk P w K mg base CX0 2 T.f_begin_behind T.fd_begin_behind ["paper", "free", "place"] (Con K p_begin_behind) := by
  refine fn_con T.F_begin_behind sc_begin_behind (fun ds R h => ?_) (fun cdv A outer s H E W ds R hr h => ?_)
  · obtain ⟨r, d, l, f, n, rfl, _⟩ := h
    rfl
  · obtain ⟨r, d, l, f, n, rfl, hp, hR⟩ := h
    obtain ⟨⟨h1, h2⟩, ⟨h3, h4⟩, h5, h6⟩ := id hp
    refine ess_one (es_ret ?_)
    refine ev_bin oz_add ?_
    refine ev_name 1 rfl ?_
    refine ev_bin oz_mod ?_
    refine ev_bin oz_sub ?_
    refine ev_call (ok_phase T) hr T.g_phase T.F_phase.kp T.b_phase ?_
    refine ea_cons ?_
    refine ev_name 0 rfl ?_
    refine ea_cons ?_
    refine ev_name 2 rfl ?_
    refine ea_nil ⟨_, _, _, _, rfl, by walk_at "pre", ?_⟩
    refine ev_name 1 rfl ?_
    refine ev_ix ?_
    refine ev_name 0 rfl ?_
    refine ev_int ?_
    refine ⟨_, rfl, ?_⟩
    refine ⟨by walk_at "zs", ?_⟩
    have e : f + (n * d % r - f) % r = nxt r d f n := by
      unfold nxt
      rw [Int.sub_emod, Int.emod_emod_of_dvd _ (Int.dvd_refl r), ← Int.sub_emod]
    show R (.int (f + (n * d % r - f) % r))
    rw [e]
    exact hR

-- NEEDS roll
-- NEEDS kinds
-- LAYER Zk
-- MUT
theorem fk1 : ¬ (("kind" : Str) = "size") := by decide +kernel
theorem fk2 : ¬ (("kind" : Str) = "rows") := by decide +kernel
theorem fk3 : ¬ (("size" : Str) = "rows") := by decide +kernel
def p_Roll___init__ (IP IL : Addr) : List (Str × PyData) → List PyData → (PyData → List (Str × PyData) → Prop) → (Addr → Prop) → Prop := fun fs ds R Er => ∃ k z : PyData, fs = [] ∧ ds = [k, z] ∧ (papB k = false → Er IP) ∧ (∀ r d l, k = pap r d l → papB k = true → within z 1 l = false → Er IL) ∧
  (∀ r d l n : Int, k = pap r d l → POk r d l → papB k = true → z = .int n → 1 ≤ n → n ≤ l → R .none (rolF r d l n []))
theorem ok_Roll___init__ (T : En K mg) : FnOk P w K mg base (L2N.CX P w) 3 T.f_Roll___init__ T.fd_Roll___init__ ["self", "paper", "length"] (XConR K T.C_Roll (p_Roll___init__ T.C_InvalidPaper T.C_InvalidLength)) := by
  refine fn_xconR T.F_Roll___init__ sc_Roll___init__ (fun fs ds R Er h => ?_) (fun cdv A outer s H E W a dx fs ds R Er hr tk hE h => ?_)
  · obtain ⟨k, z, rfl, rfl, _⟩ := h
    rfl
  · obtain ⟨k, z, rfl, rfl, hX, hY, hR⟩ := h
    refine em_cons (es_if ?_)
    refine et_not (et_val ?_)
    refine ev_call (ok_is_paper T) hr T.g_is_paper T.F_is_paper.kp T.b_is_paper ?_
    refine ea_cons ?_
    refine ev_name 1 rfl ?_
    refine ea_nil ⟨_, rfl, ?_⟩
    cases hp : papB k with
    | false => exact yesT (ess_one (es_raise rfl tk T.rz_InvalidPaper fun B' H' g => hE _ B' H' g (hX hp)))
    | true =>
      obtain ⟨r, d, l, rfl, hpo⟩ := papB_true hp
      refine noF (ess_nil ?_)
      refine em_cons (es_if ?_)
      refine et_not (et_val ?_)
      refine ev_call (ok_is_integer T) (hr.mono (by decide)) T.g_is_integer T.F_is_integer.kp T.b_is_integer ?_
      refine ea_cons ?_
      refine ev_name 2 rfl ?_
      refine ea_cons ?_
      refine ev_int ?_
      refine ea_cons ?_
      refine ev_ix ?_
      refine ev_name 1 rfl ?_
      refine ev_int ?_
      refine ⟨_, rfl, ?_⟩
      refine ea_nil ⟨_, _, _, rfl, ?_⟩
      cases hw : within z 1 l with
      | false => exact yesT (ess_one (es_raise rfl tk T.rz_InvalidLength fun B' H' g => hE _ B' H' g (hY r d l rfl hp hw)))
      | true =>
        obtain ⟨n, rfl, n1, n2⟩ := within_true hw
        refine noF (ess_nil ?_)
        refine em_cons (es_fld 0 rfl T.cl_Roll T.na_Roll_kind (by walk_at "fln") ?_)
        refine ev_name 1 rfl ?_
        refine em_cons (es_fld 0 rfl T.cl_Roll T.na_Roll_size (by walk_at "fln") ?_)
        refine ev_name 2 rfl ?_
        refine em_cons (es_fld 0 rfl T.cl_Roll T.na_Roll_rows (by walk_at "fln") ?_)
        refine ev_tup ?_
        refine ea_nil ⟨by walk_at "sz", ?_⟩
        have e : putD "rows" (.tuple []) (putD "size" (.int n) (putD "kind" (pap r d l) [])) = rolF r d l n [] := by
          simp only [putD, if_neg fk1, if_neg fk2, if_neg fk3]
          rfl
        refine em_nil 0 rfl ?_
        rw [e]
        exact hR r d l n rfl hpo hp rfl n1 n2

-- NEEDS roll
-- LAYER Zo
-- FILL: ⟨_, _, _, _, _, rfl, rfl, by walk_at "zs", ?_⟩
def p_Roll_places : List (Str × PyData) → List PyData → (PyData → Prop) → Prop := fun fs ds R => ∃ (r d l z : Int) (rows : List (Int × Int)), fs = rolF r d l z rows ∧ ds = [] ∧ rows.length ≤ 100000 ∧ R (.tuple ((rows.map Prod.fst).map PyData.int))
theorem ok_Roll_places (T : En K mg) : FnOk P w K mg base CX0 1 T.f_Roll_places T.fd_Roll_places ["self"] (MCon K T.C_Roll p_Roll_places) := by
  refine fn_mcon T.F_Roll_places sc_Roll_places (fun fs ds R h => ?_) (fun cdv A outer s H E W a dx fs ds R hr h => ?_)
  · obtain ⟨r, d, l, z, rows, rfl, rfl, _⟩ := h
    rfl
  · obtain ⟨r, d, l, z, rows, rfl, rfl, hl, hR⟩ := h
    refine ess_one (es_ret ?_)
    refine ev_tupleOf T.n_tuple ?_
    refine ev_el (el_lc (own := [("place", 1), ("begin", 2)]) (gg_tup [1, 2]) (fun _ _ _ _ _ => pg_tup rfl (pgs_cons (pg_name sc_Roll_places.nd rfl (.inl rfl)) (pgs_cons (pg_name sc_Roll_places.nd rfl (.inl rfl)) (pgs_nil)))) rfl sc_Roll_places.nd (blkOk_by (N := ["self", "place", "begin"]) (sc := defScope s_Roll_places) (by decide +kernel)) rfl ?_)
    refine ei_tup ?_
    refine ev_fld 0 (by first | exact .inl rfl | exact .inr rfl) T.cl_Roll T.na_Roll_rows (by walk_at "fl") ?_
    refine ⟨by rw [List.length_map]; exact Nat.le_trans hl (by decide), fun i acc => acc = ((rows.take i).map Prod.fst).map PyData.int, rfl, fun i x acc hx ha _ => ?_, fun acc ha hlen => ?_⟩
    · obtain ⟨t, ht, rfl⟩ : ∃ t, rows[i]? = some t ∧ x = pcut t := by
        rw [List.getElem?_map] at hx
        obtain ⟨t, h6, h7⟩ := Option.map_eq_some_iff.mp hx
        exact ⟨t, h6, h7.symm⟩
      refine ⟨[.int t.1, .int t.2], rfl, ?_⟩
      subst ha
      rintro _ ⟨s', H', C, cl, fp, rfl⟩ W' _
      refine ev_name 1 rfl ?_
      show _ = ((rows.take (i + 1)).map Prod.fst).map PyData.int
      rw [List.take_add_one, ht, List.map_append, List.map_append]
      rfl
    subst ha
    rw [List.length_map, List.take_length]
    exact hR

-- NEEDS roll
-- LAYER Zo
-- FILL: ⟨_, _, _, _, _, rfl, rfl, by walk_at "zs", ?_⟩
def p_Roll_left : List (Str × PyData) → List PyData → (PyData → Prop) → Prop := fun fs ds R => ∃ (r d l z : Int) (rows : List (Int × Int)), fs = rolF r d l z rows ∧ ds = [] ∧ rows.length ≤ 100000 ∧ R (.int (l - endR z rows))
theorem ok_Roll_left (T : En K mg) : FnOk P w K mg base CX0 1 T.f_Roll_left T.fd_Roll_left ["self"] (MCon K T.C_Roll p_Roll_left) := by
  refine fn_mcon T.F_Roll_left sc_Roll_left (fun fs ds R h => ?_) (fun cdv A outer s H E W a dx fs ds R hr h => ?_)
  · obtain ⟨r, d, l, z, rows, rfl, rfl, _⟩ := h
    rfl
  · obtain ⟨r, d, l, z, rows, rfl, rfl, hl, hR⟩ := h
    refine ess_one (es_ret ?_)
    refine ev_bin oz_sub ?_
    refine ev_ix ?_
    refine ev_fld 0 (by first | exact .inl rfl | exact .inr rfl) T.cl_Roll T.na_Roll_kind (by walk_at "fl") ?_
    refine ev_int ?_
    refine ⟨_, rfl, ?_⟩
    refine ev_if ?_
    refine et_cmp (oz_neD (zu hr)) ?_
    refine ev_fld 0 (by first | exact .inl rfl | exact .inr rfl) T.cl_Roll T.na_Roll_rows (by walk_at "fl") ?_
    refine ev_tup ?_
    refine ea_nil ⟨by walk_at "sz", ?_⟩
    refine ⟨(sim_prow (n := 0) (by omega)).shaped (by decide), by decide, ?_⟩
    rw [eqv_prow_nil]
    rcases List.eq_nil_or_concat rows with rfl | ⟨ro, q, rfl⟩
    · refine ⟨fun z => Bool.noConfusion z, fun _ => ?_⟩
      refine ev_int ?_
      exact hR
    · rw [List.concat_eq_append] at hl hR ⊢
      have e : (ro ++ [q]).isEmpty = false := by simp
      rw [e]
      refine ⟨fun _ => ?_, fun z => Bool.noConfusion z⟩
      refine ev_bin oz_add ?_
      refine ev_ix ?_
      refine ev_ix ?_
      refine ev_fld 0 (by first | exact .inl rfl | exact .inr rfl) T.cl_Roll T.na_Roll_rows (by walk_at "fl") ?_
      refine ev_neg ?_
      refine ev_int ?_
      refine ⟨pcut q, ?_, ?_⟩
      · rw [List.map_append]
        exact atI_last _ _
      refine ev_int ?_
      refine ⟨_, rfl, ?_⟩
      refine ev_fld 0 (by first | exact .inl rfl | exact .inr rfl) T.cl_Roll T.na_Roll_size (by walk_at "fl") ?_
      rw [endR_snoc] at hR
      exact hR

-- NEEDS roll
-- NEEDS turns
-- NEEDS kinds
-- LAYER Zj
def badP (rows : List (Int × Int)) (p : PyData) : Prop := within p 0 1000000000000 = false ∨ ∃ n, p = .int n ∧ n ∈ rows.map Prod.fst
def p_Roll_begin_of (C IP : Addr) : List OD → (OD → Prop) → (Addr → Prop) → Prop := fun ods R Er => ∃ (r d l z : Int) (rows : List (Int × Int)) (p : PyData), ods = [.o C (rolF r d l z rows), .d p] ∧ POk r d l ∧ rows.length ≤ 100000 ∧
  (∀ n : Int, p = .int n → 0 ≤ n → n ≤ 1000000000000 → n ∉ rows.map Prod.fst → R (.d (optI (begO r d l z rows n)))) ∧ (badP rows p → Er IP)
theorem ok_Roll_begin_of (T : En K mg) : FnOk P w K mg base (L2N.CX P w) 4 T.f_Roll_begin_of T.fd_Roll_begin_of ["self", "place"] (GCon K (p_Roll_begin_of T.C_Roll T.C_InvalidPlace)) := by
  refine fn_g T.F_Roll_begin_of sc_Roll_begin_of (fun ods R Er h => ?_) (fun cdv A outer s H E W ods ad R Er hr tk hE h => ?_)
  · obtain ⟨r, d, l, z, rows, p, rfl, _⟩ := h
    rfl
  · obtain ⟨r, d, l, z, rows, p, rfl, hp, hl, hR, hX⟩ := h
    obtain ⟨⟨h1, h2⟩, ⟨h3, h4⟩, h5, h6⟩ := id hp
    refine eg_cons (es_if ?_)
    refine et_ew (ew_or ?_)
    refine et_not (et_val ?_)
    refine ev_call (ok_is_integer T) (hr.mono (by decide)) T.g_is_integer T.F_is_integer.kp T.b_is_integer ?_
    refine ea_cons ?_
    refine ev_name 1 rfl ?_
    refine ea_cons ?_
    refine ev_int ?_
    refine ea_cons ?_
    refine ev_glob T.c_MOST_PLACE ?_
    refine ea_nil ⟨_, _, _, rfl, ?_⟩
    cases hw : within p 0 1000000000000 with
    | false => exact yesT (yesT (ess_one (es_raise rfl tk T.rz_InvalidPlace fun B' H' g => hE _ B' H' g (hX (.inl hw)))))
    | true =>
      obtain ⟨n, rfl, n1, n2⟩ := within_true hw
      refine noF ?_
      refine ew_or1 ?_
      refine et_cmp (oz_in (zu5 hr)) ?_
      refine ev_name 1 rfl ?_
      refine ev_el (el_lc (own := [("own", 3), ("begin", 2)]) (gg_tup [3, 2]) (fun _ _ _ _ _ => pg_tup rfl (pgs_cons (pg_name sc_Roll_begin_of.nd rfl (.inl rfl)) (pgs_cons (pg_name sc_Roll_begin_of.nd rfl (.inl rfl)) (pgs_nil)))) rfl sc_Roll_begin_of.nd (blkOk_by (N := ["self", "place", "begin", "own"]) (sc := defScope s_Roll_begin_of) (by decide +kernel)) rfl ?_)
      refine ei_tup ?_
      refine ev_fld 0 (by first | exact .inl rfl | exact .inr rfl) T.cl_Roll T.na_Roll_rows (by walk_at "fl") ?_
      refine ⟨by rw [List.length_map]; exact Nat.le_trans hl (by decide), fun i acc => acc = ((rows.take i).map Prod.fst).map PyData.int, rfl, fun i x acc hx ha _ => ?_, fun acc ha hlen => ?_⟩
      · obtain ⟨t, ht, rfl⟩ : ∃ t, rows[i]? = some t ∧ x = pcut t := by
          rw [List.getElem?_map] at hx
          obtain ⟨t, h6, h7⟩ := Option.map_eq_some_iff.mp hx
          exact ⟨t, h6, h7.symm⟩
        refine ⟨[.int t.1, .int t.2], rfl, ?_⟩
        subst ha
        rintro _ ⟨s', H', C, cl, fp, rfl⟩ W' _
        refine ev_name 3 rfl ?_
        show _ = ((rows.take (i + 1)).map Prod.fst).map PyData.int
        rw [List.take_add_one, ht, List.map_append, List.map_append]
        rfl
      subst ha
      rw [List.length_map, List.take_length]
      refine ⟨sim_int (n := 0) |>.shaped (by decide), (sim_ints (n := 0) (by rw [List.length_map]; omega)).shaped (by decide), ?_⟩
      rw [prow_any]
      refine dB (fun hm => ?_) fun hm => ?_
      · exact ess_one (es_raise rfl tk T.rz_InvalidPlace fun B' H' g => hE _ B' H' g (hX (.inr ⟨n, rfl, hm⟩)))
      refine ess_nil ?_
      have hR := hR n rfl n1 n2 hm
      refine eg_ess ?_
      refine ess_cons (es_set 2 ?_ sc_Roll_begin_of.nd)
      refine ev_call (ok_begin_behind T) (hr.mono (by decide)) T.g_begin_behind T.F_begin_behind.kp T.b_begin_behind ?_
      refine ea_cons ?_
      refine ev_fld 0 (by first | exact .inl rfl | exact .inr rfl) T.cl_Roll T.na_Roll_kind (by walk_at "fl") ?_
      refine ea_cons ?_
      refine ev_bin oz_sub ?_
      refine ev_ix ?_
      refine ev_fld 0 (by first | exact .inl rfl | exact .inr rfl) T.cl_Roll T.na_Roll_kind (by walk_at "fl") ?_
      refine ev_int ?_
      refine ⟨_, rfl, ?_⟩
      refine ev_prop 0 (by first | exact .inl rfl | exact .inr rfl) T.cl_Roll T.me_Roll_left (ok_Roll_left T) (hr.mono (by decide)) T.b_Roll_left ⟨_, _, _, _, _, rfl, rfl, by walk_at "zs", ?_⟩
      refine ea_cons ?_
      refine ev_name 1 rfl ?_
      refine ea_nil ⟨_, _, _, _, _, rfl, by walk_at "pre", ?_⟩
      have e : l - (l - endR z rows) = endR z rows := by omega
      rw [e]
      refine ess_one (es_ret ?_)
      refine ev_if ?_
      refine et_cmp oz_le ?_
      refine ev_bin oz_add ?_
      refine ev_name 2 rfl ?_
      refine ev_fld 0 (by first | exact .inl rfl | exact .inr rfl) T.cl_Roll T.na_Roll_size (by walk_at "fl") ?_
      refine ev_ix ?_
      refine ev_fld 0 (by first | exact .inl rfl | exact .inr rfl) T.cl_Roll T.na_Roll_kind (by walk_at "fl") ?_
      refine ev_int ?_
      refine ⟨_, rfl, ?_⟩
      unfold begO at hR
      refine dB (fun hq => ?_) fun hq => ?_
      · rw [if_pos hq] at hR
        refine ev_name 2 rfl ?_
        exact hR
      · rw [if_neg hq] at hR
        refine ev_none ?_
        exact hR

-- NEEDS roll
-- LAYER Zj
-- MUT
-- CALLS Roll_begin_of
def p_Roll_cut (IP NR : Addr) : List (Str × PyData) → List PyData → (PyData → List (Str × PyData) → Prop) → (Addr → Prop) → Prop := fun fs ds R Er => ∃ (r d l z : Int) (rows : List (Int × Int)) (p : PyData), fs = rolF r d l z rows ∧ ds = [p] ∧ POk r d l ∧ rows.length < 100000 ∧ (badP rows p → Er IP) ∧
  ∀ n : Int, p = .int n → 0 ≤ n → n ≤ 1000000000000 → n ∉ rows.map Prod.fst → (begO r d l z rows n = none → Er NR) ∧ ∀ b, begO r d l z rows n = some b → R (.int b) (rolF r d l z (rows ++ [(n, b)]))
theorem not_bad {rows : List (Int × Int)} {p : PyData} (h : ¬ badP rows p) : ∃ n, p = .int n ∧ 0 ≤ n ∧ n ≤ 1000000000000 ∧ n ∉ rows.map Prod.fst := by
  cases hw : within p 0 1000000000000 with
  | false => exact absurd (.inl hw) h
  | true =>
    obtain ⟨n, rfl, n1, n2⟩ := within_true hw
    exact ⟨n, rfl, n1, n2, fun z => h (.inr ⟨n, rfl, z⟩)⟩
theorem ok_Roll_cut (T : En K mg) : FnOk P w K mg base (L2N.CX P w) 7 T.f_Roll_cut T.fd_Roll_cut ["self", "place"] (XConS K T.C_Roll (p_Roll_cut T.C_InvalidPlace T.C_NoRoom)) := by
  refine fn_xconS T.F_Roll_cut sc_Roll_cut (fun fs ds R Er h => ?_) (fun cdv A outer s H E W a dx fs ds R Er hr tk hE h => ?_)
  · obtain ⟨r, d, l, z, rows, p, rfl, rfl, _⟩ := h
    rfl
  · obtain ⟨r, d, l, z, rows, p, rfl, rfl, hp, hl, hX, hR⟩ := h
    refine em_cons (es_set 2 (ev_edf (edf_meth (Ep := fun D ρ => Er D ∧ ρ[0]? = some (Sl.obj a dx T.C_Roll (rolF r d l z rows))) (tk_ofL tk fun D B' H' σ ρ L er => hE D B' H' σ ρ 0 L er.2 er.1) T.cl_Roll T.me_Roll_begin_of (ok_Roll_begin_of T) (hr.mono (by decide)) T.b_Roll_begin_of (ed_own 0 rfl ⟨_, rfl, by walk_at "fl", ?_⟩))) sc_Roll_cut.nd)
    refine eda_cons (ed_ev ?_)
    refine ev_name 1 rfl ?_
    refine eda_nil ⟨_, _, _, _, _, _, rfl, hp, by omega, fun n e n1 n2 n3 => ?_, fun hb => ⟨hX hb, rfl⟩⟩
    subst e
    obtain ⟨hN, hR⟩ := hR n rfl n1 n2 n3
    refine em_cons (es_if ?_)
    refine et_isN ?_
    refine ev_name 2 rfl ?_
    cases hb : begO r d l z rows n with
    | none => exact yesT (ess_one (es_raiseL rfl tk T.rz_NoRoom fun B' H' σ L => hE _ B' H' σ _ 0 L rfl (hN hb)))
    | some b =>
      have hR := hR b hb
      refine noF (ess_nil ?_)
      refine em_cons (es_fld 0 rfl T.cl_Roll T.na_Roll_rows (by walk_at "fln") ?_)
      refine ev_tup ?_
      refine ea_star ?_
      refine ev_fld 0 (by first | exact .inl rfl | exact .inr rfl) T.cl_Roll T.na_Roll_rows (by walk_at "fl") ?_
      refine ea_cons ?_
      refine ev_tup ?_
      refine ea_cons ?_
      refine ev_name 1 rfl ?_
      refine ea_cons ?_
      refine ev_name 2 rfl ?_
      refine ea_nil ⟨by walk_at "sz", ?_⟩
      refine ea_nil ⟨?_, ?_⟩
      · rw [List.length_append, List.length_map]
        exact Nat.le_trans (show rows.length + 1 ≤ 100000 by omega) (by decide)
      refine em_ret 0 rfl ?_
      refine ev_name 2 rfl ?_
      have e : putD "rows" (.tuple (rows.map pcut ++ [.tuple [.int n, .int b]])) (rolF r d l z rows) = rolF r d l z (rows ++ [(n, b)]) := by
        unfold rolF prow
        rw [List.map_append]
        simp only [putD, if_neg fk2, if_neg fk3, if_pos]
        rfl
      show R (.int b) (putD "rows" (.tuple (rows.map pcut ++ [.tuple [.int n, .int b]])) (rolF r d l z rows))
      rw [e]
      exact hR

-- NEEDS roll
-- LAYER Zj
-- CALLS Roll_begin_of
theorem ok_Roll___call__ (T : En K mg) : FnOk P w K mg base (L2N.CX P w) 7 T.f_Roll___call__ T.fd_Roll___call__ ["self", "place"] (GCon K (p_Roll_begin_of T.C_Roll T.C_InvalidPlace)) := by
  refine fn_g T.F_Roll___call__ sc_Roll___call__ (fun ods R Er h => ?_) (fun cdv A outer s H E W ods ad R Er hr tk hE h => ?_)
  · obtain ⟨r, d, l, z, rows, p, rfl, _⟩ := h
    rfl
  · obtain ⟨r, d, l, z, rows, p, rfl, h⟩ := h
    refine eg_ret (edf_meth (tk_of tk hE) T.cl_Roll T.me_Roll_begin_of (ok_Roll_begin_of T) (hr.mono (by decide)) T.b_Roll_begin_of (ed_name 0 rfl ⟨_, rfl, by walk_at "fl", ?_⟩))
    refine eda_cons (ed_ev ?_)
    refine ev_name 1 rfl ?_
    exact eda_nil ⟨_, _, _, _, _, _, rfl, h⟩

-- NEEDS roll
-- LAYER Zj
-- MUT
def p_Roll_undo (NU : Addr) : List (Str × PyData) → List PyData → (PyData → List (Str × PyData) → Prop) → (Addr → Prop) → Prop := fun fs ds R Er => ∃ (r d l z : Int) (rows : List (Int × Int)), fs = rolF r d l z rows ∧ ds = [] ∧ rows.length ≤ 100000 ∧ (rows = [] → Er NU) ∧ ∀ ro q, rows = ro ++ [q] → R (.int q.1) (rolF r d l z ro)
theorem cutD_init (xs : List PyData) (x : PyData) : Z.cutD (xs ++ [x]) none (some (-1)) = xs := by
  unfold Z.cutD
  have e1 : HT.sIx (xs ++ [x]).length 0 none = 0 := rfl
  have e2 : HT.sIx (xs ++ [x]).length (xs ++ [x]).length (some (-1)) = xs.length := by
    unfold HT.sIx
    simp
    try omega
  rw [e1, e2]
  simp
theorem ok_Roll_undo (T : En K mg) : FnOk P w K mg base (L2N.CX P w) 1 T.f_Roll_undo T.fd_Roll_undo ["self"] (XConS K T.C_Roll (p_Roll_undo T.C_NothingToUndo)) := by
  refine fn_xconS T.F_Roll_undo sc_Roll_undo (fun fs ds R Er h => ?_) (fun cdv A outer s H E W a dx fs ds R Er hr tk hE h => ?_)
  · obtain ⟨r, d, l, z, rows, rfl, rfl, _⟩ := h
    rfl
  · obtain ⟨r, d, l, z, rows, rfl, rfl, hl, hX, hR⟩ := h
    refine em_cons (es_if ?_)
    refine et_cmp (oz_eqD (zu hr)) ?_
    refine ev_fld 0 (by first | exact .inl rfl | exact .inr rfl) T.cl_Roll T.na_Roll_rows (by walk_at "fl") ?_
    refine ev_tup ?_
    refine ea_nil ⟨by walk_at "sz", ?_⟩
    refine ⟨(sim_prow (n := 0) (by omega)).shaped (by decide), by decide, ?_⟩
    rw [eqv_prow_nil]
    rcases List.eq_nil_or_concat rows with rfl | ⟨ro, q, rfl⟩
    · exact yesT (ess_one (es_raiseL rfl tk T.rz_NothingToUndo fun B' H' σ L => hE _ B' H' σ _ 0 L rfl (hX rfl)))
    · rw [List.concat_eq_append] at hl hR ⊢
      have hR := hR ro q rfl
      have e : (ro ++ [q]).isEmpty = false := by simp
      rw [e]
      refine noF (ess_nil ?_)
      refine em_cons (es_asg ?_)
      refine ev_ix ?_
      refine ev_fld 0 (by first | exact .inl rfl | exact .inr rfl) T.cl_Roll T.na_Roll_rows (by walk_at "fl") ?_
      refine ev_neg ?_
      refine ev_int ?_
      refine ⟨pcut q, ?_, ?_⟩
      · rw [List.map_append]
        exact atI_last _ _
      refine tg_tup rfl (tgs_name 1 (tgs_name 2 (tgs_nil ?_) sc_Roll_undo.nd) sc_Roll_undo.nd)
      refine em_cons (es_fld 0 rfl T.cl_Roll T.na_Roll_rows (by walk_at "fln") ?_)
      refine ev_slT ?_
      refine ev_fld 0 (by first | exact .inl rfl | exact .inr rfl) T.cl_Roll T.na_Roll_rows (by walk_at "fl") ?_
      refine eo_none ?_
      refine eo_some ?_
      refine ev_neg ?_
      refine ev_int ?_
      have e : putD "rows" (.tuple (Z.cutD ((ro ++ [q]).map pcut) none (some (-1)))) (rolF r d l z (ro ++ [q])) = rolF r d l z ro := by
        rw [List.map_append, show [q].map pcut = [pcut q] from rfl, cutD_init]
        unfold rolF prow
        simp only [putD, if_neg fk2, if_neg fk3, if_pos]
      show Em _ W a dx T.C_Roll _ [.obj a dx T.C_Roll (putD "rows" (.tuple (Z.cutD ((ro ++ [q]).map pcut) none (some (-1)))) (rolF r d l z (ro ++ [q]))), .im (.int q.1), .im (.int q.2)] R
      rw [e]
      refine em_ret 0 rfl ?_
      refine ev_name 1 rfl ?_
      exact hR

-- NEEDS roll
-- LAYER Zn
def rowT (z : Int) (q : Int × Int) : Str := ((Str.empty ++ padT 3 q.1) ++ padT 6 q.2) ++ padT 6 (q.2 + z)
theorem padT_1000 {w : Nat} {a : Int} (h0 : 0 ≤ a) (h1 : a < 10 ^ 15) (hw : w ≤ 100) : (padT w a).length ≤ 1000 := by
  have := digits_15 h0 h1
  show (List.toArray _).size ≤ 1000
  simp only [List.size_toArray, List.length_append, List.length_replicate, List.length_map]
  omega
def p_Roll_lines : List (Str × PyData) → (List PyData → Prop) → Prop := fun fs R => ∃ (r d l z : Int) (rows : List (Int × Int)), fs = rolF r d l z rows ∧ rows.length ≤ 100000 ∧ (0 ≤ z ∧ z ≤ 1000000000000) ∧ (∀ q ∈ rows, (0 ≤ q.1 ∧ q.1 ≤ 1000000000000) ∧ 0 ≤ q.2 ∧ q.2 ≤ 1000000000000) ∧ R (rows.map fun q => PyData.str (rowT z q))
theorem ok_Roll_lines (T : En K mg) : GFn P w K mg base 1 T.f_Roll_lines T.fd_Roll_lines ["self"] (MConG K T.C_Roll p_Roll_lines) := by
  refine fn_mconG T.F_Roll_lines sc_Roll_lines rfl (fun cdv A outer s H E pn W a dx fs R hr h => ?_)
  obtain ⟨r, d, l, z, rows, rfl, hl, hz, hq, hR⟩ := h
  refine gzs_cons (gz_for owns_gcx rfl ?_)
  refine ei_tup ?_
  refine ev_fld 0 (by first | exact .inl rfl | exact .inr rfl) T.cl_Roll T.na_Roll_rows (by walk_at "fl") ?_
  refine ⟨fun i o ρ => ∃ a1 a2 : Sl, o = (rows.take i).map (fun q => PyData.str (rowT z q)) ∧ ρ = [.obk a dx T.C_Roll (rolF r d l z rows), a1, a2], ⟨_, _, rfl, rfl⟩, fun i x o1 ρ1 hx hP => ?_, fun o1 ρ1 hP => ?_⟩
  · obtain ⟨a1, a2, rfl, rfl⟩ := hP
    obtain ⟨t, ht, rfl⟩ : ∃ t, rows[i]? = some t ∧ x = pcut t := by
      rw [List.getElem?_map] at hx
      obtain ⟨t, h6, h7⟩ := Option.map_eq_some_iff.mp hx
      exact ⟨t, h6, h7.symm⟩
    have htm := hq t (List.mem_of_getElem? ht)
    have hlen : ((rows.take i).map fun q => PyData.str (rowT z q)).length < sizeLine := by
      rw [List.length_map, List.length_take]
      exact Nat.lt_of_le_of_lt (show min i rows.length ≤ 100000 by omega) (by decide)
    refine tg_tup rfl (tgs_name 1 (tgs_name 2 (tgs_nil ?_) sc_Roll_lines.nd) sc_Roll_lines.nd)
    refine gzs_cons (gz_yield ?_ hlen)
    refine ev_joined3 ?_
    refine ev_fmt3 ?_
    refine ev_name 1 rfl ?_
    refine ⟨⟨by omega, by omega⟩, _, rfl, padT_1000 (by omega) (by omega) (by decide), ?_⟩
    refine ev_fmt6 ?_
    refine ev_name 2 rfl ?_
    refine ⟨⟨by omega, by omega⟩, _, rfl, padT_1000 (by omega) (by omega) (by decide), ?_⟩
    refine ev_fmt6 ?_
    refine ev_bin oz_add ?_
    refine ev_name 2 rfl ?_
    refine ev_fld 0 (by first | exact .inl rfl | exact .inr rfl) T.cl_Roll T.na_Roll_size (by walk_at "fl") ?_
    refine ⟨⟨by omega, by omega⟩, _, rfl, padT_1000 (by omega) (by omega) (by decide), hlen, ?_⟩
    refine gzs_nil ⟨_, _, ?_, rfl⟩
    rw [List.take_add_one, ht, List.map_append]
    rfl
  · obtain ⟨a1, a2, rfl, rfl⟩ := hP
    refine gzs_nil ?_
    rw [List.length_map, List.take_length]
    exact hR

-- NEEDS roll
-- NEEDS kinds
-- LAYER Zi
def inR (rows : List (Int × Int)) (x : PyData) : Bool := within x 0 1000000000000 && decide (valI x ∈ rows.map Prod.fst)
def p_Roll___contains__ (C : Addr) : List OD → (OD → Prop) → (Addr → Prop) → Prop := fun ods R Er => ∃ (r d l z : Int) (rows : List (Int × Int)) (x : PyData), ods = [.o C (rolF r d l z rows), .d x] ∧ rows.length ≤ 100000 ∧ R (.d (.bool (inR rows x)))
theorem ok_Roll___contains__ (T : En K mg) : FnOk P w K mg base (L2N.CX P w) 2 T.f_Roll___contains__ T.fd_Roll___contains__ ["self", "x"] (GCon K (p_Roll___contains__ T.C_Roll)) := by
  refine fn_g T.F_Roll___contains__ sc_Roll___contains__ (fun ods R Er h => ?_) (fun cdv A outer s H E W ods ad R Er hr tk hE h => ?_)
  · obtain ⟨r, d, l, z, rows, p, rfl, _⟩ := h
    rfl
  · obtain ⟨r, d, l, z, rows, p, rfl, hl, hR⟩ := h
    refine eg_ess ?_
    refine ess_one (es_ret ?_)
    refine ev_and ?_
    refine ev_call (ok_is_integer T) hr T.g_is_integer T.F_is_integer.kp T.b_is_integer ?_
    refine ea_cons ?_
    refine ev_name 1 rfl ?_
    refine ea_cons ?_
    refine ev_int ?_
    refine ea_cons ?_
    refine ev_glob T.c_MOST_PLACE ?_
    refine ea_nil ⟨_, _, _, rfl, ?_⟩
    unfold inR at hR
    refine ⟨fun hw => ?_, fun hw => by rw [hw, Bool.false_and] at hR; exact hR⟩
    obtain ⟨n, rfl, n1, n2⟩ := within_true hw
    rw [hw, Bool.true_and] at hR
    refine ev_one ?_
    refine ev_cmp (oz_in (zu5 hr)) ?_
    refine ev_name 1 rfl ?_
    refine ev_el (el_lc (own := [("place", 2), ("begin", 3)]) (gg_tup [2, 3]) (fun _ _ _ _ _ => pg_tup rfl (pgs_cons (pg_name sc_Roll___contains__.nd rfl (.inl rfl)) (pgs_cons (pg_name sc_Roll___contains__.nd rfl (.inl rfl)) (pgs_nil)))) rfl sc_Roll___contains__.nd (blkOk_by (N := ["self", "x", "place", "begin"]) (sc := defScope s_Roll___contains__) (by decide +kernel)) rfl ?_)
    refine ei_tup ?_
    refine ev_fld 0 (by first | exact .inl rfl | exact .inr rfl) T.cl_Roll T.na_Roll_rows (by walk_at "fl") ?_
    refine ⟨by rw [List.length_map]; exact Nat.le_trans hl (by decide), fun i acc => acc = ((rows.take i).map Prod.fst).map PyData.int, rfl, fun i x acc hx ha _ => ?_, fun acc ha hlen => ?_⟩
    · obtain ⟨t, ht, rfl⟩ : ∃ t, rows[i]? = some t ∧ x = pcut t := by
        rw [List.getElem?_map] at hx
        obtain ⟨t, h6, h7⟩ := Option.map_eq_some_iff.mp hx
        exact ⟨t, h6, h7.symm⟩
      refine ⟨[.int t.1, .int t.2], rfl, ?_⟩
      subst ha
      rintro _ ⟨s', H', C, cl, fp, rfl⟩ W' _
      refine ev_name 2 rfl ?_
      show _ = ((rows.take (i + 1)).map Prod.fst).map PyData.int
      rw [List.take_add_one, ht, List.map_append, List.map_append]
      rfl
    subst ha
    rw [List.length_map, List.take_length]
    refine ⟨sim_int (n := 0) |>.shaped (by decide), (sim_ints (n := 0) (by rw [List.length_map]; omega)).shaped (by decide), ?_⟩
    rw [prow_any]
    exact hR

-- NEEDS roll
-- LAYER Zi
def p_Roll___len__ (C : Addr) : List OD → (OD → Prop) → (Addr → Prop) → Prop := fun ods R Er => ∃ (r d l z : Int) (rows : List (Int × Int)), ods = [.o C (rolF r d l z rows)] ∧ rows.length ≤ 100000 ∧ R (.d (.int rows.length))
theorem ok_Roll___len__ (T : En K mg) : FnOk P w K mg base (L2N.CX P w) 1 T.f_Roll___len__ T.fd_Roll___len__ ["self"] (GCon K (p_Roll___len__ T.C_Roll)) := by
  refine fn_g T.F_Roll___len__ sc_Roll___len__ (fun ods R Er h => ?_) (fun cdv A outer s H E W ods ad R Er hr tk hE h => ?_)
  · obtain ⟨r, d, l, z, rows, rfl, _⟩ := h
    rfl
  · obtain ⟨r, d, l, z, rows, rfl, hl, hR⟩ := h
    refine eg_ess ?_
    refine ess_one (es_ret ?_)
    refine ev_len T.n_len ?_
    refine ev_fld 0 (by first | exact .inl rfl | exact .inr rfl) T.cl_Roll T.na_Roll_rows (by walk_at "fl") ?_
    show R (.d (.int ((rows.map pcut).length : Nat)))
    rw [List.length_map]
    exact hR

-- NEEDS roll
-- LAYER Zi
def p_Roll___bool__ (C : Addr) : List OD → (OD → Prop) → (Addr → Prop) → Prop := fun ods R Er => ∃ (r d l z : Int) (rows : List (Int × Int)), ods = [.o C (rolF r d l z rows)] ∧ rows.length ≤ 100000 ∧ R (.d (.bool (!rows.isEmpty)))
theorem ok_Roll___bool__ (T : En K mg) : FnOk P w K mg base (L2N.CX P w) 1 T.f_Roll___bool__ T.fd_Roll___bool__ ["self"] (GCon K (p_Roll___bool__ T.C_Roll)) := by
  refine fn_g T.F_Roll___bool__ sc_Roll___bool__ (fun ods R Er h => ?_) (fun cdv A outer s H E W ods ad R Er hr tk hE h => ?_)
  · obtain ⟨r, d, l, z, rows, rfl, _⟩ := h
    rfl
  · obtain ⟨r, d, l, z, rows, rfl, hl, hR⟩ := h
    refine eg_ess ?_
    refine ess_one (es_ret ?_)
    refine ev_boolB T.n_bool ?_
    refine ev_cmp (oz_neD (zu hr)) ?_
    refine ev_fld 0 (by first | exact .inl rfl | exact .inr rfl) T.cl_Roll T.na_Roll_rows (by walk_at "fl") ?_
    refine ev_tup ?_
    refine ea_nil ⟨by walk_at "sz", ?_⟩
    refine ⟨(sim_prow (n := 0) (by omega)).shaped (by decide), by decide, ?_⟩
    rw [eqv_prow_nil]
    exact hR

-- NEEDS roll
-- LAYER Zi
def eqRol (C : Addr) (r d l z : Int) (rows : List (Int × Int)) (o : OD) (R : OD → Prop) : Prop := (∃ (r' d' l' z' : Int) (rows' : List (Int × Int)), o = .o C (rolF r' d' l' z' rows') ∧ rows'.length ≤ 100000 ∧ R (.d (.bool (decide ((r = r' ∧ d = d' ∧ l = l') ∧ z = z' ∧ rows = rows'))))) ∨ ∃ xs, o = .d (.tuple xs) ∧ R (.d (.bool false))
def p_Roll___eq__ (C : Addr) : List OD → (OD → Prop) → (Addr → Prop) → Prop := fun ods R Er => ∃ (r d l z : Int) (rows : List (Int × Int)) (o : OD), ods = [.o C (rolF r d l z rows), o] ∧ rows.length ≤ 100000 ∧ eqRol C r d l z rows o R
theorem eqv_pap' {r d l r' d' l' : Int} : PyData.eqv (pap r d l) (pap r' d' l') = decide (r = r' ∧ d = d' ∧ l = l') := by
  have e := eqv_intsT (ns := [r, d, l]) (ms := [r', d', l'])
  simp only [List.cons.injEq, and_true] at e
  exact e
theorem eqv_prow : ∀ {ro ro' : List (Int × Int)}, PyData.eqv (prow ro) (prow ro') = decide (ro = ro')
  | [], [] => by simp [prow, PyData.eqv, PyData.eqvAll]
  | [], q :: r => by simp [prow, PyData.eqv, PyData.eqvAll]
  | q :: r, [] => by simp [prow, PyData.eqv, PyData.eqvAll]
  | q :: r, q' :: r' => by
    have ih := eqv_prow (ro := r) (ro' := r')
    simp only [prow, PyData.eqv] at ih
    simp only [prow, List.map_cons, PyData.eqv, PyData.eqvAll, ih, pcut]
    obtain ⟨a, b⟩ := q
    obtain ⟨a', b'⟩ := q'
    by_cases h1 : a = a' <;> by_cases h2 : b = b' <;> by_cases h3 : r = r' <;> simp [h1, h2, h3]
theorem ok_Roll___eq__ (T : En K mg) : FnOk P w K mg base (L2N.CX P w) 1 T.f_Roll___eq__ T.fd_Roll___eq__ ["self", "other"] (GCon K (p_Roll___eq__ T.C_Roll)) := by
  refine fn_g T.F_Roll___eq__ sc_Roll___eq__ (fun ods R Er h => ?_) (fun cdv A outer s H E W ods ad R Er hr tk hE h => ?_)
  · obtain ⟨r, d, l, z, rows, o, rfl, _⟩ := h
    rfl
  · obtain ⟨r, d, l, z, rows, o, rfl, hl, h⟩ := h
    refine eg_ess ?_
    refine ess_cons (es_if ?_)
    refine et_not (et_val ?_)
    rcases h with ⟨r', d', l', z', rows', rfl, hl', hR⟩ | ⟨xs, rfl, hR⟩
    · refine ev_isOwn T.n_isinstance T.m_Roll T.ic_Roll (ed_name 1 rfl ⟨fun C' fs e => by cases e; rfl, true, kit_self, ?_⟩)
      refine noF (ess_nil ?_)
      refine ess_one (es_ret ?_)
      refine ev_and ?_
      refine ev_cmp (oz_eqD (zu hr)) ?_
      refine ev_fld 0 (by first | exact .inl rfl | exact .inr rfl) T.cl_Roll T.na_Roll_kind (by walk_at "fl") ?_
      refine ev_fld 1 (by first | exact .inl rfl | exact .inr rfl) T.cl_Roll T.na_Roll_kind (by walk_at "fl") ?_
      refine ⟨(sim_intsT (n := 0) (ns := [r, d, l]) (by simp)).shaped (by decide), (sim_intsT (n := 0) (ns := [r', d', l']) (by simp)).shaped (by decide), ?_⟩
      rw [eqv_pap']
      refine dB (fun e1 => ?_) fun e1 => ?_
      · refine ev_and ?_
        refine ev_cmp oz_eq ?_
        refine ev_fld 0 (by first | exact .inl rfl | exact .inr rfl) T.cl_Roll T.na_Roll_size (by walk_at "fl") ?_
        refine ev_fld 1 (by first | exact .inl rfl | exact .inr rfl) T.cl_Roll T.na_Roll_size (by walk_at "fl") ?_
        refine dB (fun e2 => ?_) fun e2 => ?_
        · refine ev_one ?_
          refine ev_cmp (oz_eqD (zu hr)) ?_
          refine ev_fld 0 (by first | exact .inl rfl | exact .inr rfl) T.cl_Roll T.na_Roll_rows (by walk_at "fl") ?_
          refine ev_fld 1 (by first | exact .inl rfl | exact .inr rfl) T.cl_Roll T.na_Roll_rows (by walk_at "fl") ?_
          refine ⟨(sim_prow (n := 0) (by omega)).shaped (by decide), (sim_prow (n := 0) (by omega)).shaped (by decide), ?_⟩
          rw [eqv_prow]
          rw [show decide ((r = r' ∧ d = d' ∧ l = l') ∧ z = z' ∧ rows = rows') = decide (rows = rows') by simp [e1, e2]] at hR
          exact hR
        · rw [decide_eq_false (fun h => e2 h.2.1)] at hR
          exact hR
      · rw [decide_eq_false (fun h => e1 h.1)] at hR
        exact hR
    · refine ev_isOwn T.n_isinstance T.m_Roll T.ic_Roll (ed_ev ?_)
      refine ev_name 1 rfl ?_
      refine ⟨fun C' fs e => (by cases e), false, T.kt_Roll, ?_⟩
      refine yesT ?_
      refine ess_one (es_ret ?_)
      refine ev_bool ?_
      exact hR

-- FILL: ⟨_, rfl, by walk_at "zs", by walk_at "zs", fun $1 $1a $1b => ?_⟩
/-- a draw: any number below -/
def p__law_draw : List PyData → (PyData → Prop) → Prop := fun ds R => ∃ m : Int, ds = [.int m] ∧ 0 < m ∧ m ≤ 10 ^ 15 ∧ ∀ n : Int, 0 ≤ n → n < m → R (.int n)
theorem ok__law_draw (T : En K mg) : FnOk P w K mg base CX0 1 T.f__law_draw T.fd__law_draw ["tape", "many"] (ConT K p__law_draw) := by
  refine fn_conT T.F__law_draw sc__law_draw (fun ds R h => ?_) (fun cdv A outer s H E W ds R hr h => ?_)
  · obtain ⟨m, rfl, _⟩ := h
    rfl
  · obtain ⟨m, rfl, h0, h1, hR⟩ := h
    have md : ∀ x : Int, 0 ≤ x % 2305843009213693951 ∧ x % 2305843009213693951 < 2305843009213693951 := fun x => ⟨Int.emod_nonneg _ (by decide), Int.emod_lt_of_pos _ (by decide)⟩
    refine ess_cons (es_set 2 ?_ sc__law_draw.nd)
    refine ev_int ?_
    refine ess_cut (fun r => r = [.tape, .im (.int m), .im (.int 2305843009213693951), r.getD 3 .no, .no]) (es_if ?_) fun r hr3 => ?_
    · refine et_cmp oz_lt ?_
      refine ev_tape2 0 rfl fun c c0 => ?_
      refine ev_name 1 rfl ?_
      refine dB (fun h2 => ?_) fun h2 => ?_
      · refine ess_cons (es_set 3 ?_ sc__law_draw.nd)
        refine ev_int ?_
        refine ess_cut (fun r => ∃ z : Int, r = [.tape, .im (.int m), .im (.int 2305843009213693951), .im (.int z), .no]) (es_if ?_) fun r hz => ?_
        · refine et_cmp oz_gt ?_
          refine ev_len T.n_len ?_
          refine ev_tape0 0 rfl ?_
          refine ev_int ?_
          refine dB (fun h3 => ?_) fun h3 => ?_
          · rw [List.length_map] at h3
            refine ess_one (es_set 3 ?_ sc__law_draw.nd)
            refine ev_ix ?_
            refine ev_tape0 0 rfl ?_
            refine ev_bin oz_mod ?_
            refine ev_tape1 0 rfl fun z z0 => ?_
            refine ev_len T.n_len ?_
            refine ev_tape0 0 rfl ?_
            have hl : (0 : Int) < ((W.ns.2.map PyData.int).length : Nat) := by rw [List.length_map]; omega
            refine ⟨hl, ?_⟩
            obtain ⟨x, hx, y, rfl⟩ := pick (ds := W.ns.2.map PyData.int) (n := z % ((W.ns.2.map PyData.int).length : Nat)) (Pr := fun d => ∃ y : Int, d = .int y) (Int.emod_nonneg _ (by omega)) (Int.emod_lt_of_pos _ hl) (fun d hd => by
              obtain ⟨y, _, rfl⟩ := List.mem_map.mp hd
              exact ⟨y, rfl⟩)
            exact ⟨_, hx, y, rfl⟩
          · exact ess_nil ⟨0, rfl⟩
        · obtain ⟨z, rfl⟩ := hz
          refine ess_cut (fun r => ∃ z : Int, 0 ≤ z ∧ r = [.tape, .im (.int m), .im (.int 2305843009213693951), .im (.int z), .no]) (es_if ?_) fun r hz => ?_
          · have big : ∀ z : Int, Ess (Bx P w K mg base ["tape", "many", "prime", "cell", "found"] "_law_draw" (defScope s__law_draw) T.f__law_draw cdv A outer s H E) W (defBody s__law_draw |>.getD 1 (.Pass ⟨0, 0, 0, 0⟩) |> fun st => match st with
                | .If _ b _ _ => (match b.getD 2 (.Pass ⟨0, 0, 0, 0⟩) with | .If _ b _ _ => b | _ => []) | _ => []) [.tape, .im (.int m), .im (.int 2305843009213693951), .im (.int z), .no]
                { nx := fun r => ∃ z : Int, 0 ≤ z ∧ r = [.tape, .im (.int m), .im (.int 2305843009213693951), .im (.int z), .no], rt := R } := fun z => by
              refine ess_cons (es_set 3 ?_ sc__law_draw.nd)
              refine ev_bin oz_mod ?_
              refine ev_bin oz_add ?_
              refine ev_name 3 rfl ?_
              refine ev_bin oz_mul ?_
              refine ev_int ?_
              refine ev_tape1 0 rfl fun i i0 => ?_
              refine ⟨by walk_at "zs", ?_⟩
              refine ev_name 2 rfl ?_
              refine ⟨(show (0 : Int) < 2305843009213693951 by decide), ?_⟩
              obtain ⟨a0, a1⟩ := md (z + 1000003 * i)
              refine ess_cons (es_set 3 ?_ sc__law_draw.nd)
              refine ev_bin oz_mod ?_
              refine ev_bin oz_add ?_
              refine ev_bin oz_add ?_
              refine ev_bin oz_mul ?_
              refine ev_name 3 rfl ?_
              refine ev_name 3 rfl ?_
              refine ⟨mull (by omega) (by omega), ?_⟩
              refine ev_bin oz_mul ?_
              refine ev_int ?_
              refine ev_name 3 rfl ?_
              refine ⟨mull (by omega) (by omega), ?_⟩
              refine ev_int ?_
              refine ev_name 2 rfl ?_
              refine ⟨(show (0 : Int) < 2305843009213693951 by decide), ?_⟩
              refine ess_one (es_set 3 ?_ sc__law_draw.nd)
              refine ev_bin oz_mod ?_
              refine ev_bin oz_add ?_
              refine ev_bin oz_mul ?_
              refine ev_name 3 rfl ?_
              refine ev_name 3 rfl ?_
              refine ⟨mull (Int.le_trans (by decide) (md _).1) (Int.le_trans (Int.le_of_lt (md _).2) (by decide)), ?_⟩
              refine ev_int ?_
              refine ev_name 2 rfl ?_
              refine ⟨(show (0 : Int) < 2305843009213693951 by decide), ?_⟩
              exact ⟨_, (md _).1, rfl⟩
            refine et_ew (ew_or ?_)
            refine et_cmp oz_ge ?_
            refine ev_tape1 0 rfl fun i i0 => ?_
            refine ev_len T.n_len ?_
            refine ev_tape0 0 rfl ?_
            refine ⟨fun _ => ⟨fun _ => big z, fun h => by cases h⟩, fun _ => ?_⟩
            refine ew_or1 ?_
            refine et_cmp oz_lt ?_
            refine ev_name 3 rfl ?_
            refine ev_powc (m := 1000000000000000000) ?_
            refine dB (fun _ => big z) fun h4 => ?_
            exact ess_nil ⟨z, by omega, rfl⟩
          · obtain ⟨z, z0, rfl⟩ := hz
            refine ess_cons (es_tape 0 (.inl rfl) rfl ?_)
            refine ev_bin oz_add ?_
            refine ev_tape1 0 rfl fun i i0 => ?_
            refine ev_int ?_
            refine ⟨by omega, ?_⟩
            refine ess_one (es_tape 0 (.inr rfl) rfl ?_)
            refine ev_name 3 rfl ?_
            exact ⟨z0, rfl⟩
      · exact ess_nil rfl
    · rw [hr3]
      refine ess_cons (es_set 4 ?_ sc__law_draw.nd)
      refine ev_bin oz_mod ?_
      refine ev_tape2 0 rfl fun c c0 => ?_
      refine ev_name 1 rfl ?_
      refine ⟨h0, ?_⟩
      refine ess_cons (es_tape 0 (.inr rfl) rfl ?_)
      refine ev_bin oz_div ?_
      refine ev_tape2 0 rfl fun c2 c20 => ?_
      refine ev_name 1 rfl ?_
      refine ⟨divs h0 (by omega), ?_⟩
      refine ⟨Int.ediv_nonneg c20 (by omega), ?_⟩
      refine ess_one (es_ret ?_)
      refine ev_name 4 rfl ?_
      exact hR _ (Int.emod_nonneg _ (by omega)) (Int.emod_lt_of_pos _ h0)

-- NEEDS within
-- FILL: ⟨_, rfl, ?_⟩
def p__law_whole : List PyData → (PyData → Prop) → Prop := fun ds R => ∃ d, ds = [d] ∧ R (.bool (wholeD d))
theorem ok__law_whole (T : En K mg) : FnOk P w K mg base CX0 1 T.f__law_whole T.fd__law_whole ["item"] (Con K p__law_whole) := by
  refine fn_con T.F__law_whole sc__law_whole (fun ds R h => ?_) (fun cdv A outer s H E W ds R hr h => ?_)
  · obtain ⟨d, rfl, _⟩ := h
    rfl
  · obtain ⟨d, rfl, hR⟩ := h
    refine ess_one (es_ret ?_)
    refine ev_and ?_
    refine ev_isInt T.n_isinstance T.n_int ?_
    refine ev_name 0 rfl ?_
    refine ⟨fun h1 => ?_, fun h1 => ?_⟩
    · refine ev_one ?_
      refine ev_not ?_
      refine ev_isBool T.n_isinstance T.n_bool ?_
      refine ev_name 0 rfl ?_
      cases d <;> first | exact hR | cases h1
    · cases d <;> first | exact hR | cases h1

-- NEEDS within
-- FILL: ⟨_, _, _, rfl, ?_⟩
def p__law_within : List PyData → (PyData → Prop) → Prop := fun ds R => ∃ d lo hi, ds = [d, .int lo, .int hi] ∧ R (.bool (within d lo hi))
theorem ok__law_within (T : En K mg) : FnOk P w K mg base CX0 2 T.f__law_within T.fd__law_within ["item", "low", "high"] (Con K p__law_within) := by
  refine fn_con T.F__law_within sc__law_within (fun ds R h => ?_) (fun cdv A outer s H E W ds R hr h => ?_)
  · obtain ⟨d, lo, hi, rfl, _⟩ := h
    rfl
  · obtain ⟨d, lo, hi, rfl, hR⟩ := h
    refine ess_one (es_ret ?_)
    refine ev_and ?_
    refine ev_call (ok__law_whole T) hr T.g__law_whole T.F__law_whole.kp T.b__law_whole ?_
    refine ea_cons ?_
    refine ev_name 0 rfl ?_
    refine ea_nil ⟨_, rfl, ?_⟩
    refine ⟨fun h1 => ?_, fun h1 => ?_⟩
    · refine ev_one ?_
      cases d <;> first | (cases h1; done) | skip
      rename_i i
      refine ev_chain oz_le oz_le ?_
      refine ev_name 1 rfl ?_
      refine ev_name 0 rfl ?_
      have hR : R (.bool (decide (lo ≤ i) && decide (i ≤ hi))) := hR
      refine dB (fun h2 => ?_) fun h2 => ?_
      · refine ev_name 2 rfl ?_
        rw [decide_eq_true h2, Bool.true_and] at hR
        exact hR
      · rw [decide_eq_false h2, Bool.false_and] at hR
        exact hR
    · cases d <;> first | exact hR | cases h1

-- FILL: ⟨_, rfl, by walk_at "sim", ?_⟩
-- NEEDS base
-- NEEDS sim
/-- the law's deep likeness, asked of equal data -/
def p__law_like (n : Nat) : List PyData → (PyData → Prop) → Prop := fun ds R => ∃ d, ds = [d, d] ∧ Sim n d ∧ R (.bool true)
theorem like_seq (T : En K mg) {n : Nat} (ih : ∀ m, n = m + 1 → FnOk P w K mg base CX0 n T.f__law_like T.fd__law_like ["one", "two"] (Con K (p__law_like m))) {cdv : Value} {A : Around} {outer : List Env} {s : Shared} {H : Hp} {E : XK} {W : Wd} {R : PyData → Prop}
    (hr : Room n (Bx P w K mg base ["one", "two", "k"] "_law_like" (defScope s__law_like) T.f__law_like cdv A outer s H E).A) {d : PyData} {ds : List PyData} (hd : d = .list ds ∨ d = .tuple ds) (hs : Sim n d) (hR : R (.bool true)) :
    Ess (Bx P w K mg base ["one", "two", "k"] "_law_like" (defScope s__law_like) T.f__law_like cdv A outer s H E) W (match (defBody s__law_like).getD 0 (.Pass ⟨0, 0, 0, 0⟩) with | .If _ b _ _ => b | _ => []) [.im d, .im d, .no] { nx := fun _ => False, rt := R } := by
  have hl1 : isListD d = isListD d := rfl
  have ixd : ∀ {i : Nat} {x : PyData} {Q : PyData → Prop}, ds[i]? = some x → Q x → rIxZ d (.int (0 + (i : Nat))) Q := fun {i x Q} e q => by
    have e2 : atI ds (0 + (i : Nat)) = some x := by rw [Int.zero_add]; exact atI_nat e
    rcases hd with rfl | rfl
    · exact ⟨x, e2, q⟩
    · exact ⟨x, e2, q⟩
  obtain ⟨m, rfl, hsz, hin⟩ : ∃ m, n = m + 1 ∧ ds.length ≤ 1000000 ∧ ∀ x ∈ ds, Sim m x := by
    rcases hd with rfl | rfl
    · cases n with
      | zero => exact hs.elim
      | succ m => exact ⟨m, rfl, hs.1, hs.2⟩
    · cases n with
      | zero => exact hs.elim
      | succ m => exact ⟨m, rfl, hs.1, hs.2⟩
  have lenD : ∀ {Q : PyData → Prop}, Q (.int (ds.length : Int)) → rLen d Q := fun q => by
    rcases hd with rfl | rfl
    · exact q
    · exact q
  refine ess_cons (es_if ?_)
  refine et_ew (ew_or ?_)
  refine et_cmp oz_neB ?_
  refine ev_isList T.n_isinstance T.n_list ?_
  refine ev_name 0 rfl ?_
  refine ev_isList T.n_isinstance T.n_list ?_
  refine ev_name 1 rfl ?_
  refine dN (fun z => absurd rfl z) fun _ => ?_
  refine ew_or1 ?_
  refine et_cmp oz_neB ?_
  refine ev_isTup T.n_isinstance T.n_tuple ?_
  refine ev_name 0 rfl ?_
  refine ev_isTup T.n_isinstance T.n_tuple ?_
  refine ev_name 1 rfl ?_
  refine dN (fun z => absurd rfl z) fun _ => ?_
  refine ess_nil ?_
  refine ess_cons (es_if ?_)
  refine et_cmp oz_ne ?_
  refine ev_len T.n_len ?_
  refine ev_name 0 rfl ?_
  refine lenD ?_
  refine ev_len T.n_len ?_
  refine ev_name 1 rfl ?_
  refine lenD ?_
  refine dN (fun z => absurd rfl z) fun _ => ?_
  refine ess_nil ?_
  refine ess_one (es_ret ?_)
  refine ev_cmp (oz_eqD (zu hr)) ?_
  refine ev_el (el_lcI (own := [("k", 2)]) (gg_name 2) (fun _ _ _ _ _ => pg_name sc__law_like.nd rfl (.inl rfl)) rfl sc__law_like.nd (blkOk_by (N := ["one", "two", "k"]) (sc := defScope s__law_like) (by decide +kernel)) rfl ?_)
  refine ei_range1 T.n_range ?_
  refine ev_len T.n_len ?_
  refine ev_name 0 rfl ?_
  refine lenD ?_
  refine ⟨by omega, by omega, ?_⟩
  rw [show ((ds.length : Nat) : Int).toNat = ds.length from Int.toNat_natCast _]
  refine ⟨by rw [rngD_len]; exact Nat.le_trans hsz (by decide), fun _ acc => acc = [], rfl, fun i x acc hx ha hl => ⟨[x], rfl, ?_⟩, fun acc ha _ => ?_⟩
  · have hi : i < ds.length := by
      have := (List.getElem?_eq_some_iff.mp hx).1
      rwa [rngD_len] at this
    rw [rngD_get hi] at hx
    cases hx
    have hx2 := List.getElem?_eq_getElem hi
    have hin2 := hin _ (List.getElem_mem hi)
    rintro _ ⟨s', H', C, cl, fp, rfl⟩ W' _
    refine et_not (et_val ?_)
    refine ev_call (ih m rfl) hr T.g__law_like T.F__law_like.kp T.b__law_like ?_
    refine ea_cons ?_
    refine ev_ix ?_
    refine ev_name 0 rfl ?_
    refine ev_name 2 rfl ?_
    refine ixd hx2 ?_
    refine ea_cons ?_
    refine ev_ix ?_
    refine ev_name 1 rfl ?_
    refine ev_name 2 rfl ?_
    refine ixd hx2 ?_
    refine ea_nil ⟨_, rfl, hin2, ?_⟩
    exact ⟨fun z => (by cases z), fun _ => ha⟩
  · subst ha
    refine ev_el (el_lst (ea_nil ⟨by walk_at "sz", ?_⟩))
    exact ⟨by decide, by decide, hR⟩
theorem like_ok (T : En K mg) : ∀ n : Nat, FnOk P w K mg base CX0 (n + 1) T.f__law_like T.fd__law_like ["one", "two"] (Con K (p__law_like n))
  | n => by
    refine fn_con T.F__law_like sc__law_like (fun ds R h => ?_) (fun cdv A outer s H E W ds R hr h => ?_)
    · obtain ⟨d, rfl, _⟩ := h
      rfl
    · obtain ⟨d, rfl, hs, hR⟩ := h
      have seq : ∀ ds, (d = .list ds ∨ d = .tuple ds) → _ := fun ds hd => like_seq (W := W) T (fun m e => by subst e; exact like_ok T m) hr hd hs hR
      refine ess_cons (es_if ?_)
      refine et_val ?_
      refine ev_isiLT T.n_isinstance T.n_list T.n_tuple ?_
      refine ev_name 0 rfl ?_
      have flat : isLT d = false → PyData.eqv d d = true := fun _ => hs.self
      have sh : isLT d = false → SeqAt.shaped d = true := fun e => by
        unfold SeqAt.shaped
        rw [Bool.and_eq_true]
        refine ⟨hs.lay.1, decide_eq_true ?_⟩
        cases d with
        | list _ => cases e
        | tuple _ => cases e
        | dict _ => exact (sim_dict hs).elim
        | none => simp [PyData.depth]
        | bool _ => simp [PyData.depth]
        | int _ => simp [PyData.depth]
        | str _ => simp [PyData.depth]
      refine ⟨fun h1 => ?_, fun h1 => ?_⟩
      · cases d with
        | list ds => exact (seq ds (.inl rfl)).imp (fun _ q => q.elim) (fun _ q => q) (fun _ q => q) (fun _ q => q)
        | tuple ds => exact (seq ds (.inr rfl)).imp (fun _ q => q.elim) (fun _ q => q) (fun _ q => q) (fun _ q => q)
        | none => cases h1
        | bool _ => cases h1
        | int _ => cases h1
        | str _ => cases h1
        | dict _ => cases h1
      · refine ess_nil ?_
        refine ess_cons (es_if ?_)
        refine et_val ?_
        refine ev_isiLT T.n_isinstance T.n_list T.n_tuple ?_
        refine ev_name 1 rfl ?_
        refine ⟨fun h2 => absurd (h1.symm.trans h2) (by simp), fun _ => ?_⟩
        refine ess_nil ?_
        refine ess_one (es_ret ?_)
        refine ev_and ?_
        refine ev_cmp oz_eqB ?_
        refine ev_isBool T.n_isinstance T.n_bool ?_
        refine ev_name 0 rfl ?_
        refine ev_isBool T.n_isinstance T.n_bool ?_
        refine ev_name 1 rfl ?_
        refine dB (fun _ => ?_) fun z => absurd rfl z
        refine ev_one ?_
        refine ev_cmp (oz_eqD (zu hr)) ?_
        refine ev_name 0 rfl ?_
        refine ev_name 1 rfl ?_
        refine ⟨sh h1, sh h1, ?_⟩
        rw [hs.self]
        exact hR
theorem ok__law_like (T : En K mg) : FnOk P w K mg base CX0 6 T.f__law_like T.fd__law_like ["one", "two"] (Con K (p__law_like 5)) := like_ok T 5

-- FILL: ⟨_, _, rfl, by decide, by decide, fun $1 $2 $3 $1a $1b $2a $2b $3a $3b => ?_⟩
-- NEEDS base
/-- a drawn paper -/
def p__law_numbers : List PyData → (PyData → Prop) → Prop := fun ds R => ∃ m f : Int, ds = [.int m, .int f] ∧ (8 ≤ m ∧ m ≤ 200) ∧ (1 ≤ f ∧ f ≤ 10000) ∧ ∀ r d l : Int, 1 ≤ r → r ≤ m → 0 ≤ d → d < r → 1 ≤ l → l ≤ f → R (pap r d l)
theorem ok__law_numbers (T : En K mg) : FnOk P w K mg base CX0 2 T.f__law_numbers T.fd__law_numbers ["tape", "most", "far"] (ConT K p__law_numbers) := by
  refine fn_conT T.F__law_numbers sc__law_numbers (fun ds R h => ?_) (fun cdv A outer s H E W ds R hr h => ?_)
  · obtain ⟨m, f, rfl, _⟩ := h
    rfl
  · obtain ⟨m, f, rfl, ⟨m0, m1⟩, ⟨f0, f1⟩, hR⟩ := h
    refine ess_cons (es_set 3 ?_ sc__law_numbers.nd)
    refine ev_bin oz_add ?_
    refine ev_int ?_
    refine ev_callT 0 rfl (ok__law_draw T) hr T.g__law_draw T.F__law_draw.kp T.b__law_draw ?_
    refine ea_cons ?_
    refine ev_ix ?_
    refine ev_el (el_lst ?_)
    refine ea_cons ?_
    refine ev_name 1 rfl ?_
    refine ea_cons ?_
    refine ev_int ?_
    refine ea_cons ?_
    refine ev_name 1 rfl ?_
    refine ea_nil ⟨by walk_at "sz", ?_⟩
    refine ev_callT 0 rfl (ok__law_draw T) hr T.g__law_draw T.F__law_draw.kp T.b__law_draw ?_
    refine ea_cons ?_
    refine ev_int ?_
    refine ea_nil ⟨3, rfl, by decide, by decide, fun n n0 n1 => ?_⟩
    obtain ⟨x, hx, y, rfl, y0, y1⟩ := pick (ds := [.int m, .int 8, .int m]) (Pr := fun d => ∃ y : Int, d = .int y ∧ 8 ≤ y ∧ y ≤ m) n0 n1 (by
      intro d hd
      simp only [List.mem_cons, List.not_mem_nil, or_false] at hd
      rcases hd with rfl | rfl | rfl
      · exact ⟨m, rfl, m0, Int.le_refl _⟩
      · exact ⟨8, rfl, by omega, m0⟩
      · exact ⟨m, rfl, m0, Int.le_refl _⟩)
    refine ⟨_, hx, ?_⟩
    refine ea_nil ⟨y, rfl, by omega, by omega, fun r r0 r1 => ?_⟩
    refine ess_cons (es_set 4 ?_ sc__law_numbers.nd)
    refine ev_el (el_lst ?_)
    refine ea_cons ?_
    refine ev_int ?_
    refine ea_cons ?_
    refine ev_bin oz_div ?_
    refine ev_name 3 rfl ?_
    refine ev_int ?_
    refine ⟨divs (by decide) (by decide), ?_⟩
    refine ea_cons ?_
    refine ev_bin oz_div ?_
    refine ev_name 3 rfl ?_
    refine ev_int ?_
    refine ⟨divs (by decide) (by decide), ?_⟩
    refine ea_cons ?_
    refine ev_callT 0 rfl (ok__law_draw T) hr T.g__law_draw T.F__law_draw.kp T.b__law_draw ?_
    refine ea_cons ?_
    refine ev_name 3 rfl ?_
    refine ea_nil ⟨_, rfl, by omega, by omega, fun d1 d10 d11 => ?_⟩
    refine ea_cons ?_
    refine ev_bin oz_sub ?_
    refine ev_name 3 rfl ?_
    refine ev_int ?_
    refine ea_cons ?_
    refine ev_callT 0 rfl (ok__law_draw T) hr T.g__law_draw T.F__law_draw.kp T.b__law_draw ?_
    refine ea_cons ?_
    refine ev_name 3 rfl ?_
    refine ea_nil ⟨_, rfl, by omega, by omega, fun d2 d20 d21 => ?_⟩
    refine ea_nil ⟨by walk_at "sz", ?_⟩
    refine ess_one (es_ret ?_)
    refine ev_tup ?_
    refine ea_cons ?_
    refine ev_name 3 rfl ?_
    refine ea_cons ?_
    refine ev_ix ?_
    refine ev_name 4 rfl ?_
    refine ev_callT 0 rfl (ok__law_draw T) hr T.g__law_draw T.F__law_draw.kp T.b__law_draw ?_
    refine ea_cons ?_
    refine ev_int ?_
    refine ea_nil ⟨6, rfl, by decide, by decide, fun n n0 n1 => ?_⟩
    obtain ⟨x, hx, d, rfl, d0, d1⟩ := pick (ds := [.int 0, .int ((1 + r) / 2), .int ((1 + r) / 3), .int d1, .int ((1 + r) - 1), .int d2]) (Pr := fun e => ∃ d : Int, e = .int d ∧ 0 ≤ d ∧ d < 1 + r) n0 n1 (by
      intro e he
      simp only [List.mem_cons, List.not_mem_nil, or_false] at he
      rcases he with rfl | rfl | rfl | rfl | rfl | rfl
      · exact ⟨_, rfl, by omega, by omega⟩
      · exact ⟨_, rfl, by omega, by omega⟩
      · exact ⟨_, rfl, by omega, by omega⟩
      · exact ⟨_, rfl, by omega, by omega⟩
      · exact ⟨_, rfl, by omega, by omega⟩
      · exact ⟨_, rfl, by omega, by omega⟩)
    refine ⟨_, hx, ?_⟩
    refine ea_cons ?_
    refine ev_bin oz_add ?_
    refine ev_int ?_
    refine ev_callT 0 rfl (ok__law_draw T) hr T.g__law_draw T.F__law_draw.kp T.b__law_draw ?_
    refine ea_cons ?_
    refine ev_name 2 rfl ?_
    refine ea_nil ⟨f, rfl, by omega, by omega, fun l l0 l1 => ?_⟩
    refine ea_nil ⟨by walk_at "sz", ?_⟩
    exact hR (1 + r) d (1 + l) (by omega) (by omega) d0 d1 (by omega) (by omega)

-- FILL: ⟨_, _, _, _, rfl, by walk_at "pre", ?_⟩
-- NEEDS base
def p__law_phase : List PyData → (PyData → Prop) → Prop := fun ds R => ∃ r d l n, ds = [pap r d l, .int n] ∧ POk r d l ∧ R (.int (n * d % r))
theorem ok__law_phase (T : En K mg) : FnOk P w K mg base CX0 1 T.f__law_phase T.fd__law_phase ["kind", "place"] (Con K p__law_phase) := by
  refine fn_con T.F__law_phase sc__law_phase (fun ds R h => ?_) (fun cdv A outer s H E W ds R hr h => ?_)
  · obtain ⟨r, d, l, n, rfl, _⟩ := h
    rfl
  · obtain ⟨r, d, l, n, rfl, ⟨⟨h1, h2⟩, ⟨h3, h4⟩, h5⟩, hR⟩ := h
    refine ess_one (es_ret ?_)
    refine ev_bin oz_mod ?_
    refine ev_bin oz_mul ?_
    refine ev_name 1 rfl ?_
    refine ev_ix ?_
    refine ev_name 0 rfl ?_
    refine ev_int ?_
    refine ⟨_, rfl, ?_⟩
    refine ⟨by walk_at "zs", ?_⟩
    refine ev_ix ?_
    refine ev_name 0 rfl ?_
    refine ev_int ?_
    refine ⟨_, rfl, ?_⟩
    exact ⟨by walk_at "zs", hR⟩

-- NEEDS base
-- NEEDS next
-- FILL: ⟨_, _, _, _, _, rfl, by walk_at "pre", ?_⟩
def p__law_next : List PyData → (PyData → Prop) → Prop := fun ds R => ∃ r d l f n : Int, ds = [pap r d l, .int f, .int n] ∧ POk r d l ∧ R (.int (nxt r d f n))
theorem ok__law_next (T : En K mg) : FnOk P w K mg base CX0 2 T.f__law_next T.fd__law_next ["kind", "free", "place"] (Con K p__law_next) := by
  refine fn_con T.F__law_next sc__law_next (fun ds R h => ?_) (fun cdv A outer s H E W ds R hr h => ?_)
  · obtain ⟨r, d, l, f, n, rfl, _⟩ := h
    rfl
  · obtain ⟨r, d, l, f, n, rfl, hp, hR⟩ := h
    obtain ⟨⟨h1, h2⟩, ⟨h3, h4⟩, h5, h6⟩ := id hp
    have hs := nxt_spec (d := d) (f := f) (n := n) (show 0 < r by omega)
    refine ess_cons (es_set 3 ?_ sc__law_next.nd)
    refine ev_name 1 rfl ?_
    refine ess_cons (es_while (fun m ρ => ∃ x : Int, f ≤ x ∧ x + (m : Int) = nxt r d f n ∧ ρ = [.im (pap r d l), .im (.int f), .im (.int n), .im (.int x)]) (nxt r d f n - f).toNat ⟨f, by omega, by omega, rfl⟩ .never fun m ρ hP => ?_)
    obtain ⟨x, x1, x2, rfl⟩ := hP
    refine et_cmp oz_ne ?_
    refine ev_bin oz_mod ?_
    refine ev_name 3 rfl ?_
    refine ev_ix ?_
    refine ev_name 0 rfl ?_
    refine ev_int ?_
    refine ⟨_, rfl, ?_⟩
    refine ⟨by walk_at "zs", ?_⟩
    refine ev_call (ok__law_phase T) hr T.g__law_phase T.F__law_phase.kp T.b__law_phase ?_
    refine ea_cons ?_
    refine ev_name 0 rfl ?_
    refine ea_cons ?_
    refine ev_name 2 rfl ?_
    refine ea_nil ⟨_, _, _, _, rfl, by walk_at "pre", ?_⟩
    refine dN (fun hz => ?_) fun hz => ?_
    · refine ess_one (es_set 3 ?_ sc__law_next.nd)
      refine ev_bin oz_add ?_
      refine ev_name 3 rfl ?_
      refine ev_int ?_
      have hm : m ≠ 0 := by
        rintro rfl
        apply hz
        have : x = nxt r d f n := by omega
        rw [this]
        exact hs.2.2
      exact ⟨m - 1, by omega, x + 1, by omega, by omega, rfl⟩
    · refine ess_one (es_ret ?_)
      refine ev_name 3 rfl ?_
      have := nxt_min (show 0 < r by omega) x1 hz
      have e : x = nxt r d f n := by omega
      rw [e]
      exact hR

-- NEEDS most
-- FILL: ⟨_, _, _, _, _, _, rfl, by first | exact .inl rfl | exact .inr rfl, by walk_at "pre", by walk_at "zs", ?_⟩
def p__law_begins : List PyData → (PyData → Prop) → Prop := fun ds R => ∃ (r d l z : Int) (ps : List Int) (sq : PyData), ds = [pap r d l, .int z, sq] ∧ (sq = .tuple (ps.map PyData.int) ∨ sq = .list (ps.map PyData.int)) ∧ POk r d l ∧ ps.length ≤ 100000 ∧ R (optL (bgs r d l z 0 [] ps))
theorem ok__law_begins (T : En K mg) : FnOk P w K mg base CX0 3 T.f__law_begins T.fd__law_begins ["kind", "size", "places"] (Con K p__law_begins) := by
  refine fn_con T.F__law_begins sc__law_begins (fun ds R h => ?_) (fun cdv A outer s H E W ds R hr h => ?_)
  · obtain ⟨r, d, l, z, ps, sq, rfl, _⟩ := h
    rfl
  · obtain ⟨r, d, l, z, ps, sq, rfl, hsq, hp, hl, hR⟩ := h
    obtain ⟨⟨h1, h2⟩, ⟨h3, h4⟩, h5, h6⟩ := id hp
    refine ess_cons (es_parL 3 4 ?_ rfl sc__law_begins.nd)
    refine ess_cons (es_for .never rfl ?_)
    refine ei_seq ?_
    refine ev_name 2 rfl ?_
    refine ⟨_, hsq, ?_⟩
    refine ⟨fun i ρ => ∃ (f : Int) (acc : List Int) (xs : List PyData) (a b : Sl), bgs r d l z 0 [] ps = bgs r d l z f acc (ps.drop i) ∧ acc.length ≤ i ∧ xs = acc.map PyData.int ∧ ρ = [.im (pap r d l), .im (.int z), .im sq, .own xs, .im (.int f), a, b], ⟨0, [], _, _, _, rfl, Nat.le_refl _, rfl, rfl⟩, fun i x ρ hx hP => ?_, fun ρ hP => ?_⟩
    · obtain ⟨f, acc, _, a, b, q1, q2, rfl, rfl⟩ := hP
      obtain ⟨p, hp1, rfl⟩ : ∃ p, ps[i]? = some p ∧ x = .int p := by
        rw [List.getElem?_map] at hx
        obtain ⟨t, h6, h7⟩ := Option.map_eq_some_iff.mp hx
        exact ⟨t, h6, h7.symm⟩
      have hi := (List.getElem?_eq_some_iff.mp hp1).1
      have ed : ps.drop i = p :: ps.drop (i + 1) := by
        rw [List.drop_eq_getElem_cons hi]
        congr 1
        exact (List.getElem?_eq_some_iff.mp hp1).2
      rw [ed] at q1
      simp only [bgs] at q1
      refine tg_name 5 ?_ sc__law_begins.nd
      refine ess_cons (es_set 6 ?_ sc__law_begins.nd)
      refine ev_call (ok__law_next T) hr T.g__law_next T.F__law_next.kp T.b__law_next ?_
      refine ea_cons ?_
      refine ev_name 0 rfl ?_
      refine ea_cons ?_
      refine ev_name 4 rfl ?_
      refine ea_cons ?_
      refine ev_name 5 rfl ?_
      refine ea_nil ⟨_, _, _, _, _, rfl, by walk_at "pre", ?_⟩
      refine ess_cons (es_set 4 ?_ sc__law_begins.nd)
      refine ev_bin oz_add ?_
      refine ev_name 6 rfl ?_
      refine ev_name 1 rfl ?_
      refine ess_cons (es_if ?_)
      refine et_cmp oz_gt ?_
      refine ev_name 4 rfl ?_
      refine ev_ix ?_
      refine ev_name 0 rfl ?_
      refine ev_int ?_
      refine ⟨_, rfl, ?_⟩
      refine dB (fun hz => ?_) fun hz => ?_
      · refine ess_one (es_ret ?_)
        refine ev_none ?_
        rw [q1, if_pos hz] at hR
        exact hR
      · refine ess_nil ?_
        rw [if_neg hz] at q1
        refine ess_one (es_append 3 rfl ?_)
        refine ev_name 6 rfl ?_
        refine ⟨by rw [List.length_map]; exact Nat.lt_of_le_of_lt (show acc.length ≤ 100000 by omega) (by decide), ?_⟩
        refine ⟨_, acc ++ [nxt r d f p], _, _, _, q1, ?_, ?_, rfl⟩
        · rw [List.length_append]
          exact Nat.add_le_add_right q2 1
        · rw [List.map_append]
          rfl
    · obtain ⟨f, acc, _, a, b, q1, q2, rfl, rfl⟩ := hP
      rw [List.length_map, List.drop_length] at q1
      refine ess_frz 3 rfl ?_
      refine ess_one (es_ret ?_)
      refine ev_name 3 rfl ?_
      rw [q1] at hR
      exact hR

-- NEEDS kinds
-- LAYER Zk
theorem ok__law_kind (T : En K mg) {D : Addr} {b1 b2 b3 b4 b5 b6 : Bool} (X : ExcC K D) (h1 : PySem.W.kitOne K (.ref D) (.ref T.C_InvalidPaper) = some b1) (h2 : PySem.W.kitOne K (.ref D) (.ref T.C_InvalidLength) = some b2) (h3 : PySem.W.kitOne K (.ref D) (.ref T.C_InvalidPlace) = some b3)
    (h4 : PySem.W.kitOne K (.ref D) (.ref T.C_InvalidFactor) = some b4) (h5 : PySem.W.kitOne K (.ref D) (.ref T.C_NoRoom) = some b5) (h6 : PySem.W.kitOne K (.ref D) (.ref T.C_NothingToUndo) = some b6) : FnE P w K mg base 1 T.f__law_kind D (kindS b1 b2 b3 b4 b5 b6) := by
  refine fn_E T.F__law_kind sc__law_kind T.b__law_kind (by simp) fun cdv A outer s H p W hot hz hr => ?_
  obtain ⟨hh, vs, hv, hc⟩ := id hot
  refine ess_cons (es_setL 1 (el_lst ?_) sc__law_kind.nd)
  refine ea_cons ?_
  refine ev_tup ?_
  refine ea_cons ?_
  refine ev_str ?_
  refine ea_cons ?_
  refine ev_isE 0 rfl (p := p) (by exact List.mem_cons_self) X hz ⟨vs, hv⟩ T.n_isinstance T.m_InvalidPaper h1 ?_
  refine ea_nil ⟨by walk_at "sz", ?_⟩
  refine ea_cons ?_
  refine ev_tup ?_
  refine ea_cons ?_
  refine ev_str ?_
  refine ea_cons ?_
  refine ev_isE 0 rfl (p := p) (by exact List.mem_cons_self) X hz ⟨vs, hv⟩ T.n_isinstance T.m_InvalidLength h2 ?_
  refine ea_nil ⟨by walk_at "sz", ?_⟩
  refine ea_nil ⟨by walk_at "sz", ?_⟩
  refine ess_cons (es_setL 1 (el_addOwn 1 rfl ?_) sc__law_kind.nd)
  refine ev_el (el_lst ?_)
  refine ea_cons ?_
  refine ev_tup ?_
  refine ea_cons ?_
  refine ev_str ?_
  refine ea_cons ?_
  refine ev_isE 0 rfl (p := p) (by exact List.mem_cons_self) X hz ⟨vs, hv⟩ T.n_isinstance T.m_InvalidPlace h3 ?_
  refine ea_nil ⟨by walk_at "sz", ?_⟩
  refine ea_cons ?_
  refine ev_tup ?_
  refine ea_cons ?_
  refine ev_str ?_
  refine ea_cons ?_
  refine ev_isE 0 rfl (p := p) (by exact List.mem_cons_self) X hz ⟨vs, hv⟩ T.n_isinstance T.m_InvalidFactor h4 ?_
  refine ea_nil ⟨by walk_at "sz", ?_⟩
  refine ea_nil ⟨by walk_at "sz", ?_⟩
  refine ⟨Nat.le_trans (show _ ≤ 6 by simp) (by decide), ?_⟩
  refine ess_cons (es_setL 1 (el_addOwn 1 rfl ?_) sc__law_kind.nd)
  refine ev_el (el_lst ?_)
  refine ea_cons ?_
  refine ev_tup ?_
  refine ea_cons ?_
  refine ev_str ?_
  refine ea_cons ?_
  refine ev_isE 0 rfl (p := p) (by exact List.mem_cons_self) X hz ⟨vs, hv⟩ T.n_isinstance T.m_NoRoom h5 ?_
  refine ea_nil ⟨by walk_at "sz", ?_⟩
  refine ea_cons ?_
  refine ev_tup ?_
  refine ea_cons ?_
  refine ev_str ?_
  refine ea_cons ?_
  refine ev_isE 0 rfl (p := p) (by exact List.mem_cons_self) X hz ⟨vs, hv⟩ T.n_isinstance T.m_NothingToUndo h6 ?_
  refine ea_nil ⟨by walk_at "sz", ?_⟩
  refine ea_nil ⟨by walk_at "sz", ?_⟩
  refine ⟨Nat.le_trans (show _ ≤ 6 by simp) (by decide), ?_⟩
  refine ess_frz 1 rfl ?_
  refine ess_one (es_ret (ev_join ?_))
  refine ev_str ⟨_, rfl, ?_⟩
  refine ev_el (el_lcX 1 (own := [("word", 2), ("good", 3)]) (gg_tup [2, 3]) (fun p hot s H C cl fp => pgp_tup hot (pgs_cons (pg_name sc__law_kind.nd rfl (.inl rfl)) (pgs_cons (pg_name sc__law_kind.nd rfl (.inl rfl)) pgs_nil))) ⟨p, hot, List.mem_cons_self⟩ sc__law_kind.nd (blkOk_by (N := ["e", "some", "word", "good"]) (sc := defScope s__law_kind) (by decide +kernel)) rfl (dl := (pairsK b1 b2 b3 b4 b5 b6).map pairD) rfl ?_)
  refine ⟨by show 6 ≤ sizeLine; decide, fun i acc => acc = (((pairsK b1 b2 b3 b4 b5 b6).take i).filterMap fun q => if q.2 = true then some q.1 else none).map PyData.str, rfl, fun i x acc hx ha _ => ?_, fun acc ha hlen => ?_⟩
  · obtain ⟨q, hq, rfl⟩ : ∃ q, (pairsK b1 b2 b3 b4 b5 b6)[i]? = some q ∧ x = pairD q := by
      rw [List.getElem?_map] at hx
      obtain ⟨t, h6, h7⟩ := Option.map_eq_some_iff.mp hx
      exact ⟨t, h6, h7.symm⟩
    refine ⟨[.str q.1, .bool q.2], rfl, ?_⟩
    subst ha
    rintro _ ⟨s', H', C, cl, fp, rfl⟩ W' _
    refine et_val ?_
    refine ev_name 3 rfl ?_
    refine ⟨fun hb => ?_, fun hb => ?_⟩
    · rintro _ ⟨s', H', C, cl, fp, rfl⟩ W' _
      refine ev_name 2 rfl ?_
      show _ = (((pairsK b1 b2 b3 b4 b5 b6).take (i + 1)).filterMap fun q => if q.2 = true then some q.1 else none).map PyData.str
      rw [List.take_add_one, hq, List.filterMap_append, List.map_append]
      simp [hb]
    · show _ = (((pairsK b1 b2 b3 b4 b5 b6).take (i + 1)).filterMap fun q => if q.2 = true then some q.1 else none).map PyData.str
      rw [List.take_add_one, hq, List.filterMap_append, List.map_append]
      simp [hb]
  · subst ha
    refine ⟨wordsK b1 b2 b3 b4 b5 b6, ?_, wordsK_small _ _ _ _ _ _, rfl⟩
    rfl
theorem kit_ne {D C : Addr} (h : PySem.W.kitOne K (.ref D) (.ref C) = some false) : D ≠ C := by
  intro e
  rw [e] at h
  unfold PySem.W.kitOne at h
  rw [if_pos (by simp)] at h
  cases h
theorem takes0N {X : Cx} : L2N.Takes X (fun _ _ _ _ => False) := fun _ _ x => by
  obtain ⟨_, _, _, _, _, _, _, _, _, _, _, _, _, _, _, _, z⟩ := x
  exact z.elim
theorem kind_paper (T : En K mg) : FnE P w K mg base 1 T.f__law_kind T.C_InvalidPaper "paper" := by
  have := ok__law_kind (P := P) (w := w) (base := base) T T.ex_InvalidPaper T.ki_InvalidPaper_InvalidPaper T.ki_InvalidPaper_InvalidLength T.ki_InvalidPaper_InvalidPlace T.ki_InvalidPaper_InvalidFactor T.ki_InvalidPaper_NoRoom T.ki_InvalidPaper_NothingToUndo
  rw [show kindS true false false false false false = "paper" by decide +kernel] at this
  exact this
theorem kind_length (T : En K mg) : FnE P w K mg base 1 T.f__law_kind T.C_InvalidLength "length" := by
  have := ok__law_kind (P := P) (w := w) (base := base) T T.ex_InvalidLength T.ki_InvalidLength_InvalidPaper T.ki_InvalidLength_InvalidLength T.ki_InvalidLength_InvalidPlace T.ki_InvalidLength_InvalidFactor T.ki_InvalidLength_NoRoom T.ki_InvalidLength_NothingToUndo
  rw [show kindS false true false false false false = "length" by decide +kernel] at this
  exact this
theorem kind_place (T : En K mg) : FnE P w K mg base 1 T.f__law_kind T.C_InvalidPlace "place" := by
  have := ok__law_kind (P := P) (w := w) (base := base) T T.ex_InvalidPlace T.ki_InvalidPlace_InvalidPaper T.ki_InvalidPlace_InvalidLength T.ki_InvalidPlace_InvalidPlace T.ki_InvalidPlace_InvalidFactor T.ki_InvalidPlace_NoRoom T.ki_InvalidPlace_NothingToUndo
  rw [show kindS false false true false false false = "place" by decide +kernel] at this
  exact this
theorem kind_room (T : En K mg) : FnE P w K mg base 1 T.f__law_kind T.C_NoRoom "room" := by
  have := ok__law_kind (P := P) (w := w) (base := base) T T.ex_NoRoom T.ki_NoRoom_InvalidPaper T.ki_NoRoom_InvalidLength T.ki_NoRoom_InvalidPlace T.ki_NoRoom_InvalidFactor T.ki_NoRoom_NoRoom T.ki_NoRoom_NothingToUndo
  rw [show kindS false false false false true false = "room" by decide +kernel] at this
  exact this
theorem kind_nothing (T : En K mg) : FnE P w K mg base 1 T.f__law_kind T.C_NothingToUndo "nothing" := by
  have := ok__law_kind (P := P) (w := w) (base := base) T T.ex_NothingToUndo T.ki_NothingToUndo_InvalidPaper T.ki_NothingToUndo_InvalidLength T.ki_NothingToUndo_InvalidPlace T.ki_NothingToUndo_InvalidFactor T.ki_NothingToUndo_NoRoom T.ki_NothingToUndo_NothingToUndo
  rw [show kindS false false false false false true = "nothing" by decide +kernel] at this
  exact this

-- NEEDS roll
-- NEEDS kinds
-- LAYER Zj
-- MUT
-- CALLS Roll_cut Roll_undo
def p__law_call : List (Str × PyData) → List PyData → (PyData → List (Str × PyData) → Prop) → (Addr → Prop) → Prop := fun fs ds R Er => ∃ (r d l z : Int) (rows : List (Int × Int)) (p : PyData), fs = rolF r d l z rows ∧ ds = [p] ∧ POk r d l ∧ rows.length < 100000 ∧
  ((p = .str "undo" ∧ (rows = [] → R (.str "nothing") (rolF r d l z rows)) ∧ ∀ ro q, rows = ro ++ [q] → R (.int q.1) (rolF r d l z ro)) ∨
   (SeqAt.shaped p = true ∧ PyData.eqv p (.str "undo") = false ∧ (badP rows p → R (.str "place") (rolF r d l z rows)) ∧
    ∀ n : Int, p = .int n → 0 ≤ n → n ≤ 1000000000000 → n ∉ rows.map Prod.fst → (begO r d l z rows n = none → R (.str "room") (rolF r d l z rows)) ∧ ∀ b, begO r d l z rows n = some b → R (.int b) (rolF r d l z (rows ++ [(n, b)]))))
theorem ok__law_call (T : En K mg) : FnOk P w K mg base (L2N.CX P w) 10 T.f__law_call T.fd__law_call ["own", "place"] (XConS K T.C_Roll p__law_call) := by
  refine fn_xconS T.F__law_call sc__law_call (fun fs ds R Er h => ?_) (fun cdv A outer s H E W a dx fs ds R Er hr tk0 hE h => ?_)
  · obtain ⟨r, d, l, z, rows, p, rfl, rfl, _⟩ := h
    rfl
  · obtain ⟨r, d, l, z, rows, p, rfl, rfl, hp, hl, h⟩ := h
    have n1 : T.C_NoRoom ≠ T.C_InvalidPlace := kit_ne T.ki_NoRoom_InvalidPlace
    have n2 : T.C_NothingToUndo ≠ T.C_InvalidPlace := kit_ne T.ki_NothingToUndo_InvalidPlace
    have n3 : T.C_NothingToUndo ≠ T.C_NoRoom := kit_ne T.ki_NothingToUndo_NoRoom
    refine em_tryE (k := 1) (S := fun D => if D = T.C_InvalidPlace then "place" else if D = T.C_NoRoom then "room" else "nothing") (Ep := fun D ρ' => ρ'[0]? = some (Sl.obj a dx T.C_Roll (rolF r d l z rows)) ∧ ((D = T.C_InvalidPlace ∧ R (.str "place") (rolF r d l z rows)) ∨ (D = T.C_NoRoom ∧ R (.str "room") (rolF r d l z rows)) ∨ (D = T.C_NothingToUndo ∧ R (.str "nothing") (rolF r d l z rows))))
      2 rfl rfl sc__law_call.nd takes0N (hr.mono (by decide)) T.m_WallError T.g__law_kind T.F__law_kind.kp (fun D ρ' h => ?_) (fun D ρ' h => ?_) (fun pn xe tk => ?_) (fun D ρ' h => ?_)
    · rcases h.2 with ⟨rfl, _⟩ | ⟨rfl, _⟩ | ⟨rfl, _⟩
      · exact T.ek_InvalidPlace
      · exact T.ek_NoRoom
      · exact T.ek_NothingToUndo
    · rcases h.2 with ⟨rfl, _⟩ | ⟨rfl, _⟩ | ⟨rfl, _⟩
      · rw [if_pos rfl]
        exact kind_place T
      · rw [if_neg n1, if_pos rfl]
        exact kind_room T
      · rw [if_neg n2, if_neg n3]
        exact kind_nothing T
    · refine em_retx 0 ?_
      refine evx_if ?_
      refine et_cmp (oz_eqD (zu hr)) ?_
      refine ev_name 1 rfl ?_
      refine ev_str ?_
      rcases h with ⟨rfl, hU, hV⟩ | ⟨hs, he, hX, hR⟩
      · refine ⟨by decide +kernel, by decide +kernel, ?_⟩
        rw [show PyData.eqv (.str "undo") (.str "undo") = true by simp [PyData.eqv]]
        refine yesT ?_
        refine evx_methS0 tk 0 rfl T.cl_Roll T.me_Roll_undo (ok_Roll_undo T) (hr.mono (by decide)) T.b_Roll_undo (by walk_at "fl") ?_
        exact ⟨_, _, _, _, _, rfl, rfl, by omega, fun e => ⟨rfl, .inr (.inr ⟨rfl, hU e⟩)⟩, fun ro q e => ⟨_, rfl, hV ro q e⟩⟩
      · refine ⟨hs, by decide +kernel, ?_⟩
        rw [he]
        refine noF ?_
        refine evx_methS tk 0 rfl T.cl_Roll T.me_Roll_cut (ok_Roll_cut T) (hr.mono (by decide)) T.b_Roll_cut (by walk_at "fl") ?_
        refine ea_cons ?_
        refine ev_name 1 rfl ?_
        exact ea_nil ⟨_, _, _, _, _, _, rfl, rfl, hp, hl, fun hb => ⟨rfl, .inl ⟨rfl, hX hb⟩⟩, fun n e n1 n2 n3 => ⟨fun e2 => ⟨rfl, .inr (.inl ⟨rfl, (hR n e n1 n2 n3).1 e2⟩)⟩, fun b e2 => ⟨_, rfl, (hR n e n1 n2 n3).2 b e2⟩⟩⟩
    · refine ⟨_, 0, h.1, ?_⟩
      rcases h.2 with ⟨rfl, hh⟩ | ⟨rfl, hh⟩ | ⟨rfl, hh⟩
      · rw [if_pos rfl]
        exact hh
      · rw [if_neg n1, if_pos rfl]
        exact hh
      · rw [if_neg n2, if_neg n3]
        exact hh

-- NEEDS roll
-- NEEDS kinds
-- LAYER Zj
-- CALLS Roll___call__
def p__law_asked (C : Addr) : List OD → (OD → Prop) → (Addr → Prop) → Prop := fun ods R Er => ∃ (r d l z : Int) (rows : List (Int × Int)) (p : PyData), ods = [.o C (rolF r d l z rows), .d p] ∧ POk r d l ∧ rows.length ≤ 100000 ∧
  (∀ n : Int, p = .int n → 0 ≤ n → n ≤ 1000000000000 → n ∉ rows.map Prod.fst → R (.d (optI (begO r d l z rows n)))) ∧ (badP rows p → R (.d (.str "place")))
theorem ok__law_asked (T : En K mg) : FnOk P w K mg base (L2N.CX P w) 10 T.f__law_asked T.fd__law_asked ["own", "place"] (GCon K (p__law_asked T.C_Roll)) := by
  refine fn_g T.F__law_asked sc__law_asked (fun ods R Er h => ?_) (fun cdv A outer s H E W ods ad R Er hr tk0 hE h => ?_)
  · obtain ⟨r, d, l, z, rows, p, rfl, _⟩ := h
    rfl
  · obtain ⟨r, d, l, z, rows, p, rfl, hp, hl, hR, hX⟩ := h
    refine eg_ess ?_
    refine ess_one (es_tryE (k := 1) (Er := fun D => badP rows p ∧ D = T.C_InvalidPlace) (S := fun _ => "place") 2 rfl rfl sc__law_asked.nd takes0N (hr.mono (by decide)) T.m_WallError T.g__law_kind T.F__law_kind.kp (fun D h => by rw [h.2]; exact T.ek_InvalidPlace) (fun D h => by rw [h.2]; exact kind_place T) (fun pn xe tk => ?_) fun D h => ?_)
    · refine ess_one (es_ret ?_)
      refine ev_edf (edf_callO tk.p T.co_Roll (ok_Roll___call__ T) (hr.mono (by decide)) T.b_Roll___call__ ?_)
      refine ed_name 0 rfl ⟨_, rfl, ?_⟩
      refine eda_cons (ed_ev ?_)
      refine ev_name 1 rfl ?_
      exact eda_nil ⟨_, _, _, _, _, _, rfl, hp, hl, hR, fun hb => ⟨hb, rfl⟩⟩
    · exact hX h.1

-- NEEDS roll
-- NEEDS most
-- NEEDS sim
-- NEEDS kinds
-- LAYER Zm
-- OBJ own Roll
-- CALLS Roll_lines Roll___contains__ Roll___len__ Roll___bool__
/-- what the law's own lines are made of -/
def partsL (z : Int) (q : Int × Int) : List (Nat × Int) := [(3, q.1), (6, q.2), (6, q.2 + z)]
theorem join3 (a b c : Str) : Txt.join "" [a, b, c] = ((Str.empty ++ a) ++ b) ++ c := by
  rw [show Txt.join "" [a, b, c] = Str.join "" [a, b, c] from StrLaws.glued_eq_join _ _]
  show (a ++ ("" : Str) ++ (b ++ ("" : Str) ++ c) : Str) = _
  show (⟨(a.cps ++ #[]) ++ ((b.cps ++ #[]) ++ c.cps)⟩ : Str) = ⟨((#[] ++ a.cps) ++ b.cps) ++ c.cps⟩
  simp
theorem str_len15 {a : Int} (h0 : 0 ≤ a) (h1 : a < 10 ^ 15) : (Str.ofString (toString a)).length ≤ 15 := by
  rw [str_digits h0]
  have := digits_15 h0 h1
  show (List.toArray _).size ≤ 15
  simp only [List.size_toArray, List.length_map]
  exact this
theorem strOk_app {x y : Str} (h1 : PyData.strOk x = true) (h2 : PyData.strOk y = true) : PyData.strOk (x ++ y) = true := by
  unfold PyData.strOk at h1 h2 ⊢
  show (x.cps ++ y.cps).all _ = true
  rw [Array.all_append, h1, h2]
  rfl
theorem strOk_pad {w : Nat} {a : Int} : PyData.strOk (padT w a) = true := by
  unfold PyData.strOk
  rw [Array.all_eq_true_iff_forall_mem]
  intro c hc
  have hc : c ∈ (List.toArray (List.replicate (w - (Nat.toDigits 10 a.natAbs).length) 32 ++ (Nat.toDigits 10 a.natAbs).map Char.toNat)) := hc
  rw [List.mem_toArray, List.mem_append] at hc
  rw [decide_eq_true_eq]
  rcases hc with hc | hc
  · rw [List.eq_of_mem_replicate hc]
    decide
  · obtain ⟨ch, _, rfl⟩ := List.mem_map.mp hc
    have : ch.toNat < 0xd800 ∨ (0xdfff < ch.toNat ∧ ch.toNat < 0x110000) := ch.valid
    omega
theorem strOk_row {z : Int} {q : Int × Int} : PyData.strOk (rowT z q) = true := strOk_app (strOk_app (strOk_app (by decide +kernel) strOk_pad) strOk_pad) strOk_pad
theorem zip_parts {z : Int} {q : Int × Int} : zipD [.str (Str.ofString (toString q.1)), .str (Str.ofString (toString q.2)), .str (Str.ofString (toString (q.2 + z)))] [.int 3, .int 6, .int 6] = (partsL z q).map fun t => .tuple [.str (Str.ofString (toString t.2)), .int (t.1 : Nat)] := rfl
theorem zip_rows {rows : List (Int × Int)} : zipD ((rows.map Prod.fst).map PyData.int) ((rows.map Prod.snd).map PyData.int) = rows.map pcut := by
  induction rows with
  | nil => rfl
  | cons q r ih =>
    simp only [List.map_cons, zipD, ih]
    rfl
theorem texts_self {ds : List Str} : PyData.eqv (.list (ds.map PyData.str)) (.list (ds.map PyData.str)) = true := by
  simp only [PyData.eqv]
  exact eqvAll_self fun d hd => by
    obtain ⟨x, _, rfl⟩ := List.mem_map.mp hd
    simp [PyData.eqv]
def p__law_right (C : Addr) : List OD → (OD → Prop) → (Addr → Prop) → Prop := fun ods R Er => ∃ (r d l z : Int) (rows : List (Int × Int)), ods = [.o C (rolF r d l z rows), .d (pap r d l), .d (.int z), .d (.tuple ((rows.map Prod.fst).map PyData.int))] ∧ POk r d l ∧ rows.length ≤ 1000 ∧ (1 ≤ z ∧ z ≤ 1000000) ∧
  (∀ q ∈ rows, (0 ≤ q.1 ∧ q.1 ≤ 1000000000000) ∧ 0 ≤ q.2 ∧ q.2 ≤ 1000000000) ∧ bgs r d l z 0 [] (rows.map Prod.fst) = some (rows.map Prod.snd) ∧ R (.d (.bool true))
theorem ok__law_right (T : En K mg) : FnOk P w K mg base (L2N.CX P w) 5 T.f__law_right T.fd__law_right ["own", "kind", "size", "places"] (GCon K (p__law_right T.C_Roll)) := by
  refine fn_g T.F__law_right sc__law_right (fun ods R Er h => ?_) (fun cdv A outer s H E W ods ad R Er hr tk hE h => ?_)
  · obtain ⟨r, d, l, z, rows, rfl, _⟩ := h
    rfl
  · obtain ⟨r, d, l, z, rows, rfl, hp, hl, ⟨z1, z2⟩, hq, hb, hR⟩ := h
    refine eg_ess ?_
    have eln : ∀ Q : PyData → Prop, Q (.int (rows.length : Int)) → Z.rLen (.tuple ((rows.map Prod.fst).map PyData.int)) Q := fun Q h => by
      show Q (.int ((((rows.map Prod.fst).map PyData.int).length : Nat) : Int))
      rw [List.length_map, List.length_map]
      exact h
    have szb : (2000000 : Nat) ≤ sizeLine := by decide
    refine ess_cons (es_set 4 ?_ sc__law_right.nd)
    refine ev_call (ok__law_begins T) (hr.mono (by decide)) T.g__law_begins T.F__law_begins.kp T.b__law_begins ?_
    refine ea_cons ?_
    refine ev_name 1 rfl ?_
    refine ea_cons ?_
    refine ev_name 2 rfl ?_
    refine ea_cons ?_
    refine ev_name 3 rfl ?_
    refine ea_nil ⟨_, _, _, _, _, _, rfl, .inl rfl, hp, by rw [List.length_map]; omega, ?_⟩
    rw [hb]
    rw [show optL (some (rows.map Prod.snd)) = .list ((rows.map Prod.snd).map PyData.int) from rfl]
    refine ess_cut (fun ρ => ρ = [slO (ad 0) (.o T.C_Roll (rolF r d l z rows)), .im (pap r d l), .im (.int z), .im (.tuple ((rows.map Prod.fst).map PyData.int)), .im (.list ((rows.map Prod.snd).map PyData.int)), .im (.int (endR z rows)), .no, .no, .no, .no, .no, .no]) (es_set 5 ?_ sc__law_right.nd) ?_
    · refine ev_if ?_
      refine et_cmp (oz_neD (zu hr)) ?_
      refine ev_name 4 rfl ?_
      refine ev_el (el_lst ?_)
      refine ea_nil ⟨by walk_at "sz", ?_⟩
      refine ⟨(sim_ints (n := 0) (by rw [List.length_map]; omega)).shaped (by decide), by decide, ?_⟩
      rw [show (PyData.list []) = .list (([] : List Int).map PyData.int) from rfl, eqv_ints]
      rcases List.eq_nil_or_concat rows with rfl | ⟨ro, q, rfl⟩
      · refine dN (fun h => absurd rfl h) fun _ => ?_
        refine ev_int ?_
        rfl
      · rw [List.concat_eq_append]
        refine dN (fun h => ?_) fun h => absurd h (by simp)
        refine ev_bin oz_add ?_
        refine ev_ix ?_
        refine ev_name 4 rfl ?_
        refine ev_neg ?_
        refine ev_int ?_
        refine ⟨.int q.2, by rw [List.map_append, List.map_append]; exact atI_last _ _, ?_⟩
        refine ev_name 2 rfl ?_
        rw [endR_snoc]
        rfl
    rintro _ rfl
    refine ess_cons (es_if ?_)
    refine et_ew ?_
    refine ew_or ?_
    refine et_cmp (oz_neD (zu hr)) ?_
    refine ev_prop 0 (by first | exact .inl rfl | exact .inr rfl) T.cl_Roll T.me_Roll_places (ok_Roll_places T) (hr.mono (by decide)) T.b_Roll_places ⟨_, _, _, _, _, rfl, rfl, by walk_at "zs", ?_⟩
    refine ev_name 3 rfl ?_
    refine ⟨(sim_intsT (n := 0) (by rw [List.length_map]; omega)).shaped (by decide), (sim_intsT (n := 0) (by rw [List.length_map]; omega)).shaped (by decide), ?_⟩
    rw [eqv_intsT]
    refine dN (fun h => absurd rfl h) fun _ => ?_
    refine ew_or ?_
    refine et_cmp oz_ne ?_
    refine ev_prop 0 (by first | exact .inl rfl | exact .inr rfl) T.cl_Roll T.me_Roll_left (ok_Roll_left T) (hr.mono (by decide)) T.b_Roll_left ⟨_, _, _, _, _, rfl, rfl, by walk_at "zs", ?_⟩
    refine ev_bin oz_sub ?_
    refine ev_ix ?_
    refine ev_name 1 rfl ?_
    refine ev_int ?_
    refine ⟨_, rfl, ?_⟩
    refine ev_name 5 rfl ?_
    refine dN (fun h => absurd rfl h) fun _ => ?_
    refine ew_or1 ?_
    refine et_cmp oz_ne ?_
    refine ev_lenO tk_none T.n_len T.oo_Roll___len__ (ok_Roll___len__ T) (hr.mono (by decide)) T.b_Roll___len__ ?_
    refine ed_name 0 rfl ⟨_, rfl, _, _, _, _, _, rfl, by omega, _, rfl, by omega, by omega, ?_⟩
    refine ev_len T.n_len ?_
    refine ev_name 3 rfl ?_
    refine eln _ ?_
    refine dN (fun h => absurd rfl h) fun _ => ess_nil ?_
    refine ess_cons (es_setL 6 (el_lst (ea_nil ⟨by walk_at "sz", ?_⟩)) sc__law_right.nd)
    refine ess_cons (es_for owns_bn rfl ?_)
    refine ei_zipTL T.n_zip ?_
    refine ev_name 3 rfl ?_
    refine ev_name 4 rfl ?_
    refine ⟨_, _, rfl, rfl, ?_⟩
    rw [zip_rows]
    refine ⟨fun i ρ => ∃ (xs : List PyData) (a b c : Sl), xs = (rows.take i).map (fun q => PyData.str (rowT z q)) ∧ ρ = [slO (ad 0) (.o T.C_Roll (rolF r d l z rows)), .im (pap r d l), .im (.int z), .im (.tuple ((rows.map Prod.fst).map PyData.int)), .im (.list ((rows.map Prod.snd).map PyData.int)), .im (.int (endR z rows)), .own xs, a, b, c, .no, .no], ⟨_, _, _, _, rfl, rfl⟩, fun i x ρ hx hP => ?_, fun ρ hP => ?_⟩
    · obtain ⟨_, a, b, c, rfl, rfl⟩ := hP
      obtain ⟨q, hq1, rfl⟩ : ∃ q, rows[i]? = some q ∧ x = pcut q := by
        rw [List.getElem?_map] at hx
        obtain ⟨t, h6, h7⟩ := Option.map_eq_some_iff.mp hx
        exact ⟨t, h6, h7.symm⟩
      obtain ⟨⟨p1, p2⟩, b1, b2⟩ := hq q (List.mem_of_getElem? hq1)
      have hlt := (List.getElem?_eq_some_iff.mp hq1).1
      refine tg_tup rfl (tgs_name 7 (tgs_name 8 (tgs_nil ?_) sc__law_right.nd) sc__law_right.nd)
      refine ess_cons (es_set 9 ?_ sc__law_right.nd)
      refine ev_el (el_lst ?_)
      refine ea_cons ?_
      refine ev_strI T.n_str ?_
      refine ev_name 7 rfl ?_
      refine ⟨log_15 (by omega) (by omega), ?_⟩
      refine ea_cons ?_
      refine ev_strI T.n_str ?_
      refine ev_name 8 rfl ?_
      refine ⟨log_15 (by omega) (by omega), ?_⟩
      refine ea_cons ?_
      refine ev_strI T.n_str ?_
      refine ev_bin oz_add ?_
      refine ev_name 8 rfl ?_
      refine ev_name 2 rfl ?_
      refine ⟨log_15 (by omega) (by omega), ?_⟩
      refine ea_nil ⟨by walk_at "sz", ?_⟩
      refine ess_one (es_append 6 rfl ?_)
      refine ev_join ?_
      refine ev_str ?_
      refine ⟨_, rfl, ?_⟩
      refine ev_el (el_lc (own := [("part", 10), ("wide", 11)]) (gg_tup [10, 11]) (fun _ _ _ _ _ => pg_tup rfl (pgs_cons (pg_name sc__law_right.nd rfl (.inl rfl)) (pgs_cons (pg_name sc__law_right.nd rfl (.inl rfl)) (pgs_nil)))) rfl sc__law_right.nd (blkOk_by (N := ["own", "kind", "size", "places", "begins", "free", "lines", "place", "begin", "parts", "part", "wide"]) (sc := defScope s__law_right) (by decide +kernel)) rfl ?_)
      refine ei_zipLT T.n_zip ?_
      refine ev_name 9 rfl ?_
      refine ev_tup ?_
      refine ea_cons ?_
      refine ev_int ?_
      refine ea_cons ?_
      refine ev_int ?_
      refine ea_cons ?_
      refine ev_int ?_
      refine ea_nil ⟨by walk_at "sz", ?_⟩
      refine ⟨_, _, rfl, rfl, ?_⟩
      rw [show zipD [.str (Str.ofString (toString q.1)), .str (Str.ofString (toString q.2)), .str (Str.ofString (toString (q.2 + z)))] [.int 3, .int 6, .int 6] = (partsL z q).map fun t => .tuple [.str (Str.ofString (toString t.2)), .int (t.1 : Nat)] from rfl]
      refine ⟨by rw [List.length_map]; exact Nat.le_trans (show 3 ≤ 2000000 by omega) szb, fun j acc => acc = ((partsL z q).take j).map (fun t => PyData.str (padT t.1 t.2)), rfl, fun j x acc hx ha _ => ?_, fun acc ha hlen => ?_⟩
      · obtain ⟨t, ht, rfl⟩ : ∃ t, (partsL z q)[j]? = some t ∧ x = .tuple [.str (Str.ofString (toString t.2)), .int (t.1 : Nat)] := by
          rw [List.getElem?_map] at hx
          obtain ⟨t, h6, h7⟩ := Option.map_eq_some_iff.mp hx
          exact ⟨t, h6, h7.symm⟩
        have tb : t.1 ≤ 6 ∧ 0 ≤ t.2 ∧ t.2 < 10 ^ 15 := by
          have := List.mem_of_getElem? ht
          simp only [partsL, List.mem_cons, List.not_mem_nil, or_false] at this
          rcases this with rfl | rfl | rfl <;> refine ⟨?_, ?_, ?_⟩ <;> simp only <;> omega
        obtain ⟨t1, t2, t3⟩ := tb
        have tl := str_len15 t2 t3
        refine ⟨[.str (Str.ofString (toString t.2)), .int (t.1 : Nat)], rfl, ?_⟩
        subst ha
        rintro _ ⟨s', H', C, cl, fp, rfl⟩ W' _
        have hrl : (repT " " (((t.1 : Nat) : Int) - (((Str.ofString (toString t.2)).length : Nat) : Int))).length ≤ 6 := by
          rw [repT_eq]
          show (List.toArray (List.replicate _ 32)).size ≤ 6
          rw [List.size_toArray, List.length_replicate]
          omega
        refine ev_bin oz_add ?_
        refine ev_bin oz_mulT ?_
        refine ev_str ?_
        refine ev_bin oz_sub ?_
        refine ev_name 11 rfl ?_
        refine ev_lenS T.n_len ?_
        refine ev_name 10 rfl ?_
        refine ⟨by omega, ?_⟩
        refine ⟨⟨by decide, by omega, by omega, by omega⟩, ?_⟩
        refine ev_name 10 rfl ?_
        refine ⟨by omega, ?_⟩
        rw [← padT_eq t2]
        show _ = ((partsL z q).take (j + 1)).map (fun t => PyData.str (padT t.1 t.2))
        rw [List.take_add_one, ht, List.map_append]
        rfl
      · have ha : acc = (partsL z q).map (fun t => PyData.str (padT t.1 t.2)) := ha
        subst ha
        have l1 := padT_1000 (w := 3) p1 (show q.1 < 10 ^ 15 by omega) (by decide)
        have l2 := padT_1000 (w := 6) b1 (show q.2 < 10 ^ 15 by omega) (by decide)
        have l3 := padT_1000 (w := 6) (show 0 ≤ q.2 + z by omega) (show q.2 + z < 10 ^ 15 by omega) (by decide)
        refine ⟨[padT 3 q.1, padT 6 q.2, padT 6 (q.2 + z)], rfl, ?_, ?_⟩
        · show (padT 3 q.1).length + ((padT 6 q.2).length + ((padT 6 (q.2 + z)).length + 0)) + 3 * 0 ≤ 16777216
          omega
        rw [join3]
        refine ⟨by rw [List.length_map, List.length_take]; omega, ?_⟩
        refine ⟨_, _, _, _, ?_, rfl⟩
        rw [List.take_add_one, hq1, List.map_append]
        rfl
    · obtain ⟨_, a, b, c, rfl, rfl⟩ := hP
      rw [List.length_map, List.take_length]
      refine ess_weak [slO (ad 0) (.o T.C_Roll (rolF r d l z rows)), .im (pap r d l), .im (.int z), .im (.tuple ((rows.map Prod.fst).map PyData.int)), .no, .no, .own (rows.map fun q => PyData.str (rowT z q)), .no, .no, .no, .no, .no] (by walk_at "wk") ?_
      refine ess_frz 6 rfl ?_
      refine ess_cons (es_if ?_)
      refine et_cmp (oz_neD (zu hr)) ?_
      refine ev_el (el_listGM 0 (.inr rfl) T.cl_Roll T.me_Roll_lines (ok_Roll_lines T) (hr.mono (by decide)) T.b_Roll_lines T.n_list (by walk_at "fl") ?_)
      refine ⟨_, _, _, _, _, rfl, by omega, ⟨by omega, by omega⟩, fun q h => ?_, ?_⟩
      · obtain ⟨⟨p1, p2⟩, b1, b2⟩ := hq q h
        exact ⟨⟨p1, p2⟩, b1, by omega⟩
      refine ev_name 6 rfl ?_
      rw [show (rows.map fun q => PyData.str (rowT z q)) = (rows.map (rowT z)).map PyData.str by rw [List.map_map]; rfl]
      have hsim : Sim 1 (.list ((rows.map (rowT z)).map PyData.str)) := ⟨by rw [List.length_map, List.length_map]; omega, fun d hd => by
        obtain ⟨x, hx, rfl⟩ := List.mem_map.mp hd
        obtain ⟨q, _, rfl⟩ := List.mem_map.mp hx
        exact strOk_row⟩
      refine ⟨hsim.shaped (by decide), hsim.shaped (by decide), ?_⟩
      rw [texts_self]
      refine noF (ess_nil ?_)
      refine ess_cons (es_for owns_bn rfl ?_)
      refine ei_tup ?_
      refine ev_bin oz_add ?_
      refine ev_name 3 rfl ?_
      refine ev_tup ?_
      refine ea_cons ?_
      refine ev_int ?_
      refine ea_cons ?_
      refine ev_int ?_
      refine ea_cons ?_
      refine ev_int ?_
      refine ea_cons ?_
      refine ev_int ?_
      refine ea_cons ?_
      refine ev_none ?_
      refine ea_cons ?_
      refine ev_bool ?_
      refine ea_nil ⟨by walk_at "sz", ?_⟩
      refine ⟨by rw [List.length_map, List.length_map]; show rows.length + 6 ≤ _; omega, ?_⟩
      refine ⟨fun i ρ => ∃ (a : Sl), ρ = [slO (ad 0) (.o T.C_Roll (rolF r d l z rows)), .im (pap r d l), .im (.int z), .im (.tuple ((rows.map Prod.fst).map PyData.int)), .no, .no, .im (.list ((rows.map (rowT z)).map PyData.str)), a, .no, .no, .no, .no], ⟨_, rfl⟩, fun i x ρ hx hP => ?_, fun ρ hP => ?_⟩
      · obtain ⟨a, rfl⟩ := hP
        refine tg_name 7 ?_ sc__law_right.nd
        refine ess_one (es_if ?_)
        refine et_cmp oz_neB ?_
        refine ev_inO tk_none T.oo_Roll___contains__ (ok_Roll___contains__ T) (hr.mono (by decide)) T.b_Roll___contains__ ?_
        refine ed_ev ?_
        refine ev_name 7 rfl ?_
        refine ed_name 0 rfl ⟨_, rfl, _, _, _, _, _, _, rfl, by omega, _, rfl, ?_⟩
        refine ev_and ?_
        refine ev_call (ok__law_within T) (hr.mono (by decide)) T.g__law_within T.F__law_within.kp T.b__law_within ?_
        refine ea_cons ?_
        refine ev_name 7 rfl ?_
        refine ea_cons ?_
        refine ev_int ?_
        refine ea_cons ?_
        refine ev_powc (m := 1000000000000) ?_
        refine ea_nil ⟨_, _, _, rfl, ?_⟩
        unfold inR
        cases hw : within x 0 1000000000000 with
        | false =>
          refine noF ?_
          refine dN (fun h => absurd rfl h) fun _ => ess_nil ⟨_, rfl⟩
        | true =>
          obtain ⟨n, rfl, n1, n2⟩ := within_true hw
          refine yesT ?_
          refine ev_one ?_
          refine ev_cmp oz_inTI ?_
          refine ev_name 7 rfl ?_
          refine ev_name 3 rfl ?_
          refine ⟨_, _, rfl, rfl, ?_⟩
          refine dN (fun h => absurd rfl h) fun _ => ess_nil ⟨_, rfl⟩
      · obtain ⟨a, rfl⟩ := hP
        refine ess_one (es_ret ?_)
        refine ev_cmp oz_eq ?_
        refine ev_if ?_
        refine et_truO tk_none T.oo_Roll___bool__ (ok_Roll___bool__ T) (hr.mono (by decide)) T.b_Roll___bool__ ?_
        refine ed_name 0 rfl ⟨_, rfl, _, _, _, _, _, rfl, by omega, _, rfl, ?_⟩
        have hE : ∀ (i : Int) (Q : PyData → Prop), (∀ b : Bool, b = !rows.isEmpty → Q (.int (if b = true then 1 else 0))) → True := fun _ _ _ => trivial
        cases rows with
        | nil =>
          refine noF ?_
          refine ev_int ?_
          refine ev_intB T.n_int ?_
          refine ev_cmp (oz_neD (zu hr)) ?_
          refine ev_name 3 rfl ?_
          refine ev_tup ?_
          refine ea_nil ⟨by walk_at "sz", ?_⟩
          refine ⟨by walk_at "sh", by walk_at "sh", ?_⟩
          exact hR
        | cons q ro =>
          refine yesT ?_
          refine ev_int ?_
          refine ev_intB T.n_int ?_
          refine ev_cmp (oz_neD (zu hr)) ?_
          refine ev_name 3 rfl ?_
          refine ev_tup ?_
          refine ea_nil ⟨by walk_at "sz", ?_⟩
          refine ⟨(sim_intsT (n := 0) (by rw [List.length_map]; omega)).shaped (by decide), by decide, ?_⟩
          exact hR

-- NEEDS rows
-- NEEDS roll
-- NEEDS kinds
-- NEEDS sim
-- LAYER Zm
-- OBJ own Roll
-- OBJ twin Roll
-- CALLS _law_call _law_asked _law_right Roll_cut Roll_undo Roll___eq__ Roll___init__
theorem within_intR {n lo hi : Int} (h1 : lo ≤ n) (h2 : n ≤ hi) : within (.int n) lo hi = true := by simp [within, h1, h2]
theorem papB_pap {r d l : Int} (hp : POk r d l) : papB (pap r d l) = true := by
  obtain ⟨⟨h1, h2⟩, ⟨h3, h4⟩, h5, h6⟩ := hp
  show (within (.int r) 1 200 && within (.int d) 0 (r - 1) && within (.int l) 1 10000) = true
  rw [within_intR h1 h2, within_intR h3 (by omega), within_intR h5 h6]
  rfl
theorem init_ok {IP IL : Addr} {r d l z : Int} {R : PyData → List (Str × PyData) → Prop} {Er : Addr → Prop} (hp : POk r d l) (h1 : 1 ≤ z) (h2 : z ≤ l) (hR : R .none (rolF r d l z [])) : p_Roll___init__ IP IL [] [pap r d l, .int z] R Er :=
  ⟨_, _, rfl, rfl, fun h => (by rw [papB_pap hp] at h; cases h), fun r' d' l' e _ h => (by cases e; rw [within_intR h1 h2] at h; cases h), fun r' d' l' n e _ _ en _ _ => (by cases e; cases en; exact hR)⟩
theorem rowZ_fst {r d z : Int} {ps : List Int} : (rowZ r d z ps).map Prod.fst = ps := by
  unfold rowZ
  rw [List.map_fst_zip (by rw [bgz_len]; exact Nat.le_refl _)]
theorem rowZ_snd {r d z : Int} {ps : List Int} : (rowZ r d z ps).map Prod.snd = bgz r d z 0 ps := by
  unfold rowZ
  rw [List.map_snd_zip (by rw [bgz_len]; exact Nat.le_refl _)]
theorem rowZ_len {r d z : Int} {ps : List Int} : (rowZ r d z ps).length = ps.length := by
  rw [← List.length_map (f := Prod.fst), rowZ_fst]
theorem endR_rowZ {r d z : Int} {ps : List Int} : endR z (rowZ r d z ps) = endZ r d z 0 ps := by
  rcases List.eq_nil_or_concat ps with rfl | ⟨ro, p, rfl⟩
  · rfl
  · rw [List.concat_eq_append, rowZ_snoc, endR_snoc, endZ_app]
    rfl
theorem bgz_bd {r d z : Int} (hr : 0 < r) (hz : 0 ≤ z) : ∀ (f : Int) (ps : List Int), 0 ≤ f → ∀ b ∈ bgz r d z f ps, 0 ≤ b ∧ b + z ≤ endZ r d z f ps
  | f, [], _, b, h => by cases h
  | f, p :: ps, h0, b, h => by
    have h2 := (nxt_spec (d := d) (f := f) (n := p) hr).1
    have h1 := endZ_ge (d := d) hr hz (nxt r d f p + z) ps
    rw [bgz] at h
    rw [endZ]
    rcases List.mem_cons.mp h with rfl | h
    · omega
    · have := bgz_bd hr hz (nxt r d f p + z) ps (by omega) b h
      omega
/-- the places that are cut -/
structure StL (r d l z : Int) (i : Nat) (ps : List Int) : Prop where
  len : ps.length ≤ i
  nd : ps.Nodup
  rng : ∀ p ∈ ps, 0 ≤ p ∧ p ≤ 1000000000000
  en : endZ r d z 0 ps ≤ l
theorem StL.begO {r d l z : Int} {ps : List Int} {p : Int} : begO r d l z (rowZ r d z ps) p = if nxt r d (endZ r d z 0 ps) p + z ≤ l then some (nxt r d (endZ r d z 0 ps) p) else none := by
  unfold Law.begO
  rw [endR_rowZ]
theorem StL.snoc {r d l z : Int} {i : Nat} {ps : List Int} {p : Int} (st : StL r d l z i ps) (h0 : 0 ≤ p) (h1 : p ≤ 1000000000000) (hn : p ∉ ps) (he : nxt r d (endZ r d z 0 ps) p + z ≤ l) : StL r d l z (i + 1) (ps ++ [p]) := by
  refine ⟨by rw [List.length_append]; exact Nat.add_le_add_right st.len 1, ?_, fun q hq => ?_, ?_⟩
  · rw [List.nodup_append]
    refine ⟨st.nd, by simp, fun a ha b hb => ?_⟩
    rw [List.mem_singleton] at hb
    subst hb
    exact fun e => hn (e ▸ ha)
  · rcases List.mem_append.mp hq with hq | hq
    · exact st.rng q hq
    · rw [List.mem_singleton] at hq
      subst hq
      exact ⟨h0, h1⟩
  · rw [endZ_app]
    exact he
theorem StL.pre {r d l z : Int} {i : Nat} {ps qs : List Int} (hr : 0 < r) (hz : 0 ≤ z) (st : StL r d l z i (ps ++ qs)) : StL r d l z i ps := by
  refine ⟨?_, (List.nodup_append.mp st.nd).1, fun q hq => st.rng q (List.mem_append_left _ hq), ?_⟩
  · have := st.len
    rw [List.length_append] at this
    omega
  · have := st.en
    rw [endZ_app] at this
    have := endZ_ge (d := d) hr hz (endZ r d z 0 ps) qs
    omega
theorem StL.up {r d l z : Int} {i : Nat} {ps : List Int} (st : StL r d l z i ps) : StL r d l z (i + 1) ps := ⟨Nat.le_succ_of_le st.len, st.nd, st.rng, st.en⟩
theorem StL.bgs {r d l z : Int} {i : Nat} {ps : List Int} (hr : 0 < r) (hz : 0 ≤ z) (hl : 0 ≤ l) (st : StL r d l z i ps) : bgs r d l z 0 [] ((rowZ r d z ps).map Prod.fst) = some ((rowZ r d z ps).map Prod.snd) := by
  rw [rowZ_fst, rowZ_snd, bgs_z hr hz 0 [] ps hl, if_neg (by have := st.en; omega)]
  rfl
/-- a place that is asked for, not "undo" -/
def PlaceV (x : PyData) : Prop := x = .str "undo" ∨ (SeqAt.shaped x = true ∧ PyData.eqv x (.str "undo") = false)
/-- what is due for it -/
def DueV (r d l z : Int) (ps : List Int) (x dv : PyData) : Prop := (badP (rowZ r d z ps) x ∧ dv = .str "place") ∨ ∃ n : Int, x = .int n ∧ (0 ≤ n ∧ n ≤ 1000000000000) ∧ n ∉ ps ∧ dv = optI (begO r d l z (rowZ r d z ps) n)
theorem not_badV {r d z : Int} {ps : List Int} {x : PyData} {n : Int} (hn : 0 ≤ n ∧ n ≤ 1000000000000) (hx : n ∉ ps) (e : x = .int n) : ¬ badP (rowZ r d z ps) x := by
  rintro (h | ⟨m, e2, h⟩)
  · rw [e, within_intR hn.1 hn.2] at h
    cases h
  · rw [e] at e2
    cases e2
    rw [rowZ_fst] at h
    exact hx h
theorem cutD_last (xs : List PyData) (x : PyData) : Z.cutD (xs ++ [x]) none (some (((xs ++ [x]).length : Nat) - 1 : Int)) = xs := by
  unfold Z.cutD
  have e1 : HT.sIx (xs ++ [x]).length 0 none = 0 := rfl
  have e2 : HT.sIx (xs ++ [x]).length (xs ++ [x]).length (some (((xs ++ [x]).length : Nat) - 1 : Int)) = xs.length := by
    have : ((((xs ++ [x]).length : Nat) : Int) - 1) = ((xs.length : Nat) : Int) := by rw [List.length_append]; simp
    rw [this, HT.sIx_nat, List.length_append]
    simp
  rw [e1, e2]
  simp
theorem atI_nat' {α : Type} {xs : List α} {i : Int} {j : Nat} {v : α} (hi : i = (j : Int)) (h : xs[j]? = some v) : atI xs i = some v := by
  subst hi
  exact atI_nat h
theorem sim_strT {n : Nat} {x : Str} (h : PyData.strOk x = true) : Sim n (.str x) := by cases n <;> exact h
theorem ok_law (T : En K mg) {f : Addr} {fd : FuncData} (F : Fun K "law" "law" s_law f fd) : FnOk P w K mg base CX0 13 f fd ["script"] (spLaw K) := by
  refine fn_law 1 F sc_law T.n_list rfl rfl rfl (.inl rfl) (.inl rfl) rfl (by decide) fun cdv A outer s H E W hr hns => ?_
  refine ess_cons (es_set 2 ?_ sc_law.nd)
  refine ev_callT 1 rfl (ok__law_numbers T) (hr.mono (by decide)) T.g__law_numbers T.F__law_numbers.kp T.b__law_numbers ?_
  refine ea_cons ?_
  refine ev_int ?_
  refine ea_cons ?_
  refine ev_int ?_
  refine ea_nil ⟨_, _, rfl, by decide, by decide, fun r d l ra rb da db la lb => ?_⟩
  have hp : POk r d l := ⟨⟨ra, by omega⟩, ⟨da, db⟩, la, by omega⟩
  have hr0 : 0 < r := by omega
  have szb : (2000000 : Nat) ≤ sizeLine := by decide
  refine ess_cons (es_set 3 ?_ sc_law.nd)
  refine ev_max2 rfl T.n_max ?_
  refine ev_int ?_
  refine ev_bin oz_div ?_
  refine ev_ix ?_
  refine ev_name 2 rfl ?_
  refine ev_int ?_
  refine ⟨_, rfl, ?_⟩
  refine ev_bin oz_add ?_
  refine ev_int ?_
  refine ev_callT 1 rfl (ok__law_draw T) (hr.mono (by decide)) T.g__law_draw T.F__law_draw.kp T.b__law_draw ?_
  refine ea_cons ?_
  refine ev_int ?_
  refine ea_nil ⟨_, rfl, by walk_at "zs", by walk_at "zs", fun x xa xb => ?_⟩
  refine ⟨by walk_at "zs", ?_⟩
  intro m ma mb mc
  have m1 : 1 ≤ m := ma
  have m2 : m ≤ l := by
    rcases mc with h | h
    · omega
    · rw [h]
      exact Int.ediv_le_self _ (by omega)
  refine ess_cons (es_parNew tk_none0 4 5 T.mk_Roll (ok_Roll___init__ T) (hr.mono (by decide)) T.m_Roll T.b_Roll___init__ ?_ rfl sc_law.nd)
  refine ev_name 2 rfl ?_
  refine ev_name 3 rfl ?_
  refine init_ok hp m1 m2 ⟨rfl, fun ad dx => ?_⟩
  refine ess_cons (es_for .never rfl ?_)
  refine ei_range1 T.n_range ?_
  refine ev_int ?_
  refine ⟨by omega, by omega, ?_⟩
  refine ⟨fun i ρ => ∃ (ps : List Int) (a b c e f g : Sl), StL r d l m i ps ∧ ρ = [.no, .tape, .im (pap r d l), .im (.int m), .obj ad dx T.C_Roll (rolF r d l m (rowZ r d m ps)), .im (.tuple (ps.map PyData.int)), a, b, c, e, f, g], ⟨[], _, _, _, _, _, _, ⟨Nat.le_refl _, List.nodup_nil, fun p h => (by cases h), show (0 : Int) ≤ l by omega⟩, rfl⟩, fun i x ρ hx hP => ?_, fun ρ hP => ?_⟩
  · obtain ⟨ps, _, _, _, _, _, _, st, rfl⟩ := hP
    have hi := (List.getElem?_eq_some_iff.mp hx).1
    rw [rngD_len] at hi
    have hi : i < 25 := hi
    have hpl := st.len
    refine tg_name 6 ?_ sc_law.nd
    refine ess_weak [.no, .tape, .im (pap r d l), .im (.int m), .obj ad dx T.C_Roll (rolF r d l m (rowZ r d m ps)), .im (.tuple (ps.map PyData.int)), .no, .no, .no, .no, .no, .no] (by walk_at "wk") ?_
    refine ess_cut (fun ρ => ∃ x, PlaceV x ∧ ρ = [.no, .tape, .im (pap r d l), .im (.int m), .obj ad dx T.C_Roll (rolF r d l m (rowZ r d m ps)), .im (.tuple (ps.map PyData.int)), .no, .im x, .no, .no, .no, .no]) (es_set 7 ?_ sc_law.nd) ?_
    · refine ev_ix ?_
      refine ev_el (el_lst ?_)
      refine ea_cons ?_
      refine ev_callT 1 rfl (ok__law_draw T) (hr.mono (by decide)) T.g__law_draw T.F__law_draw.kp T.b__law_draw ?_
      refine ea_cons ?_
      refine ev_int ?_
      refine ea_nil ⟨_, rfl, by walk_at "zs", by walk_at "zs", fun p pa pb => ?_⟩
      refine ea_cons ?_
      refine ev_callT 1 rfl (ok__law_draw T) (hr.mono (by decide)) T.g__law_draw T.F__law_draw.kp T.b__law_draw ?_
      refine ea_cons ?_
      refine ev_int ?_
      refine ea_nil ⟨_, rfl, by walk_at "zs", by walk_at "zs", fun q qa qb => ?_⟩
      refine ea_cons ?_
      refine ev_powc (m := 1000000000000) ?_
      refine ea_cons ?_
      refine ev_neg ?_
      refine ev_int ?_
      refine ea_cons ?_
      refine ev_bool ?_
      refine ea_cons ?_
      refine ev_none ?_
      refine ea_cons ?_
      refine ev_str ?_
      refine ea_nil ⟨by walk_at "sz", ?_⟩
      refine ev_callT 1 rfl (ok__law_draw T) (hr.mono (by decide)) T.g__law_draw T.F__law_draw.kp T.b__law_draw ?_
      refine ea_cons ?_
      refine ev_int ?_
      refine ea_nil ⟨_, rfl, by walk_at "zs", by walk_at "zs", fun j ja jb => ?_⟩
      have hj : j = 0 ∨ j = 1 ∨ j = 2 ∨ j = 3 ∨ j = 4 ∨ j = 5 ∨ j = 6 := by omega
      have pi : ∀ n : Int, PlaceV (.int n) := fun n => .inr ⟨(sim_int (n := 0)).shaped (by decide), by simp [PyData.eqv]⟩
      rcases hj with rfl | rfl | rfl | rfl | rfl | rfl | rfl
      · exact ⟨_, rfl, _, pi _, rfl⟩
      · exact ⟨_, rfl, _, pi _, rfl⟩
      · exact ⟨_, rfl, _, pi _, rfl⟩
      · exact ⟨_, rfl, _, pi _, rfl⟩
      · exact ⟨_, rfl, _, .inr ⟨by decide, by simp [PyData.eqv]⟩, rfl⟩
      · exact ⟨_, rfl, _, .inr ⟨by decide, by simp [PyData.eqv]⟩, rfl⟩
      · exact ⟨_, rfl, _, .inl rfl, rfl⟩
    rintro _ ⟨x, hx, rfl⟩
    refine ess_cut (fun ρ => ∃ (ps : List Int) (a b c : Sl), StL r d l m (i + 1) ps ∧ ρ = [.no, .tape, .im (pap r d l), .im (.int m), .obj ad dx T.C_Roll (rolF r d l m (rowZ r d m ps)), .im (.tuple (ps.map PyData.int)), .no, a, b, c, .no, .no]) (es_if ?_) ?_
    · refine et_cmp (oz_eqD (zu hr)) ?_
      refine ev_name 7 rfl ?_
      refine ev_str ?_
      rcases hx with rfl | ⟨hs, he⟩
      · refine ⟨by decide +kernel, by decide +kernel, ?_⟩
        rw [show PyData.eqv (.str "undo") (.str "undo") = true by simp [PyData.eqv]]
        refine yesT ?_
        rcases List.eq_nil_or_concat ps with rfl | ⟨ro, p, rfl⟩
        · refine ess_cons (es_set 8 ?_ sc_law.nd)
          refine ev_if ?_
          refine et_cmp (oz_neD (zu hr)) ?_
          refine ev_name 5 rfl ?_
          refine ev_tup ?_
          refine ea_nil ⟨by walk_at "sz", ?_⟩
          refine ⟨(sim_intsT (n := 0) (by simp)).shaped (by decide), by decide, ?_⟩
          rw [show PyData.eqv (.tuple (([] : List Int).map PyData.int)) (.tuple []) = true by simp [PyData.eqv, PyData.eqvAll]]
          refine noF ?_
          refine ev_str ?_
          refine ess_cons (es_ifx ?_)
          refine etx_not (etx_val ?_)
          refine evx_call (ok__law_like T) (hr.mono (by decide)) T.g__law_like T.F__law_like.kp T.b__law_like ?_
          refine eax_cons ?_
          refine evx_callS tk_none 4 rfl (ok__law_call T) (hr.mono (by decide)) T.g__law_call T.F__law_call.kp T.b__law_call ?_
          refine ea_cons ?_
          refine ev_name 7 rfl ?_
          refine ea_nil ⟨_, _, _, _, _, _, rfl, rfl, hp, by simp [rowZ_len], .inl ⟨rfl, fun _ => ?_, fun ro q e => (by have := congrArg List.length e; simp [rowZ] at this)⟩⟩
          refine eax_of ?_
          refine ea_cons ?_
          refine ev_name 8 rfl ?_
          refine ea_nil ⟨_, rfl, sim_strT (by decide +kernel), ?_⟩
          refine noF (ess_nil ?_)
          refine ess_one (es_set 5 ?_ sc_law.nd)
          refine ev_if ?_
          refine et_cmp (oz_neD (zu hr)) ?_
          refine ev_name 5 rfl ?_
          refine ev_tup ?_
          refine ea_nil ⟨by walk_at "sz", ?_⟩
          refine ⟨(sim_intsT (n := 0) (by simp)).shaped (by decide), by decide, ?_⟩
          rw [show PyData.eqv (.tuple (([] : List Int).map PyData.int)) (.tuple []) = true by simp [PyData.eqv, PyData.eqvAll]]
          refine noF ?_
          refine ev_tup ?_
          refine ea_nil ⟨by walk_at "sz", ?_⟩
          exact ⟨[], _, _, _, st.up, rfl⟩
        · rw [List.concat_eq_append] at st hpl ⊢
          rw [List.length_append] at hpl
          have hpl : ro.length + 1 ≤ i := hpl
          refine ess_cons (es_set 8 ?_ sc_law.nd)
          refine ev_if ?_
          refine et_cmp (oz_neD (zu hr)) ?_
          refine ev_name 5 rfl ?_
          refine ev_tup ?_
          refine ea_nil ⟨by walk_at "sz", ?_⟩
          refine ⟨(sim_intsT (n := 0) (by rw [List.length_append]; show ro.length + 1 ≤ _; omega)).shaped (by decide), by decide, ?_⟩
          rw [show PyData.eqv (.tuple ((ro ++ [p]).map PyData.int)) (.tuple []) = false by rw [show (PyData.tuple []) = .tuple (([] : List Int).map PyData.int) from rfl, eqv_intsT]; simp]
          refine yesT ?_
          refine ev_ix ?_
          refine ev_name 5 rfl ?_
          refine ev_bin oz_sub ?_
          refine ev_len T.n_len ?_
          refine ev_name 5 rfl ?_
          refine ev_int ?_
          refine ⟨.int p, ?_, ?_⟩
          · rw [List.map_append]
            exact atI_nat' (j := (ro.map PyData.int).length) (by simp) (by simp)
          refine ess_cons (es_ifx ?_)
          refine etx_not (etx_val ?_)
          refine evx_call (ok__law_like T) (hr.mono (by decide)) T.g__law_like T.F__law_like.kp T.b__law_like ?_
          refine eax_cons ?_
          refine evx_callS tk_none 4 rfl (ok__law_call T) (hr.mono (by decide)) T.g__law_call T.F__law_call.kp T.b__law_call ?_
          refine ea_cons ?_
          refine ev_name 7 rfl ?_
          refine ea_nil ⟨_, _, _, _, _, _, rfl, rfl, hp, by rw [rowZ_len, List.length_append]; show ro.length + 1 < _; omega, .inl ⟨rfl, fun e => ?_, fun ro' q e => ?_⟩⟩
          · rw [rowZ_snoc] at e
            simp at e
          rw [rowZ_snoc] at e
          obtain ⟨rfl, e2⟩ := List.append_inj' e rfl
          cases e2
          refine eax_of ?_
          refine ea_cons ?_
          refine ev_name 8 rfl ?_
          refine ea_nil ⟨_, rfl, sim_int, ?_⟩
          refine noF (ess_nil ?_)
          refine ess_one (es_set 5 ?_ sc_law.nd)
          refine ev_if ?_
          refine et_cmp (oz_neD (zu hr)) ?_
          refine ev_name 5 rfl ?_
          refine ev_tup ?_
          refine ea_nil ⟨by walk_at "sz", ?_⟩
          refine ⟨(sim_intsT (n := 0) (by rw [List.length_append]; show ro.length + 1 ≤ _; omega)).shaped (by decide), by decide, ?_⟩
          rw [show PyData.eqv (.tuple ((ro ++ [p]).map PyData.int)) (.tuple []) = false by rw [show (PyData.tuple []) = .tuple (([] : List Int).map PyData.int) from rfl, eqv_intsT]; simp]
          refine yesT ?_
          refine ev_slT ?_
          refine ev_name 5 rfl ?_
          refine eo_none ?_
          refine eo_some ?_
          refine ev_bin oz_sub ?_
          refine ev_len T.n_len ?_
          refine ev_name 5 rfl ?_
          refine ev_int ?_
          refine ⟨ro, .im (.str "undo"), .im (.int p), .no, (st.pre hr0 (by omega)).up, ?_⟩
          rw [List.map_append]
          rw [show ([p].map PyData.int) = [.int p] from rfl]
          show ([.no, .tape, .im (pap r d l), .im (.int m), .obj ad dx T.C_Roll (rolF r d l m (rowZ r d m ro)), .im (.tuple (Z.cutD (ro.map PyData.int ++ [PyData.int p]) none (some ((((ro.map PyData.int ++ [PyData.int p]).length : Nat) : Int) - 1)))), .no, .im (.str "undo"), .im (.int p), .no, .no, .no] : List Sl) = _
          rw [cutD_last]
      · refine ⟨hs, by decide +kernel, ?_⟩
        rw [he]
        refine noF ?_
        refine ess_cons (es_set 8 ?_ sc_law.nd)
        refine ev_str ?_
        refine ess_cut (fun ρ => ∃ (dv : PyData) (a : Sl), DueV r d l m ps x dv ∧ ρ = [.no, .tape, .im (pap r d l), .im (.int m), .obj ad dx T.C_Roll (rolF r d l m (rowZ r d m ps)), .im (.tuple (ps.map PyData.int)), .no, .im x, .im dv, a, .no, .no]) (es_if ?_) ?_
        · refine et_ew (ew_and ?_)
          refine et_val ?_
          refine ev_call (ok__law_within T) (hr.mono (by decide)) T.g__law_within T.F__law_within.kp T.b__law_within ?_
          refine ea_cons ?_
          refine ev_name 7 rfl ?_
          refine ea_cons ?_
          refine ev_int ?_
          refine ea_cons ?_
          refine ev_powc (m := 1000000000000) ?_
          refine ea_nil ⟨_, _, _, rfl, ?_⟩
          cases hw : within x 0 1000000000000 with
          | false => exact noF (noF (ess_nil ⟨_, _, .inl ⟨.inl hw, rfl⟩, rfl⟩))
          | true =>
          obtain ⟨n, rfl, n1, n2⟩ := within_true hw
          refine yesT ?_
          refine ew_and1 ?_
          refine et_cmp oz_notInTI ?_
          refine ev_name 7 rfl ?_
          refine ev_name 5 rfl ?_
          refine ⟨_, _, rfl, rfl, ?_⟩
          refine dN (fun hm => ?_) fun hm => ?_
          · have hb : begO r d l m (rowZ r d m ps) n = if nxt r d (endZ r d m 0 ps) n + m ≤ l then some (nxt r d (endZ r d m 0 ps) n) else none := StL.begO
            refine ess_cons (es_set 9 ?_ sc_law.nd)
            refine ev_call (ok__law_begins T) (hr.mono (by decide)) T.g__law_begins T.F__law_begins.kp T.b__law_begins ?_
            refine ea_cons ?_
            refine ev_name 2 rfl ?_
            refine ea_cons ?_
            refine ev_name 3 rfl ?_
            refine ea_cons ?_
            refine ev_bin oz_add ?_
            refine ev_name 5 rfl ?_
            refine ev_tup ?_
            refine ea_cons ?_
            refine ev_name 7 rfl ?_
            refine ea_nil ⟨by walk_at "sz", ?_⟩
            refine ⟨by rw [List.length_map]; show ps.length + 1 ≤ _; omega, ?_⟩
            refine ea_nil ⟨_, _, _, _, ps ++ [n], _, rfl, .inl (by rw [List.map_append]; rfl), hp, by rw [List.length_append]; show ps.length + 1 ≤ _; omega, ?_⟩
            rw [bgs_z hr0 (by omega) 0 [] _ (by omega), endZ_app]
            refine ess_one (es_set 8 ?_ sc_law.nd)
            refine ev_if ?_
            refine et_notN ?_
            refine ev_name 9 rfl ?_
            by_cases hq : nxt r d (endZ r d m 0 ps) n + m ≤ l
            · rw [if_neg (show ¬ l < endZ r d m (endZ r d m 0 ps) [n] from by show ¬ l < nxt r d (endZ r d m 0 ps) n + m; omega)]
              refine yesT ?_
              refine ev_ix ?_
              refine ev_name 9 rfl ?_
              refine ev_bin oz_sub ?_
              refine ev_len T.n_len ?_
              refine ev_name 9 rfl ?_
              refine ev_int ?_
              rw [if_pos hq] at hb
              have eb : (bgz r d m 0 (ps ++ [n])).map PyData.int = (bgz r d m 0 ps).map PyData.int ++ [.int (nxt r d (endZ r d m 0 ps) n)] := by
                rw [bgz_app, List.map_append]
                rfl
              refine ⟨.int (nxt r d (endZ r d m 0 ps) n), ?_, ?_⟩
              · rw [List.nil_append, eb]
                exact atI_nat' (j := ((bgz r d m 0 ps).map PyData.int).length) (by simp) (by simp)
              · exact ⟨_, _, .inr ⟨n, rfl, ⟨n1, n2⟩, hm, by rw [hb]; rfl⟩, rfl⟩
            · rw [if_pos (show l < endZ r d m (endZ r d m 0 ps) [n] from by show l < nxt r d (endZ r d m 0 ps) n + m; omega)]
              refine noF ?_
              rw [if_neg hq] at hb
              refine ev_none ?_
              exact ⟨_, _, .inr ⟨n, rfl, ⟨n1, n2⟩, hm, by rw [hb]; rfl⟩, rfl⟩
          · exact ess_nil ⟨_, _, .inl ⟨.inr ⟨n, rfl, by rw [rowZ_fst]; exact hm⟩, rfl⟩, rfl⟩
        rintro _ ⟨dv, _, hd, rfl⟩
        have hsim : Sim 0 dv := by
          rcases hd with ⟨_, rfl⟩ | ⟨n, _, _, _, rfl⟩
          · exact (show PyData.strOk "place" = true by decide +kernel)
          · cases begO r d l m (rowZ r d m ps) n with
            | none => trivial
            | some b => trivial
        refine ess_cons (es_if ?_)
        refine et_not (et_val ?_)
        refine ev_call (ok__law_like T) (hr.mono (by decide)) T.g__law_like T.F__law_like.kp T.b__law_like ?_
        refine ea_cons ?_
        refine Ev.imp (R := fun y => y = dv) ?_ fun y ey => ?_
        · refine ev_edf (edf_call tk_none (ok__law_asked T) (hr.mono (by decide)) T.g__law_asked T.F__law_asked.kp T.b__law_asked ?_)
          refine eda_cons (ed_own 4 rfl ?_)
          refine eda_cons (ed_ev ?_)
          refine ev_name 7 rfl ?_
          refine eda_nil ⟨_, _, _, _, _, _, rfl, hp, by rw [rowZ_len]; omega, fun n e n1 n2 n3 => ?_, fun hb => ?_⟩
          · rcases hd with ⟨hb, rfl⟩ | ⟨n', e', _, _, rfl⟩
            · rw [rowZ_fst] at n3
              exact absurd hb (not_badV ⟨n1, n2⟩ n3 e)
            · rw [e] at e'
              cases e'
              rfl
          · rcases hd with ⟨hb, rfl⟩ | ⟨n', e', hn, hx, rfl⟩
            · rfl
            · exact absurd hb (not_badV hn hx e')
        subst ey
        refine ea_cons ?_
        refine ev_name 8 rfl ?_
        refine ea_nil ⟨_, rfl, hsim.up (by omega), ?_⟩
        refine noF (ess_nil ?_)
        rcases hd with ⟨hb, rfl⟩ | ⟨n, rfl, hn, hnp, rfl⟩
        · -- a place that is not allowed
          refine ess_cons (es_ifx ?_)
          refine etx_not (etx_val ?_)
          refine evx_call (ok__law_like T) (hr.mono (by decide)) T.g__law_like T.F__law_like.kp T.b__law_like ?_
          refine eax_cons ?_
          refine evx_callS tk_none 4 rfl (ok__law_call T) (hr.mono (by decide)) T.g__law_call T.F__law_call.kp T.b__law_call ?_
          refine ea_cons ?_
          refine ev_name 7 rfl ?_
          refine ea_nil ⟨_, _, _, _, _, _, rfl, rfl, hp, by rw [rowZ_len]; omega, .inr ⟨hs, he, fun _ => ?_, fun n e n1 n2 n3 => absurd hb (not_badV ⟨n1, n2⟩ (by rw [rowZ_fst] at n3; exact n3) e)⟩⟩
          refine eax_of ?_
          refine ea_cons ?_
          refine ev_if ?_
          refine et_notN ?_
          refine ev_name 8 rfl ?_
          refine yesT ?_
          refine ev_name 8 rfl ?_
          refine ea_nil ⟨_, rfl, hsim.up (by omega), ?_⟩
          refine noF (ess_nil ?_)
          refine ess_one (es_if ?_)
          refine et_ew (ew_and ?_)
          refine et_notN ?_
          refine ev_name 8 rfl ?_
          refine yesT ?_
          refine ew_and1 ?_
          refine et_cmp (oz_neD (zu hr)) ?_
          refine ev_name 8 rfl ?_
          refine ev_str ?_
          refine ⟨by decide +kernel, by decide +kernel, ?_⟩
          rw [show PyData.eqv (.str "place") (.str "place") = true by simp [PyData.eqv]]
          exact noF (ess_nil ⟨ps, _, _, _, st.up, rfl⟩)
        · have hbo : begO r d l m (rowZ r d m ps) n = if nxt r d (endZ r d m 0 ps) n + m ≤ l then some (nxt r d (endZ r d m 0 ps) n) else none := StL.begO
          by_cases hq : nxt r d (endZ r d m 0 ps) n + m ≤ l
          · rw [if_pos hq] at hbo
            have eo : optI (some (nxt r d (endZ r d m 0 ps) n)) = .int (nxt r d (endZ r d m 0 ps) n) := rfl
            rw [hbo, eo]
            refine ess_cons (es_ifx ?_)
            refine etx_not (etx_val ?_)
            refine evx_call (ok__law_like T) (hr.mono (by decide)) T.g__law_like T.F__law_like.kp T.b__law_like ?_
            refine eax_cons ?_
            refine evx_callS tk_none 4 rfl (ok__law_call T) (hr.mono (by decide)) T.g__law_call T.F__law_call.kp T.b__law_call ?_
            refine ea_cons ?_
            refine ev_name 7 rfl ?_
            refine ea_nil ⟨_, _, _, _, _, _, rfl, rfl, hp, by rw [rowZ_len]; omega, .inr ⟨hs, he, fun hb => absurd hb (not_badV hn hnp rfl), fun n' e n1 n2 n3 => ?_⟩⟩
            cases e
            refine ⟨fun e => (by rw [hbo] at e; cases e), fun b e => ?_⟩
            rw [hbo] at e
            cases e
            refine eax_of ?_
            refine ea_cons ?_
            refine ev_if ?_
            refine et_notN ?_
            refine ev_name 8 rfl ?_
            refine yesT ?_
            refine ev_name 8 rfl ?_
            refine ea_nil ⟨_, rfl, sim_int, ?_⟩
            refine noF (ess_nil ?_)
            refine ess_one (es_if ?_)
            refine et_ew (ew_and ?_)
            refine et_notN ?_
            refine ev_name 8 rfl ?_
            refine yesT ?_
            refine ew_and1 ?_
            refine et_cmp (oz_neD (zu hr)) ?_
            refine ev_name 8 rfl ?_
            refine ev_str ?_
            refine ⟨(sim_int (n := 0)).shaped (by decide), by decide +kernel, ?_⟩
            rw [show PyData.eqv (.int (nxt r d (endZ r d m 0 ps) n)) (.str "place") = false by simp [PyData.eqv]]
            refine yesT ?_
            refine ess_one (es_set 5 ?_ sc_law.nd)
            refine ev_bin oz_add ?_
            refine ev_name 5 rfl ?_
            refine ev_tup ?_
            refine ea_cons ?_
            refine ev_name 7 rfl ?_
            refine ea_nil ⟨by walk_at "sz", ?_⟩
            refine ⟨by rw [List.length_map]; show ps.length + 1 ≤ _; omega, ?_⟩
            rw [← rowZ_snoc, show ps.map PyData.int ++ [.int n] = (ps ++ [n]).map PyData.int by rw [List.map_append]; rfl]
            exact ⟨ps ++ [n], _, _, _, st.snoc hn.1 hn.2 hnp hq, rfl⟩
          · rw [if_neg hq] at hbo
            have eo : optI none = PyData.none := rfl
            rw [hbo, eo]
            refine ess_cons (es_ifx ?_)
            refine etx_not (etx_val ?_)
            refine evx_call (ok__law_like T) (hr.mono (by decide)) T.g__law_like T.F__law_like.kp T.b__law_like ?_
            refine eax_cons ?_
            refine evx_callS tk_none 4 rfl (ok__law_call T) (hr.mono (by decide)) T.g__law_call T.F__law_call.kp T.b__law_call ?_
            refine ea_cons ?_
            refine ev_name 7 rfl ?_
            refine ea_nil ⟨_, _, _, _, _, _, rfl, rfl, hp, by rw [rowZ_len]; omega, .inr ⟨hs, he, fun hb => absurd hb (not_badV hn hnp rfl), fun n' e n1 n2 n3 => ?_⟩⟩
            cases e
            refine ⟨fun e => ?_, fun b e => (by rw [hbo] at e; cases e)⟩
            refine eax_of ?_
            refine ea_cons ?_
            refine ev_if ?_
            refine et_notN ?_
            refine ev_name 8 rfl ?_
            refine noF ?_
            refine ev_str ?_
            refine ea_nil ⟨_, rfl, sim_strT (by decide +kernel), ?_⟩
            refine noF (ess_nil ?_)
            refine ess_one (es_if ?_)
            refine et_ew (ew_and ?_)
            refine et_notN ?_
            refine ev_name 8 rfl ?_
            exact noF (noF (ess_nil ⟨ps, _, _, _, st.up, rfl⟩))
    clear st hpl
    rintro _ ⟨ps, _, _, _, st, rfl⟩
    have hpl := st.len
    have hen := st.en
    have hbz := bgz_bd (d := d) hr0 (show 0 ≤ m by omega) 0 ps (Int.le_refl _)
    refine ess_cons (es_if ?_)
    refine et_not (et_val ?_)
    refine ev_edf (edf_call tk_none (ok__law_right T) (hr.mono (by decide)) T.g__law_right T.F__law_right.kp T.b__law_right ?_)
    refine eda_cons (ed_own 4 rfl ?_)
    refine eda_cons (ed_ev ?_)
    refine ev_name 2 rfl ?_
    refine eda_cons (ed_ev ?_)
    refine ev_name 3 rfl ?_
    refine eda_cons (ed_ev ?_)
    refine ev_name 5 rfl ?_
    refine eda_nil ⟨_, _, _, _, rowZ r d m ps, by rw [rowZ_fst], hp, by rw [rowZ_len]; omega, ⟨m1, by omega⟩, fun q hq => ?_, st.bgs hr0 (by omega) (by omega), ?_⟩
    · have h1 := st.rng q.1 (by rw [← rowZ_fst (r := r) (d := d) (z := m) (ps := ps)]; exact List.mem_map_of_mem hq)
      have h2 := hbz q.2 (by rw [← rowZ_snd]; exact List.mem_map_of_mem hq)
      exact ⟨h1, h2.1, by omega⟩
    refine noF (ess_nil ?_)
    refine ess_cons (es_newKR tk_none0 10 T.mk_Roll (ok_Roll___init__ T) (hr.mono (by decide)) T.m_Roll T.b_Roll___init__ ?_ sc_law.nd)
    refine ev_name 2 rfl ?_
    refine ev_name 3 rfl ?_
    refine init_ok hp m1 m2 ⟨rfl, fun ad2 dx2 => ?_⟩
    refine ess_cons (es_for .never rfl ?_)
    refine ei_tup ?_
    refine ev_name 5 rfl ?_
    refine ⟨fun j ρ => ∃ (a b c e : Sl), ρ = [.no, .tape, .im (pap r d l), .im (.int m), .obj ad dx T.C_Roll (rolF r d l m (rowZ r d m ps)), .im (.tuple (ps.map PyData.int)), .no, a, b, c, .obj ad2 dx2 T.C_Roll (rolF r d l m (rowZ r d m (ps.take j))), e], ⟨_, _, _, _, rfl⟩, fun j x ρ hx hP => ?_, fun ρ hP => ?_⟩
    · obtain ⟨_, _, _, _, rfl⟩ := hP
      obtain ⟨p, hp1, rfl⟩ : ∃ p, ps[j]? = some p ∧ x = .int p := by
        rw [List.getElem?_map] at hx
        obtain ⟨t, h6, h7⟩ := Option.map_eq_some_iff.mp hx
        exact ⟨t, h6, h7.symm⟩
      have etk : ps.take (j + 1) = ps.take j ++ [p] := by
        rw [List.take_add_one, hp1]
        rfl
      have st2 : StL r d l m (i + 1) (ps.take j ++ [p]) := by
        rw [← etk]
        refine StL.pre (qs := ps.drop (j + 1)) hr0 (by omega) ?_
        rw [List.take_append_drop]
        exact st
      have hn := st2.rng p (by simp)
      have hnp : p ∉ ps.take j := fun h => (List.nodup_append.mp st2.nd).2.2 p h p (by simp) rfl
      have hq : nxt r d (endZ r d m 0 (ps.take j)) p + m ≤ l := by
        have := st2.en
        rw [endZ_app] at this
        exact this
      have hbo : begO r d l m (rowZ r d m (ps.take j)) p = some (nxt r d (endZ r d m 0 (ps.take j)) p) := by
        rw [StL.begO, if_pos hq]
      have htl : (ps.take j).length ≤ ps.length := by rw [List.length_take]; omega
      refine tg_name 11 ?_ sc_law.nd
      refine ess_one (es_exprx ?_)
      refine evx_methS tk_none 10 rfl T.cl_Roll T.me_Roll_cut (ok_Roll_cut T) (hr.mono (by decide)) T.b_Roll_cut (by walk_at "fl") ?_
      refine ea_cons ?_
      refine ev_name 11 rfl ?_
      refine ea_nil ⟨_, _, _, _, _, _, rfl, rfl, hp, by rw [rowZ_len]; omega, fun hb => absurd hb (not_badV hn hnp rfl), fun n' e n1 n2 n3 => ?_⟩
      cases e
      refine ⟨fun e => (by rw [hbo] at e; cases e), fun b e => ?_⟩
      rw [hbo] at e
      cases e
      rw [← rowZ_snoc, ← etk]
      exact ⟨_, _, _, _, rfl⟩
    · obtain ⟨_, _, _, _, rfl⟩ := hP
      rw [List.length_map, List.take_length]
      refine ess_cons (es_if ?_)
      refine et_ew (ew_or ?_)
      refine et_neO tk_none T.ne_Roll T.ob_Roll T.oo_Roll___eq__ (ok_Roll___eq__ T) (hr.mono (by decide)) T.b_Roll___eq__ ?_
      refine ed_own 4 rfl ⟨_, rfl, ?_⟩
      refine ed_own 10 rfl ⟨eqOk_self, _, _, _, _, _, _, rfl, by rw [rowZ_len]; omega, .inl ⟨_, _, _, _, _, rfl, by rw [rowZ_len]; omega, _, rfl, ?_⟩⟩
      rw [decide_eq_true (show (r = r ∧ d = d ∧ l = l) ∧ m = m ∧ rowZ r d m ps = rowZ r d m ps from ⟨⟨rfl, rfl, rfl⟩, rfl, rfl⟩)]
      refine noF ?_
      refine ew_or1 ?_
      refine et_eqO tk_none T.oo_Roll___eq__ (ok_Roll___eq__ T) (hr.mono (by decide)) T.b_Roll___eq__ ?_
      refine ed_own 4 rfl ⟨_, rfl, ?_⟩
      refine ed_ev ?_
      refine ev_name 5 rfl ⟨T.tu_Roll, _, _, _, _, _, _, rfl, by rw [rowZ_len]; omega, .inr ⟨_, rfl, _, rfl, ?_⟩⟩
      refine noF (ess_nil ?_)
      refine ess_one (es_if ?_)
      refine et_ew (ew_and ?_)
      refine et_cmp oz_lt ?_
      refine ev_name 3 rfl ?_
      refine ev_ix ?_
      refine ev_name 2 rfl ?_
      refine ev_int ?_
      refine ⟨_, rfl, ?_⟩
      refine ⟨fun hml => ?_, fun _ => noF (ess_nil ⟨ps, _, _, _, _, _, _, st, rfl⟩)⟩
      have hml := of_decide_eq_true hml
      refine ew_and1 ?_
      refine et_eqO tk_none T.oo_Roll___eq__ (ok_Roll___eq__ T) (hr.mono (by decide)) T.b_Roll___eq__ ?_
      refine ed_own 4 rfl ⟨_, rfl, ?_⟩
      refine ed_f ?_
      refine edf_makeK tk_none T.mk_Roll (ok_Roll___init__ T) (hr.mono (by decide)) T.m_Roll T.b_Roll___init__ ?_
      refine ev_name 2 rfl ?_
      refine ev_ix ?_
      refine ev_name 2 rfl ?_
      refine ev_int ?_
      refine ⟨_, rfl, ?_⟩
      refine init_ok hp (by omega) (Int.le_refl _) ⟨rfl, eqOk_self, _, _, _, _, _, _, rfl, by rw [rowZ_len]; omega, .inl ⟨_, _, _, _, _, rfl, by decide, _, rfl, ?_⟩⟩
      rw [decide_eq_false (show ¬ ((r = r ∧ d = d ∧ l = l) ∧ m = l ∧ rowZ r d m ps = []) from fun h => by have := h.2.1; omega)]
      exact noF (ess_nil ⟨ps, _, _, _, _, _, _, st, rfl⟩)
  · obtain ⟨ps, _, _, _, _, _, _, st, rfl⟩ := hP
    refine ess_one (es_ret ?_)
    refine ev_bool ?_
    rfl

end
theorem all_mk {l : PySem.W.OpenLaw} {w : World} {K : PySem.W.Frag} {h : Heap} {mg : Str → Option Value} {fa : Addr} (X : K.In h) (G : h.Ns mainGlobals mg) (hfa : mg "law" = some (.ref fa))
    {C_Roll : Addr} (aC_Roll : PySem.W.nsIn K mainGlobals "Roll" = some (some (.ref C_Roll)))
    (pg_Roll : PySem.W.plainGet K C_Roll Str.empty = true) (hd_Roll : PySem.W.hasDictIn K C_Roll = true) (po_Roll : PySem.W.plainOver K C_Roll = true) (sa_Roll : PySem.W.findIn K (.ref C_Roll) "__setattr__" = some (some (.builtin "object.__setattr__"))) (mk_Roll : PySem.W.makesIn K C_Roll = true) (kc_Roll : PySem.W.keepIn K (.ref C_Roll) = true)
    (na_Roll_kind : PySem.W.findIn K (.ref C_Roll) "kind" = some none)
    (na_Roll_size : PySem.W.findIn K (.ref C_Roll) "size" = some none)
    (na_Roll_rows : PySem.W.findIn K (.ref C_Roll) "rows" = some none)
    (nn_Roll : PySem.W.findIn K (.ref C_Roll) "__ne__" = some (some (.builtin "object.__ne__"))) (om_Roll : PySem.W.mroIn K C_Roll (.type "object") = some true) (oc_Roll : PySem.W.findIn K (.ref C_Roll) "__class__" = some (some (.builtin "object.__class__"))) (st_Roll : PySem.W.subIn K (.type "tuple") (.ref C_Roll) = some false) (it_Roll : PySem.W.typeIn K (.ref C_Roll) = some (.type "type")) (il_Roll : PySem.W.isClsIn K C_Roll = true)
    {C_WallError : Addr} (aC_WallError : PySem.W.nsIn K mainGlobals "WallError" = some (some (.ref C_WallError))) (tC_WallError : PySem.W.typeIn K (.ref C_WallError) = some (.type "type")) (bC_WallError : PySem.W.subIn K (.ref C_WallError) (.type "BaseException") = some true) (iC_WallError : PySem.W.isClsIn K C_WallError = true) (hC_WallError : PySem.W.hasDictIn K C_WallError = true)
    {C_InvalidPaper : Addr} (aC_InvalidPaper : PySem.W.nsIn K mainGlobals "InvalidPaper" = some (some (.ref C_InvalidPaper))) (tC_InvalidPaper : PySem.W.typeIn K (.ref C_InvalidPaper) = some (.type "type")) (bC_InvalidPaper : PySem.W.subIn K (.ref C_InvalidPaper) (.type "BaseException") = some true) (iC_InvalidPaper : PySem.W.isClsIn K C_InvalidPaper = true) (hC_InvalidPaper : PySem.W.hasDictIn K C_InvalidPaper = true)
    {C_InvalidLength : Addr} (aC_InvalidLength : PySem.W.nsIn K mainGlobals "InvalidLength" = some (some (.ref C_InvalidLength))) (tC_InvalidLength : PySem.W.typeIn K (.ref C_InvalidLength) = some (.type "type")) (bC_InvalidLength : PySem.W.subIn K (.ref C_InvalidLength) (.type "BaseException") = some true) (iC_InvalidLength : PySem.W.isClsIn K C_InvalidLength = true) (hC_InvalidLength : PySem.W.hasDictIn K C_InvalidLength = true)
    {C_InvalidPlace : Addr} (aC_InvalidPlace : PySem.W.nsIn K mainGlobals "InvalidPlace" = some (some (.ref C_InvalidPlace))) (tC_InvalidPlace : PySem.W.typeIn K (.ref C_InvalidPlace) = some (.type "type")) (bC_InvalidPlace : PySem.W.subIn K (.ref C_InvalidPlace) (.type "BaseException") = some true) (iC_InvalidPlace : PySem.W.isClsIn K C_InvalidPlace = true) (hC_InvalidPlace : PySem.W.hasDictIn K C_InvalidPlace = true)
    {C_InvalidFactor : Addr} (aC_InvalidFactor : PySem.W.nsIn K mainGlobals "InvalidFactor" = some (some (.ref C_InvalidFactor))) (tC_InvalidFactor : PySem.W.typeIn K (.ref C_InvalidFactor) = some (.type "type")) (bC_InvalidFactor : PySem.W.subIn K (.ref C_InvalidFactor) (.type "BaseException") = some true) (iC_InvalidFactor : PySem.W.isClsIn K C_InvalidFactor = true) (hC_InvalidFactor : PySem.W.hasDictIn K C_InvalidFactor = true)
    {C_NoRoom : Addr} (aC_NoRoom : PySem.W.nsIn K mainGlobals "NoRoom" = some (some (.ref C_NoRoom))) (tC_NoRoom : PySem.W.typeIn K (.ref C_NoRoom) = some (.type "type")) (bC_NoRoom : PySem.W.subIn K (.ref C_NoRoom) (.type "BaseException") = some true) (iC_NoRoom : PySem.W.isClsIn K C_NoRoom = true) (hC_NoRoom : PySem.W.hasDictIn K C_NoRoom = true)
    {C_NothingToUndo : Addr} (aC_NothingToUndo : PySem.W.nsIn K mainGlobals "NothingToUndo" = some (some (.ref C_NothingToUndo))) (tC_NothingToUndo : PySem.W.typeIn K (.ref C_NothingToUndo) = some (.type "type")) (bC_NothingToUndo : PySem.W.subIn K (.ref C_NothingToUndo) (.type "BaseException") = some true) (iC_NothingToUndo : PySem.W.isClsIn K C_NothingToUndo = true) (hC_NothingToUndo : PySem.W.hasDictIn K C_NothingToUndo = true)
    (oG : PySem.W.specialIn K (.builtin "object.__class__") "__get__" = some (some (.builtin "getset_descriptor.__get__"))) (oT : PySem.W.takesIn K (.builtin "object.__class__") = some true)
    (xq_InvalidPaper : PySem.W.excIn K C_InvalidPaper [.type "ValueError", .type "Exception", .type "BaseException", .type "object"] "ValueError.__new__" = true) (kc_InvalidPaper : PySem.W.keepIn K (.ref C_InvalidPaper) = true) (xg_InvalidPaper : PySem.W.findIn K (.ref C_InvalidPaper) "__getattribute__" = some (some (.builtin "BaseException.__getattribute__"))) (xk_InvalidPaper : PySem.W.findIn K (.ref C_InvalidPaper) "__getattr__" = some none) (xa_InvalidPaper : PySem.W.findIn K (.ref C_InvalidPaper) "__class__" = some (some (.builtin "object.__class__"))) (xm_InvalidPaper : PySem.W.mroIn K C_InvalidPaper (.type "object") = some true) (sw_InvalidPaper : PySem.W.subIn K (.ref C_InvalidPaper) (.ref C_WallError) = some true)
    (si_InvalidPaper_InvalidPaper : PySem.W.subIn K (.ref C_InvalidPaper) (.ref C_InvalidPaper) = some true)
    (si_InvalidPaper_InvalidLength : PySem.W.subIn K (.ref C_InvalidPaper) (.ref C_InvalidLength) = some false)
    (ne_InvalidPaper_InvalidLength : (Value.ref C_InvalidPaper == Value.ref C_InvalidLength) = false)
    (si_InvalidPaper_InvalidPlace : PySem.W.subIn K (.ref C_InvalidPaper) (.ref C_InvalidPlace) = some false)
    (ne_InvalidPaper_InvalidPlace : (Value.ref C_InvalidPaper == Value.ref C_InvalidPlace) = false)
    (si_InvalidPaper_InvalidFactor : PySem.W.subIn K (.ref C_InvalidPaper) (.ref C_InvalidFactor) = some false)
    (ne_InvalidPaper_InvalidFactor : (Value.ref C_InvalidPaper == Value.ref C_InvalidFactor) = false)
    (si_InvalidPaper_NoRoom : PySem.W.subIn K (.ref C_InvalidPaper) (.ref C_NoRoom) = some false)
    (ne_InvalidPaper_NoRoom : (Value.ref C_InvalidPaper == Value.ref C_NoRoom) = false)
    (si_InvalidPaper_NothingToUndo : PySem.W.subIn K (.ref C_InvalidPaper) (.ref C_NothingToUndo) = some false)
    (ne_InvalidPaper_NothingToUndo : (Value.ref C_InvalidPaper == Value.ref C_NothingToUndo) = false)
    (xq_InvalidLength : PySem.W.excIn K C_InvalidLength [.type "ValueError", .type "Exception", .type "BaseException", .type "object"] "ValueError.__new__" = true) (kc_InvalidLength : PySem.W.keepIn K (.ref C_InvalidLength) = true) (xg_InvalidLength : PySem.W.findIn K (.ref C_InvalidLength) "__getattribute__" = some (some (.builtin "BaseException.__getattribute__"))) (xk_InvalidLength : PySem.W.findIn K (.ref C_InvalidLength) "__getattr__" = some none) (xa_InvalidLength : PySem.W.findIn K (.ref C_InvalidLength) "__class__" = some (some (.builtin "object.__class__"))) (xm_InvalidLength : PySem.W.mroIn K C_InvalidLength (.type "object") = some true) (sw_InvalidLength : PySem.W.subIn K (.ref C_InvalidLength) (.ref C_WallError) = some true)
    (si_InvalidLength_InvalidPaper : PySem.W.subIn K (.ref C_InvalidLength) (.ref C_InvalidPaper) = some false)
    (ne_InvalidLength_InvalidPaper : (Value.ref C_InvalidLength == Value.ref C_InvalidPaper) = false)
    (si_InvalidLength_InvalidLength : PySem.W.subIn K (.ref C_InvalidLength) (.ref C_InvalidLength) = some true)
    (si_InvalidLength_InvalidPlace : PySem.W.subIn K (.ref C_InvalidLength) (.ref C_InvalidPlace) = some false)
    (ne_InvalidLength_InvalidPlace : (Value.ref C_InvalidLength == Value.ref C_InvalidPlace) = false)
    (si_InvalidLength_InvalidFactor : PySem.W.subIn K (.ref C_InvalidLength) (.ref C_InvalidFactor) = some false)
    (ne_InvalidLength_InvalidFactor : (Value.ref C_InvalidLength == Value.ref C_InvalidFactor) = false)
    (si_InvalidLength_NoRoom : PySem.W.subIn K (.ref C_InvalidLength) (.ref C_NoRoom) = some false)
    (ne_InvalidLength_NoRoom : (Value.ref C_InvalidLength == Value.ref C_NoRoom) = false)
    (si_InvalidLength_NothingToUndo : PySem.W.subIn K (.ref C_InvalidLength) (.ref C_NothingToUndo) = some false)
    (ne_InvalidLength_NothingToUndo : (Value.ref C_InvalidLength == Value.ref C_NothingToUndo) = false)
    (xq_InvalidPlace : PySem.W.excIn K C_InvalidPlace [.type "ValueError", .type "Exception", .type "BaseException", .type "object"] "ValueError.__new__" = true) (kc_InvalidPlace : PySem.W.keepIn K (.ref C_InvalidPlace) = true) (xg_InvalidPlace : PySem.W.findIn K (.ref C_InvalidPlace) "__getattribute__" = some (some (.builtin "BaseException.__getattribute__"))) (xk_InvalidPlace : PySem.W.findIn K (.ref C_InvalidPlace) "__getattr__" = some none) (xa_InvalidPlace : PySem.W.findIn K (.ref C_InvalidPlace) "__class__" = some (some (.builtin "object.__class__"))) (xm_InvalidPlace : PySem.W.mroIn K C_InvalidPlace (.type "object") = some true) (sw_InvalidPlace : PySem.W.subIn K (.ref C_InvalidPlace) (.ref C_WallError) = some true)
    (si_InvalidPlace_InvalidPaper : PySem.W.subIn K (.ref C_InvalidPlace) (.ref C_InvalidPaper) = some false)
    (ne_InvalidPlace_InvalidPaper : (Value.ref C_InvalidPlace == Value.ref C_InvalidPaper) = false)
    (si_InvalidPlace_InvalidLength : PySem.W.subIn K (.ref C_InvalidPlace) (.ref C_InvalidLength) = some false)
    (ne_InvalidPlace_InvalidLength : (Value.ref C_InvalidPlace == Value.ref C_InvalidLength) = false)
    (si_InvalidPlace_InvalidPlace : PySem.W.subIn K (.ref C_InvalidPlace) (.ref C_InvalidPlace) = some true)
    (si_InvalidPlace_InvalidFactor : PySem.W.subIn K (.ref C_InvalidPlace) (.ref C_InvalidFactor) = some false)
    (ne_InvalidPlace_InvalidFactor : (Value.ref C_InvalidPlace == Value.ref C_InvalidFactor) = false)
    (si_InvalidPlace_NoRoom : PySem.W.subIn K (.ref C_InvalidPlace) (.ref C_NoRoom) = some false)
    (ne_InvalidPlace_NoRoom : (Value.ref C_InvalidPlace == Value.ref C_NoRoom) = false)
    (si_InvalidPlace_NothingToUndo : PySem.W.subIn K (.ref C_InvalidPlace) (.ref C_NothingToUndo) = some false)
    (ne_InvalidPlace_NothingToUndo : (Value.ref C_InvalidPlace == Value.ref C_NothingToUndo) = false)
    (xq_NoRoom : PySem.W.excIn K C_NoRoom [.type "ValueError", .type "Exception", .type "BaseException", .type "object"] "ValueError.__new__" = true) (kc_NoRoom : PySem.W.keepIn K (.ref C_NoRoom) = true) (xg_NoRoom : PySem.W.findIn K (.ref C_NoRoom) "__getattribute__" = some (some (.builtin "BaseException.__getattribute__"))) (xk_NoRoom : PySem.W.findIn K (.ref C_NoRoom) "__getattr__" = some none) (xa_NoRoom : PySem.W.findIn K (.ref C_NoRoom) "__class__" = some (some (.builtin "object.__class__"))) (xm_NoRoom : PySem.W.mroIn K C_NoRoom (.type "object") = some true) (sw_NoRoom : PySem.W.subIn K (.ref C_NoRoom) (.ref C_WallError) = some true)
    (si_NoRoom_InvalidPaper : PySem.W.subIn K (.ref C_NoRoom) (.ref C_InvalidPaper) = some false)
    (ne_NoRoom_InvalidPaper : (Value.ref C_NoRoom == Value.ref C_InvalidPaper) = false)
    (si_NoRoom_InvalidLength : PySem.W.subIn K (.ref C_NoRoom) (.ref C_InvalidLength) = some false)
    (ne_NoRoom_InvalidLength : (Value.ref C_NoRoom == Value.ref C_InvalidLength) = false)
    (si_NoRoom_InvalidPlace : PySem.W.subIn K (.ref C_NoRoom) (.ref C_InvalidPlace) = some false)
    (ne_NoRoom_InvalidPlace : (Value.ref C_NoRoom == Value.ref C_InvalidPlace) = false)
    (si_NoRoom_InvalidFactor : PySem.W.subIn K (.ref C_NoRoom) (.ref C_InvalidFactor) = some false)
    (ne_NoRoom_InvalidFactor : (Value.ref C_NoRoom == Value.ref C_InvalidFactor) = false)
    (si_NoRoom_NoRoom : PySem.W.subIn K (.ref C_NoRoom) (.ref C_NoRoom) = some true)
    (si_NoRoom_NothingToUndo : PySem.W.subIn K (.ref C_NoRoom) (.ref C_NothingToUndo) = some false)
    (ne_NoRoom_NothingToUndo : (Value.ref C_NoRoom == Value.ref C_NothingToUndo) = false)
    (xq_NothingToUndo : PySem.W.excIn K C_NothingToUndo [.type "ValueError", .type "Exception", .type "BaseException", .type "object"] "ValueError.__new__" = true) (kc_NothingToUndo : PySem.W.keepIn K (.ref C_NothingToUndo) = true) (xg_NothingToUndo : PySem.W.findIn K (.ref C_NothingToUndo) "__getattribute__" = some (some (.builtin "BaseException.__getattribute__"))) (xk_NothingToUndo : PySem.W.findIn K (.ref C_NothingToUndo) "__getattr__" = some none) (xa_NothingToUndo : PySem.W.findIn K (.ref C_NothingToUndo) "__class__" = some (some (.builtin "object.__class__"))) (xm_NothingToUndo : PySem.W.mroIn K C_NothingToUndo (.type "object") = some true) (sw_NothingToUndo : PySem.W.subIn K (.ref C_NothingToUndo) (.ref C_WallError) = some true)
    (si_NothingToUndo_InvalidPaper : PySem.W.subIn K (.ref C_NothingToUndo) (.ref C_InvalidPaper) = some false)
    (ne_NothingToUndo_InvalidPaper : (Value.ref C_NothingToUndo == Value.ref C_InvalidPaper) = false)
    (si_NothingToUndo_InvalidLength : PySem.W.subIn K (.ref C_NothingToUndo) (.ref C_InvalidLength) = some false)
    (ne_NothingToUndo_InvalidLength : (Value.ref C_NothingToUndo == Value.ref C_InvalidLength) = false)
    (si_NothingToUndo_InvalidPlace : PySem.W.subIn K (.ref C_NothingToUndo) (.ref C_InvalidPlace) = some false)
    (ne_NothingToUndo_InvalidPlace : (Value.ref C_NothingToUndo == Value.ref C_InvalidPlace) = false)
    (si_NothingToUndo_InvalidFactor : PySem.W.subIn K (.ref C_NothingToUndo) (.ref C_InvalidFactor) = some false)
    (ne_NothingToUndo_InvalidFactor : (Value.ref C_NothingToUndo == Value.ref C_InvalidFactor) = false)
    (si_NothingToUndo_NoRoom : PySem.W.subIn K (.ref C_NothingToUndo) (.ref C_NoRoom) = some false)
    (ne_NothingToUndo_NoRoom : (Value.ref C_NothingToUndo == Value.ref C_NoRoom) = false)
    (si_NothingToUndo_NothingToUndo : PySem.W.subIn K (.ref C_NothingToUndo) (.ref C_NothingToUndo) = some true)
    {f0 : Addr} {od0 an0 : Option Addr} {sl0 : Array (Option Value)} {oc0 kV0 dc0 pm0 cd0 ct0 : Value}
    (a0 : PySem.W.nsIn K mainGlobals "is_integer" = some (some (.ref f0))) (l0 : K.lookup f0 = some ⟨oc0, od0, .func (PySem.W.fnOf "is_integer" "is_integer" (defArgs s_is_integer) (defBody s_is_integer) (defScope s_is_integer) .none kV0 dc0 pm0 an0 cd0 ct0), sl0⟩) (c0 : PySem.W.codeIn K cd0 "is_integer" = true) (k0 : PySem.W.keepIn K (.ref f0) = true)
    {f1 : Addr} {od1 an1 : Option Addr} {sl1 : Array (Option Value)} {oc1 kV1 dc1 pm1 cd1 ct1 : Value}
    (a1 : PySem.W.nsIn K mainGlobals "is_paper" = some (some (.ref f1))) (l1 : K.lookup f1 = some ⟨oc1, od1, .func (PySem.W.fnOf "is_paper" "is_paper" (defArgs s_is_paper) (defBody s_is_paper) (defScope s_is_paper) .none kV1 dc1 pm1 an1 cd1 ct1), sl1⟩) (c1 : PySem.W.codeIn K cd1 "is_paper" = true) (k1 : PySem.W.keepIn K (.ref f1) = true)
    {f2 : Addr} {od2 an2 : Option Addr} {sl2 : Array (Option Value)} {oc2 kV2 dc2 pm2 cd2 ct2 : Value}
    (a2 : PySem.W.nsIn K mainGlobals "phase" = some (some (.ref f2))) (l2 : K.lookup f2 = some ⟨oc2, od2, .func (PySem.W.fnOf "phase" "phase" (defArgs s_phase) (defBody s_phase) (defScope s_phase) .none kV2 dc2 pm2 an2 cd2 ct2), sl2⟩) (c2 : PySem.W.codeIn K cd2 "phase" = true) (k2 : PySem.W.keepIn K (.ref f2) = true)
    {f3 : Addr} {od3 an3 : Option Addr} {sl3 : Array (Option Value)} {oc3 kV3 dc3 pm3 cd3 ct3 : Value}
    (a3 : PySem.W.nsIn K mainGlobals "begin_behind" = some (some (.ref f3))) (l3 : K.lookup f3 = some ⟨oc3, od3, .func (PySem.W.fnOf "begin_behind" "begin_behind" (defArgs s_begin_behind) (defBody s_begin_behind) (defScope s_begin_behind) .none kV3 dc3 pm3 an3 cd3 ct3), sl3⟩) (c3 : PySem.W.codeIn K cd3 "begin_behind" = true) (k3 : PySem.W.keepIn K (.ref f3) = true)
    {f4 : Addr} {od4 an4 : Option Addr} {sl4 : Array (Option Value)} {oc4 kV4 dc4 pm4 cd4 ct4 : Value}
    (a4 : PySem.W.findIn K (.ref C_Roll) "__init__" = some (some (.ref f4))) (i4 : PySem.W.isFn K (.ref f4) = true)
    (l4 : K.lookup f4 = some ⟨oc4, od4, .func (PySem.W.fnOf "__init__" "Roll.__init__" (defArgs s_Roll___init__) (defBody s_Roll___init__) (defScope s_Roll___init__) .none kV4 dc4 pm4 an4 cd4 ct4), sl4⟩) (c4 : PySem.W.codeIn K cd4 "Roll.__init__" = true) (k4 : PySem.W.keepIn K (.ref f4) = true)
    {f5 : Addr} {od5 an5 : Option Addr} {sl5 : Array (Option Value)} {oc5 kV5 dc5 pm5 cd5 ct5 : Value}
    {p5 : Addr} {re5 : List Value} (a5 : PySem.W.findIn K (.ref C_Roll) "places" = some (some (.ref p5))) (g5 : PySem.W.specialIn K (.ref p5) "__get__" = some (some (.builtin "property.__get__"))) (t5 : PySem.W.takesIn K (.ref p5) = some true) (r5 : PySem.W.recIn K p5 "property" = some (.ref f5 :: re5))
    (l5 : K.lookup f5 = some ⟨oc5, od5, .func (PySem.W.fnOf "places" "Roll.places" (defArgs s_Roll_places) (defBody s_Roll_places) (defScope s_Roll_places) .none kV5 dc5 pm5 an5 cd5 ct5), sl5⟩) (c5 : PySem.W.codeIn K cd5 "Roll.places" = true) (k5 : PySem.W.keepIn K (.ref f5) = true)
    {f6 : Addr} {od6 an6 : Option Addr} {sl6 : Array (Option Value)} {oc6 kV6 dc6 pm6 cd6 ct6 : Value}
    {p6 : Addr} {re6 : List Value} (a6 : PySem.W.findIn K (.ref C_Roll) "left" = some (some (.ref p6))) (g6 : PySem.W.specialIn K (.ref p6) "__get__" = some (some (.builtin "property.__get__"))) (t6 : PySem.W.takesIn K (.ref p6) = some true) (r6 : PySem.W.recIn K p6 "property" = some (.ref f6 :: re6))
    (l6 : K.lookup f6 = some ⟨oc6, od6, .func (PySem.W.fnOf "left" "Roll.left" (defArgs s_Roll_left) (defBody s_Roll_left) (defScope s_Roll_left) .none kV6 dc6 pm6 an6 cd6 ct6), sl6⟩) (c6 : PySem.W.codeIn K cd6 "Roll.left" = true) (k6 : PySem.W.keepIn K (.ref f6) = true)
    {f7 : Addr} {od7 an7 : Option Addr} {sl7 : Array (Option Value)} {oc7 kV7 dc7 pm7 cd7 ct7 : Value}
    (a7 : PySem.W.findIn K (.ref C_Roll) "begin_of" = some (some (.ref f7))) (i7 : PySem.W.isFn K (.ref f7) = true)
    (l7 : K.lookup f7 = some ⟨oc7, od7, .func (PySem.W.fnOf "begin_of" "Roll.begin_of" (defArgs s_Roll_begin_of) (defBody s_Roll_begin_of) (defScope s_Roll_begin_of) .none kV7 dc7 pm7 an7 cd7 ct7), sl7⟩) (c7 : PySem.W.codeIn K cd7 "Roll.begin_of" = true) (k7 : PySem.W.keepIn K (.ref f7) = true)
    {f8 : Addr} {od8 an8 : Option Addr} {sl8 : Array (Option Value)} {oc8 kV8 dc8 pm8 cd8 ct8 : Value}
    (a8 : PySem.W.findIn K (.ref C_Roll) "cut" = some (some (.ref f8))) (i8 : PySem.W.isFn K (.ref f8) = true)
    (l8 : K.lookup f8 = some ⟨oc8, od8, .func (PySem.W.fnOf "cut" "Roll.cut" (defArgs s_Roll_cut) (defBody s_Roll_cut) (defScope s_Roll_cut) .none kV8 dc8 pm8 an8 cd8 ct8), sl8⟩) (c8 : PySem.W.codeIn K cd8 "Roll.cut" = true) (k8 : PySem.W.keepIn K (.ref f8) = true)
    {f9 : Addr} {od9 an9 : Option Addr} {sl9 : Array (Option Value)} {oc9 kV9 dc9 pm9 cd9 ct9 : Value}
    (a9 : PySem.W.findIn K (.ref C_Roll) "__call__" = some (some (.ref f9))) (i9 : PySem.W.isFn K (.ref f9) = true)
    (n9 : PySem.W.fnIn K f9 = true)
    (l9 : K.lookup f9 = some ⟨oc9, od9, .func (PySem.W.fnOf "__call__" "Roll.__call__" (defArgs s_Roll___call__) (defBody s_Roll___call__) (defScope s_Roll___call__) .none kV9 dc9 pm9 an9 cd9 ct9), sl9⟩) (c9 : PySem.W.codeIn K cd9 "Roll.__call__" = true) (k9 : PySem.W.keepIn K (.ref f9) = true)
    {f10 : Addr} {od10 an10 : Option Addr} {sl10 : Array (Option Value)} {oc10 kV10 dc10 pm10 cd10 ct10 : Value}
    (a10 : PySem.W.findIn K (.ref C_Roll) "undo" = some (some (.ref f10))) (i10 : PySem.W.isFn K (.ref f10) = true)
    (l10 : K.lookup f10 = some ⟨oc10, od10, .func (PySem.W.fnOf "undo" "Roll.undo" (defArgs s_Roll_undo) (defBody s_Roll_undo) (defScope s_Roll_undo) .none kV10 dc10 pm10 an10 cd10 ct10), sl10⟩) (c10 : PySem.W.codeIn K cd10 "Roll.undo" = true) (k10 : PySem.W.keepIn K (.ref f10) = true)
    {f11 : Addr} {od11 an11 : Option Addr} {sl11 : Array (Option Value)} {oc11 kV11 dc11 pm11 cd11 ct11 : Value}
    (a11 : PySem.W.findIn K (.ref C_Roll) "lines" = some (some (.ref f11))) (i11 : PySem.W.isFn K (.ref f11) = true)
    (l11 : K.lookup f11 = some ⟨oc11, od11, .func (PySem.W.fnOf "lines" "Roll.lines" (defArgs s_Roll_lines) (defBody s_Roll_lines) (defScope s_Roll_lines) .none kV11 dc11 pm11 an11 cd11 ct11), sl11⟩) (c11 : PySem.W.codeIn K cd11 "Roll.lines" = true) (k11 : PySem.W.keepIn K (.ref f11) = true)
    {f12 : Addr} {od12 an12 : Option Addr} {sl12 : Array (Option Value)} {oc12 kV12 dc12 pm12 cd12 ct12 : Value}
    (a12 : PySem.W.findIn K (.ref C_Roll) "__contains__" = some (some (.ref f12))) (i12 : PySem.W.isFn K (.ref f12) = true)
    (l12 : K.lookup f12 = some ⟨oc12, od12, .func (PySem.W.fnOf "__contains__" "Roll.__contains__" (defArgs s_Roll___contains__) (defBody s_Roll___contains__) (defScope s_Roll___contains__) .none kV12 dc12 pm12 an12 cd12 ct12), sl12⟩) (c12 : PySem.W.codeIn K cd12 "Roll.__contains__" = true) (k12 : PySem.W.keepIn K (.ref f12) = true)
    {f13 : Addr} {od13 an13 : Option Addr} {sl13 : Array (Option Value)} {oc13 kV13 dc13 pm13 cd13 ct13 : Value}
    (a13 : PySem.W.findIn K (.ref C_Roll) "__len__" = some (some (.ref f13))) (i13 : PySem.W.isFn K (.ref f13) = true)
    (l13 : K.lookup f13 = some ⟨oc13, od13, .func (PySem.W.fnOf "__len__" "Roll.__len__" (defArgs s_Roll___len__) (defBody s_Roll___len__) (defScope s_Roll___len__) .none kV13 dc13 pm13 an13 cd13 ct13), sl13⟩) (c13 : PySem.W.codeIn K cd13 "Roll.__len__" = true) (k13 : PySem.W.keepIn K (.ref f13) = true)
    {f14 : Addr} {od14 an14 : Option Addr} {sl14 : Array (Option Value)} {oc14 kV14 dc14 pm14 cd14 ct14 : Value}
    (a14 : PySem.W.findIn K (.ref C_Roll) "__bool__" = some (some (.ref f14))) (i14 : PySem.W.isFn K (.ref f14) = true)
    (l14 : K.lookup f14 = some ⟨oc14, od14, .func (PySem.W.fnOf "__bool__" "Roll.__bool__" (defArgs s_Roll___bool__) (defBody s_Roll___bool__) (defScope s_Roll___bool__) .none kV14 dc14 pm14 an14 cd14 ct14), sl14⟩) (c14 : PySem.W.codeIn K cd14 "Roll.__bool__" = true) (k14 : PySem.W.keepIn K (.ref f14) = true)
    {f15 : Addr} {od15 an15 : Option Addr} {sl15 : Array (Option Value)} {oc15 kV15 dc15 pm15 cd15 ct15 : Value}
    (a15 : PySem.W.findIn K (.ref C_Roll) "__eq__" = some (some (.ref f15))) (i15 : PySem.W.isFn K (.ref f15) = true)
    (l15 : K.lookup f15 = some ⟨oc15, od15, .func (PySem.W.fnOf "__eq__" "Roll.__eq__" (defArgs s_Roll___eq__) (defBody s_Roll___eq__) (defScope s_Roll___eq__) .none kV15 dc15 pm15 an15 cd15 ct15), sl15⟩) (c15 : PySem.W.codeIn K cd15 "Roll.__eq__" = true) (k15 : PySem.W.keepIn K (.ref f15) = true)
    {f16 : Addr} {od16 an16 : Option Addr} {sl16 : Array (Option Value)} {oc16 kV16 dc16 pm16 cd16 ct16 : Value}
    (a16 : PySem.W.nsIn K mainGlobals "_law_draw" = some (some (.ref f16))) (l16 : K.lookup f16 = some ⟨oc16, od16, .func (PySem.W.fnOf "_law_draw" "_law_draw" (defArgs s__law_draw) (defBody s__law_draw) (defScope s__law_draw) .none kV16 dc16 pm16 an16 cd16 ct16), sl16⟩) (c16 : PySem.W.codeIn K cd16 "_law_draw" = true) (k16 : PySem.W.keepIn K (.ref f16) = true)
    {f17 : Addr} {od17 an17 : Option Addr} {sl17 : Array (Option Value)} {oc17 kV17 dc17 pm17 cd17 ct17 : Value}
    (a17 : PySem.W.nsIn K mainGlobals "_law_whole" = some (some (.ref f17))) (l17 : K.lookup f17 = some ⟨oc17, od17, .func (PySem.W.fnOf "_law_whole" "_law_whole" (defArgs s__law_whole) (defBody s__law_whole) (defScope s__law_whole) .none kV17 dc17 pm17 an17 cd17 ct17), sl17⟩) (c17 : PySem.W.codeIn K cd17 "_law_whole" = true) (k17 : PySem.W.keepIn K (.ref f17) = true)
    {f18 : Addr} {od18 an18 : Option Addr} {sl18 : Array (Option Value)} {oc18 kV18 dc18 pm18 cd18 ct18 : Value}
    (a18 : PySem.W.nsIn K mainGlobals "_law_within" = some (some (.ref f18))) (l18 : K.lookup f18 = some ⟨oc18, od18, .func (PySem.W.fnOf "_law_within" "_law_within" (defArgs s__law_within) (defBody s__law_within) (defScope s__law_within) .none kV18 dc18 pm18 an18 cd18 ct18), sl18⟩) (c18 : PySem.W.codeIn K cd18 "_law_within" = true) (k18 : PySem.W.keepIn K (.ref f18) = true)
    {f19 : Addr} {od19 an19 : Option Addr} {sl19 : Array (Option Value)} {oc19 kV19 dc19 pm19 cd19 ct19 : Value}
    (a19 : PySem.W.nsIn K mainGlobals "_law_like" = some (some (.ref f19))) (l19 : K.lookup f19 = some ⟨oc19, od19, .func (PySem.W.fnOf "_law_like" "_law_like" (defArgs s__law_like) (defBody s__law_like) (defScope s__law_like) .none kV19 dc19 pm19 an19 cd19 ct19), sl19⟩) (c19 : PySem.W.codeIn K cd19 "_law_like" = true) (k19 : PySem.W.keepIn K (.ref f19) = true)
    {f20 : Addr} {od20 an20 : Option Addr} {sl20 : Array (Option Value)} {oc20 kV20 dc20 pm20 cd20 ct20 : Value}
    (a20 : PySem.W.nsIn K mainGlobals "_law_numbers" = some (some (.ref f20))) (l20 : K.lookup f20 = some ⟨oc20, od20, .func (PySem.W.fnOf "_law_numbers" "_law_numbers" (defArgs s__law_numbers) (defBody s__law_numbers) (defScope s__law_numbers) .none kV20 dc20 pm20 an20 cd20 ct20), sl20⟩) (c20 : PySem.W.codeIn K cd20 "_law_numbers" = true) (k20 : PySem.W.keepIn K (.ref f20) = true)
    {f21 : Addr} {od21 an21 : Option Addr} {sl21 : Array (Option Value)} {oc21 kV21 dc21 pm21 cd21 ct21 : Value}
    (a21 : PySem.W.nsIn K mainGlobals "_law_phase" = some (some (.ref f21))) (l21 : K.lookup f21 = some ⟨oc21, od21, .func (PySem.W.fnOf "_law_phase" "_law_phase" (defArgs s__law_phase) (defBody s__law_phase) (defScope s__law_phase) .none kV21 dc21 pm21 an21 cd21 ct21), sl21⟩) (c21 : PySem.W.codeIn K cd21 "_law_phase" = true) (k21 : PySem.W.keepIn K (.ref f21) = true)
    {f22 : Addr} {od22 an22 : Option Addr} {sl22 : Array (Option Value)} {oc22 kV22 dc22 pm22 cd22 ct22 : Value}
    (a22 : PySem.W.nsIn K mainGlobals "_law_next" = some (some (.ref f22))) (l22 : K.lookup f22 = some ⟨oc22, od22, .func (PySem.W.fnOf "_law_next" "_law_next" (defArgs s__law_next) (defBody s__law_next) (defScope s__law_next) .none kV22 dc22 pm22 an22 cd22 ct22), sl22⟩) (c22 : PySem.W.codeIn K cd22 "_law_next" = true) (k22 : PySem.W.keepIn K (.ref f22) = true)
    {f23 : Addr} {od23 an23 : Option Addr} {sl23 : Array (Option Value)} {oc23 kV23 dc23 pm23 cd23 ct23 : Value}
    (a23 : PySem.W.nsIn K mainGlobals "_law_begins" = some (some (.ref f23))) (l23 : K.lookup f23 = some ⟨oc23, od23, .func (PySem.W.fnOf "_law_begins" "_law_begins" (defArgs s__law_begins) (defBody s__law_begins) (defScope s__law_begins) .none kV23 dc23 pm23 an23 cd23 ct23), sl23⟩) (c23 : PySem.W.codeIn K cd23 "_law_begins" = true) (k23 : PySem.W.keepIn K (.ref f23) = true)
    {f24 : Addr} {od24 an24 : Option Addr} {sl24 : Array (Option Value)} {oc24 kV24 dc24 pm24 cd24 ct24 : Value}
    (a24 : PySem.W.nsIn K mainGlobals "_law_kind" = some (some (.ref f24))) (l24 : K.lookup f24 = some ⟨oc24, od24, .func (PySem.W.fnOf "_law_kind" "_law_kind" (defArgs s__law_kind) (defBody s__law_kind) (defScope s__law_kind) .none kV24 dc24 pm24 an24 cd24 ct24), sl24⟩) (c24 : PySem.W.codeIn K cd24 "_law_kind" = true) (k24 : PySem.W.keepIn K (.ref f24) = true)
    {f25 : Addr} {od25 an25 : Option Addr} {sl25 : Array (Option Value)} {oc25 kV25 dc25 pm25 cd25 ct25 : Value}
    (a25 : PySem.W.nsIn K mainGlobals "_law_call" = some (some (.ref f25))) (l25 : K.lookup f25 = some ⟨oc25, od25, .func (PySem.W.fnOf "_law_call" "_law_call" (defArgs s__law_call) (defBody s__law_call) (defScope s__law_call) .none kV25 dc25 pm25 an25 cd25 ct25), sl25⟩) (c25 : PySem.W.codeIn K cd25 "_law_call" = true) (k25 : PySem.W.keepIn K (.ref f25) = true)
    {f26 : Addr} {od26 an26 : Option Addr} {sl26 : Array (Option Value)} {oc26 kV26 dc26 pm26 cd26 ct26 : Value}
    (a26 : PySem.W.nsIn K mainGlobals "_law_asked" = some (some (.ref f26))) (l26 : K.lookup f26 = some ⟨oc26, od26, .func (PySem.W.fnOf "_law_asked" "_law_asked" (defArgs s__law_asked) (defBody s__law_asked) (defScope s__law_asked) .none kV26 dc26 pm26 an26 cd26 ct26), sl26⟩) (c26 : PySem.W.codeIn K cd26 "_law_asked" = true) (k26 : PySem.W.keepIn K (.ref f26) = true)
    {f27 : Addr} {od27 an27 : Option Addr} {sl27 : Array (Option Value)} {oc27 kV27 dc27 pm27 cd27 ct27 : Value}
    (a27 : PySem.W.nsIn K mainGlobals "_law_right" = some (some (.ref f27))) (l27 : K.lookup f27 = some ⟨oc27, od27, .func (PySem.W.fnOf "_law_right" "_law_right" (defArgs s__law_right) (defBody s__law_right) (defScope s__law_right) .none kV27 dc27 pm27 an27 cd27 ct27), sl27⟩) (c27 : PySem.W.codeIn K cd27 "_law_right" = true) (k27 : PySem.W.keepIn K (.ref f27) = true)
    {f28 : Addr} {od28 an28 : Option Addr} {sl28 : Array (Option Value)} {oc28 kV28 dc28 pm28 cd28 ct28 : Value}
    (a28 : PySem.W.nsIn K mainGlobals "law" = some (some (.ref f28))) (l28 : K.lookup f28 = some ⟨oc28, od28, .func (PySem.W.fnOf "law" "law" (defArgs s_law) (defBody s_law) (defScope s_law) .none kV28 dc28 pm28 an28 cd28 ct28), sl28⟩) (c28 : PySem.W.codeIn K cd28 "law" = true) (k28 : PySem.W.keepIn K (.ref f28) = true)
    (z0 : PySem.W.nsIn K mainGlobals "ValueError" = some none)
    (z1 : PySem.W.nsIn K mainGlobals "bool" = some none)
    (z2 : PySem.W.nsIn K mainGlobals "int" = some none)
    (z3 : PySem.W.nsIn K mainGlobals "isinstance" = some none)
    (z4 : PySem.W.nsIn K mainGlobals "len" = some none)
    (z5 : PySem.W.nsIn K mainGlobals "list" = some none)
    (z6 : PySem.W.nsIn K mainGlobals "max" = some none)
    (z7 : PySem.W.nsIn K mainGlobals "property" = some none)
    (z8 : PySem.W.nsIn K mainGlobals "range" = some none)
    (z9 : PySem.W.nsIn K mainGlobals "str" = some none)
    (z10 : PySem.W.nsIn K mainGlobals "tuple" = some none)
    (z11 : PySem.W.nsIn K mainGlobals "zip" = some none)
    {t0 : Tok} (y0 : PySem.W.nsIn K mainGlobals "MOST_REPEAT" = some (some (.int 200 t0)))
    {t1 : Tok} (y1 : PySem.W.nsIn K mainGlobals "MOST_ROLL" = some (some (.int 10000 t1)))
    {t2 : Tok} (y2 : PySem.W.nsIn K mainGlobals "MOST_PLACE" = some (some (.int 1000000000000 t2)))
    : ∃ fd : FuncData, (∀ (s : Shared) (v : Value), BindsTo s fd ⟨[v], []⟩ [("script", v)]) ∧ ∀ base : Heap, K.In base → base.Ns mainGlobals mg → FnOk l.prog w K mg base CX0 13 fa fd ["script"] (spLaw K) := by
  have e := hfa.symm.trans (PySem.W.mg_of X G a28)
  cases e
  have F0 := fun_mk (st := s_is_integer) l0 c0 k0
  have b0 := F0.binds (ps := ["value", "low", "high"]) fun _ _ _ _ _ _ us hl => match us, hl with | [_, _, _], _ => rfl
  have F1 := fun_mk (st := s_is_paper) l1 c1 k1
  have b1 := F1.binds (ps := ["value"]) fun _ _ _ _ _ _ us hl => match us, hl with | [_], _ => rfl
  have F2 := fun_mk (st := s_phase) l2 c2 k2
  have b2 := F2.binds (ps := ["paper", "place"]) fun _ _ _ _ _ _ us hl => match us, hl with | [_, _], _ => rfl
  have F3 := fun_mk (st := s_begin_behind) l3 c3 k3
  have b3 := F3.binds (ps := ["paper", "free", "place"]) fun _ _ _ _ _ _ us hl => match us, hl with | [_, _, _], _ => rfl
  have F4 := fun_mk (st := s_Roll___init__) l4 c4 k4
  have b4 : KBn K (PySem.W.fnOf "__init__" "Roll.__init__" (defArgs s_Roll___init__) (defBody s_Roll___init__) (defScope s_Roll___init__) .none kV4 dc4 pm4 an4 cd4 ct4) ["self", "paper", "length"] 2 ["length"] (fun us ws => us ++ ws) (fun vs zs => vs ++ zs) := ⟨fun s us ws _ l1 l2 => match us, ws, l1, l2 with | [_, _], [_], _, _ => .of_eq rfl, fun r1 r2 => r1.append r2⟩
  have F5 := fun_mk (st := s_Roll_places) l5 c5 k5
  have b5 := F5.binds (ps := ["self"]) fun _ _ _ _ _ _ us hl => match us, hl with | [_], _ => rfl
  have F6 := fun_mk (st := s_Roll_left) l6 c6 k6
  have b6 := F6.binds (ps := ["self"]) fun _ _ _ _ _ _ us hl => match us, hl with | [_], _ => rfl
  have F7 := fun_mk (st := s_Roll_begin_of) l7 c7 k7
  have b7 := F7.binds (ps := ["self", "place"]) fun _ _ _ _ _ _ us hl => match us, hl with | [_, _], _ => rfl
  have F8 := fun_mk (st := s_Roll_cut) l8 c8 k8
  have b8 := F8.binds (ps := ["self", "place"]) fun _ _ _ _ _ _ us hl => match us, hl with | [_, _], _ => rfl
  have F9 := fun_mk (st := s_Roll___call__) l9 c9 k9
  have b9 := F9.binds (ps := ["self", "place"]) fun _ _ _ _ _ _ us hl => match us, hl with | [_, _], _ => rfl
  have F10 := fun_mk (st := s_Roll_undo) l10 c10 k10
  have b10 := F10.binds (ps := ["self"]) fun _ _ _ _ _ _ us hl => match us, hl with | [_], _ => rfl
  have F11 := fun_mk (st := s_Roll_lines) l11 c11 k11
  have b11 := F11.binds (ps := ["self"]) fun _ _ _ _ _ _ us hl => match us, hl with | [_], _ => rfl
  have F12 := fun_mk (st := s_Roll___contains__) l12 c12 k12
  have b12 := F12.binds (ps := ["self", "x"]) fun _ _ _ _ _ _ us hl => match us, hl with | [_, _], _ => rfl
  have F13 := fun_mk (st := s_Roll___len__) l13 c13 k13
  have b13 := F13.binds (ps := ["self"]) fun _ _ _ _ _ _ us hl => match us, hl with | [_], _ => rfl
  have F14 := fun_mk (st := s_Roll___bool__) l14 c14 k14
  have b14 := F14.binds (ps := ["self"]) fun _ _ _ _ _ _ us hl => match us, hl with | [_], _ => rfl
  have F15 := fun_mk (st := s_Roll___eq__) l15 c15 k15
  have b15 := F15.binds (ps := ["self", "other"]) fun _ _ _ _ _ _ us hl => match us, hl with | [_, _], _ => rfl
  have F16 := fun_mk (st := s__law_draw) l16 c16 k16
  have b16 := F16.binds (ps := ["tape", "many"]) fun _ _ _ _ _ _ us hl => match us, hl with | [_, _], _ => rfl
  have F17 := fun_mk (st := s__law_whole) l17 c17 k17
  have b17 := F17.binds (ps := ["item"]) fun _ _ _ _ _ _ us hl => match us, hl with | [_], _ => rfl
  have F18 := fun_mk (st := s__law_within) l18 c18 k18
  have b18 := F18.binds (ps := ["item", "low", "high"]) fun _ _ _ _ _ _ us hl => match us, hl with | [_, _, _], _ => rfl
  have F19 := fun_mk (st := s__law_like) l19 c19 k19
  have b19 := F19.binds (ps := ["one", "two"]) fun _ _ _ _ _ _ us hl => match us, hl with | [_, _], _ => rfl
  have F20 := fun_mk (st := s__law_numbers) l20 c20 k20
  have b20 := F20.binds (ps := ["tape", "most", "far"]) fun _ _ _ _ _ _ us hl => match us, hl with | [_, _, _], _ => rfl
  have F21 := fun_mk (st := s__law_phase) l21 c21 k21
  have b21 := F21.binds (ps := ["kind", "place"]) fun _ _ _ _ _ _ us hl => match us, hl with | [_, _], _ => rfl
  have F22 := fun_mk (st := s__law_next) l22 c22 k22
  have b22 := F22.binds (ps := ["kind", "free", "place"]) fun _ _ _ _ _ _ us hl => match us, hl with | [_, _, _], _ => rfl
  have F23 := fun_mk (st := s__law_begins) l23 c23 k23
  have b23 := F23.binds (ps := ["kind", "size", "places"]) fun _ _ _ _ _ _ us hl => match us, hl with | [_, _, _], _ => rfl
  have F24 := fun_mk (st := s__law_kind) l24 c24 k24
  have b24 := F24.binds (ps := ["e"]) fun _ _ _ _ _ _ us hl => match us, hl with | [_], _ => rfl
  have F25 := fun_mk (st := s__law_call) l25 c25 k25
  have b25 := F25.binds (ps := ["own", "place"]) fun _ _ _ _ _ _ us hl => match us, hl with | [_, _], _ => rfl
  have F26 := fun_mk (st := s__law_asked) l26 c26 k26
  have b26 := F26.binds (ps := ["own", "place"]) fun _ _ _ _ _ _ us hl => match us, hl with | [_, _], _ => rfl
  have F27 := fun_mk (st := s__law_right) l27 c27 k27
  have b27 := F27.binds (ps := ["own", "kind", "size", "places"]) fun _ _ _ _ _ _ us hl => match us, hl with | [_, _, _, _], _ => rfl
  have F28 := fun_mk (st := s_law) l28 c28 k28
  have T : En K mg := ⟨C_Roll, PySem.W.mg_of X G aC_Roll, ⟨pg_Roll, hd_Roll, po_Roll, sa_Roll⟩, na_Roll_kind, na_Roll_size, na_Roll_rows, nn_Roll, om_Roll, ⟨⟨pg_Roll, hd_Roll, po_Roll, sa_Roll⟩, oc_Roll, oG, oT, om_Roll, kit_self⟩, notFirst_of st_Roll, kit_own' il_Roll it_Roll st_Roll ty_ne, C_WallError, PySem.W.mg_of X G aC_WallError, C_InvalidPaper, PySem.W.mg_of X G aC_InvalidPaper, C_InvalidLength, PySem.W.mg_of X G aC_InvalidLength, C_InvalidPlace, PySem.W.mg_of X G aC_InvalidPlace, C_InvalidFactor, PySem.W.mg_of X G aC_InvalidFactor, C_NoRoom, PySem.W.mg_of X G aC_NoRoom, C_NothingToUndo, PySem.W.mg_of X G aC_NothingToUndo, ⟨PySem.W.mg_of X G aC_InvalidPaper, xq_InvalidPaper, kc_InvalidPaper, bC_InvalidPaper, tC_InvalidPaper⟩, ⟨xg_InvalidPaper, xk_InvalidPaper, bC_InvalidPaper, hC_InvalidPaper, xa_InvalidPaper, oG, oT, xm_InvalidPaper⟩, PySem.W.exm_ref bC_WallError hC_WallError tC_WallError sw_InvalidPaper, kit_own iC_InvalidPaper tC_InvalidPaper si_InvalidPaper_InvalidPaper (fun z => rfl), kit_own iC_InvalidLength tC_InvalidLength si_InvalidPaper_InvalidLength (fun z => (by rw [ne_InvalidPaper_InvalidLength] at z; cases z)), kit_own iC_InvalidPlace tC_InvalidPlace si_InvalidPaper_InvalidPlace (fun z => (by rw [ne_InvalidPaper_InvalidPlace] at z; cases z)), kit_own iC_InvalidFactor tC_InvalidFactor si_InvalidPaper_InvalidFactor (fun z => (by rw [ne_InvalidPaper_InvalidFactor] at z; cases z)), kit_own iC_NoRoom tC_NoRoom si_InvalidPaper_NoRoom (fun z => (by rw [ne_InvalidPaper_NoRoom] at z; cases z)), kit_own iC_NothingToUndo tC_NothingToUndo si_InvalidPaper_NothingToUndo (fun z => (by rw [ne_InvalidPaper_NothingToUndo] at z; cases z)), ⟨PySem.W.mg_of X G aC_InvalidLength, xq_InvalidLength, kc_InvalidLength, bC_InvalidLength, tC_InvalidLength⟩, ⟨xg_InvalidLength, xk_InvalidLength, bC_InvalidLength, hC_InvalidLength, xa_InvalidLength, oG, oT, xm_InvalidLength⟩, PySem.W.exm_ref bC_WallError hC_WallError tC_WallError sw_InvalidLength, kit_own iC_InvalidPaper tC_InvalidPaper si_InvalidLength_InvalidPaper (fun z => (by rw [ne_InvalidLength_InvalidPaper] at z; cases z)), kit_own iC_InvalidLength tC_InvalidLength si_InvalidLength_InvalidLength (fun z => rfl), kit_own iC_InvalidPlace tC_InvalidPlace si_InvalidLength_InvalidPlace (fun z => (by rw [ne_InvalidLength_InvalidPlace] at z; cases z)), kit_own iC_InvalidFactor tC_InvalidFactor si_InvalidLength_InvalidFactor (fun z => (by rw [ne_InvalidLength_InvalidFactor] at z; cases z)), kit_own iC_NoRoom tC_NoRoom si_InvalidLength_NoRoom (fun z => (by rw [ne_InvalidLength_NoRoom] at z; cases z)), kit_own iC_NothingToUndo tC_NothingToUndo si_InvalidLength_NothingToUndo (fun z => (by rw [ne_InvalidLength_NothingToUndo] at z; cases z)), ⟨PySem.W.mg_of X G aC_InvalidPlace, xq_InvalidPlace, kc_InvalidPlace, bC_InvalidPlace, tC_InvalidPlace⟩, ⟨xg_InvalidPlace, xk_InvalidPlace, bC_InvalidPlace, hC_InvalidPlace, xa_InvalidPlace, oG, oT, xm_InvalidPlace⟩, PySem.W.exm_ref bC_WallError hC_WallError tC_WallError sw_InvalidPlace, kit_own iC_InvalidPaper tC_InvalidPaper si_InvalidPlace_InvalidPaper (fun z => (by rw [ne_InvalidPlace_InvalidPaper] at z; cases z)), kit_own iC_InvalidLength tC_InvalidLength si_InvalidPlace_InvalidLength (fun z => (by rw [ne_InvalidPlace_InvalidLength] at z; cases z)), kit_own iC_InvalidPlace tC_InvalidPlace si_InvalidPlace_InvalidPlace (fun z => rfl), kit_own iC_InvalidFactor tC_InvalidFactor si_InvalidPlace_InvalidFactor (fun z => (by rw [ne_InvalidPlace_InvalidFactor] at z; cases z)), kit_own iC_NoRoom tC_NoRoom si_InvalidPlace_NoRoom (fun z => (by rw [ne_InvalidPlace_NoRoom] at z; cases z)), kit_own iC_NothingToUndo tC_NothingToUndo si_InvalidPlace_NothingToUndo (fun z => (by rw [ne_InvalidPlace_NothingToUndo] at z; cases z)), ⟨PySem.W.mg_of X G aC_NoRoom, xq_NoRoom, kc_NoRoom, bC_NoRoom, tC_NoRoom⟩, ⟨xg_NoRoom, xk_NoRoom, bC_NoRoom, hC_NoRoom, xa_NoRoom, oG, oT, xm_NoRoom⟩, PySem.W.exm_ref bC_WallError hC_WallError tC_WallError sw_NoRoom, kit_own iC_InvalidPaper tC_InvalidPaper si_NoRoom_InvalidPaper (fun z => (by rw [ne_NoRoom_InvalidPaper] at z; cases z)), kit_own iC_InvalidLength tC_InvalidLength si_NoRoom_InvalidLength (fun z => (by rw [ne_NoRoom_InvalidLength] at z; cases z)), kit_own iC_InvalidPlace tC_InvalidPlace si_NoRoom_InvalidPlace (fun z => (by rw [ne_NoRoom_InvalidPlace] at z; cases z)), kit_own iC_InvalidFactor tC_InvalidFactor si_NoRoom_InvalidFactor (fun z => (by rw [ne_NoRoom_InvalidFactor] at z; cases z)), kit_own iC_NoRoom tC_NoRoom si_NoRoom_NoRoom (fun z => rfl), kit_own iC_NothingToUndo tC_NothingToUndo si_NoRoom_NothingToUndo (fun z => (by rw [ne_NoRoom_NothingToUndo] at z; cases z)), ⟨PySem.W.mg_of X G aC_NothingToUndo, xq_NothingToUndo, kc_NothingToUndo, bC_NothingToUndo, tC_NothingToUndo⟩, ⟨xg_NothingToUndo, xk_NothingToUndo, bC_NothingToUndo, hC_NothingToUndo, xa_NothingToUndo, oG, oT, xm_NothingToUndo⟩, PySem.W.exm_ref bC_WallError hC_WallError tC_WallError sw_NothingToUndo, kit_own iC_InvalidPaper tC_InvalidPaper si_NothingToUndo_InvalidPaper (fun z => (by rw [ne_NothingToUndo_InvalidPaper] at z; cases z)), kit_own iC_InvalidLength tC_InvalidLength si_NothingToUndo_InvalidLength (fun z => (by rw [ne_NothingToUndo_InvalidLength] at z; cases z)), kit_own iC_InvalidPlace tC_InvalidPlace si_NothingToUndo_InvalidPlace (fun z => (by rw [ne_NothingToUndo_InvalidPlace] at z; cases z)), kit_own iC_InvalidFactor tC_InvalidFactor si_NothingToUndo_InvalidFactor (fun z => (by rw [ne_NothingToUndo_InvalidFactor] at z; cases z)), kit_own iC_NoRoom tC_NoRoom si_NothingToUndo_NoRoom (fun z => (by rw [ne_NothingToUndo_NoRoom] at z; cases z)), kit_own iC_NothingToUndo tC_NothingToUndo si_NothingToUndo_NothingToUndo (fun z => rfl), f0, _, F0, b0, PySem.W.mg_of X G a0, f1, _, F1, b1, PySem.W.mg_of X G a1, f2, _, F2, b2, PySem.W.mg_of X G a2, f3, _, F3, b3, PySem.W.mg_of X G a3, f4, _, F4, b4, ⟨mk_Roll, a4, i4, kc_Roll⟩, f5, _, F5, b5, p5, ⟨a5, g5, t5, ⟨_, r5⟩⟩, f6, _, F6, b6, p6, ⟨a6, g6, t6, ⟨_, r6⟩⟩, f7, _, F7, b7, ⟨a7, i7, k7⟩, f8, _, F8, b8, ⟨a8, i8, k8⟩, f9, _, F9, b9, ⟨a9, i9, n9⟩, f10, _, F10, b10, ⟨a10, i10, k10⟩, f11, _, F11, b11, ⟨a11, i11, k11⟩, f12, _, F12, b12, ⟨a12, i12⟩, f13, _, F13, b13, ⟨a13, i13⟩, f14, _, F14, b14, ⟨a14, i14⟩, f15, _, F15, b15, ⟨a15, i15⟩, f16, _, F16, b16, PySem.W.mg_of X G a16, f17, _, F17, b17, PySem.W.mg_of X G a17, f18, _, F18, b18, PySem.W.mg_of X G a18, f19, _, F19, b19, PySem.W.mg_of X G a19, f20, _, F20, b20, PySem.W.mg_of X G a20, f21, _, F21, b21, PySem.W.mg_of X G a21, f22, _, F22, b22, PySem.W.mg_of X G a22, f23, _, F23, b23, PySem.W.mg_of X G a23, f24, _, F24, b24, PySem.W.mg_of X G a24, f25, _, F25, b25, PySem.W.mg_of X G a25, f26, _, F26, b26, PySem.W.mg_of X G a26, f27, _, F27, b27, PySem.W.mg_of X G a27, PySem.W.mg_none_of X G z0, PySem.W.mg_none_of X G z1, PySem.W.mg_none_of X G z2, PySem.W.mg_none_of X G z3, PySem.W.mg_none_of X G z4, PySem.W.mg_none_of X G z5, PySem.W.mg_none_of X G z6, PySem.W.mg_none_of X G z7, PySem.W.mg_none_of X G z8, PySem.W.mg_none_of X G z9, PySem.W.mg_none_of X G z10, PySem.W.mg_none_of X G z11, ⟨_, PySem.W.mg_of X G y0⟩, ⟨_, PySem.W.mg_of X G y1⟩, ⟨_, PySem.W.mg_of X G y2⟩⟩
  exact ⟨PySem.W.fnOf "law" "law" (defArgs s_law) (defBody s_law) (defScope s_law) .none kV28 dc28 pm28 an28 cd28 ct28, fun s v => .of_eq rfl, fun base _ _ => ok_law T F28⟩
end Law
open PySem PySem.W PyProof.Rows
set_option maxRecDepth 100000 in
set_option maxHeartbeats 0 in
theorem PySem.Challenge.cw_wallrolls_k17_whole_rolls_strip_by_strip_holds : PySem.Challenge.rw_wallrolls_k17_whole_rolls_strip_by_strip.Holds := by
  w_on; o_law; k_head; (case hw => w_witness2)
  k_fill
  refine L2.walk_of (l := PySem.Challenge.rw_wallrolls_k17_whole_rolls_strip_by_strip) (n := 63) (k := 13) (x := "script") (CX := fun _ => L2.CX0) (sp := fun w => Z.spLaw _) rfl (by decide) rfl ⟨rfl, by decide, by decide⟩ (fun w h Y => PySem.W.kIn_of Y) ?F (fun _ _ a ns hl _ hS => ⟨a, ns, rfl, hS, hl, fun _ => rfl⟩) (fun _ _ _ _ _ h => h)
  case F =>
    intro w mg fa h KX G hmg
    refine' Law.all_mk KX G hmg ?aC_Roll ?pg_Roll ?hd_Roll ?po_Roll ?sa_Roll ?mk_Roll ?kc_Roll ?na_Roll_kind ?na_Roll_size ?na_Roll_rows ?nn_Roll ?om_Roll ?oc_Roll ?st_Roll ?it_Roll ?il_Roll ?aC_WallError ?tC_WallError ?bC_WallError ?iC_WallError ?hC_WallError ?aC_InvalidPaper ?tC_InvalidPaper ?bC_InvalidPaper ?iC_InvalidPaper ?hC_InvalidPaper ?aC_InvalidLength ?tC_InvalidLength ?bC_InvalidLength ?iC_InvalidLength ?hC_InvalidLength ?aC_InvalidPlace ?tC_InvalidPlace ?bC_InvalidPlace ?iC_InvalidPlace ?hC_InvalidPlace ?aC_InvalidFactor ?tC_InvalidFactor ?bC_InvalidFactor ?iC_InvalidFactor ?hC_InvalidFactor ?aC_NoRoom ?tC_NoRoom ?bC_NoRoom ?iC_NoRoom ?hC_NoRoom ?aC_NothingToUndo ?tC_NothingToUndo ?bC_NothingToUndo ?iC_NothingToUndo ?hC_NothingToUndo ?oG ?oT ?xq_InvalidPaper ?kc_InvalidPaper ?xg_InvalidPaper ?xk_InvalidPaper ?xa_InvalidPaper ?xm_InvalidPaper ?sw_InvalidPaper ?si_InvalidPaper_InvalidPaper ?si_InvalidPaper_InvalidLength ?ne_InvalidPaper_InvalidLength ?si_InvalidPaper_InvalidPlace ?ne_InvalidPaper_InvalidPlace ?si_InvalidPaper_InvalidFactor ?ne_InvalidPaper_InvalidFactor ?si_InvalidPaper_NoRoom ?ne_InvalidPaper_NoRoom ?si_InvalidPaper_NothingToUndo ?ne_InvalidPaper_NothingToUndo ?xq_InvalidLength ?kc_InvalidLength ?xg_InvalidLength ?xk_InvalidLength ?xa_InvalidLength ?xm_InvalidLength ?sw_InvalidLength ?si_InvalidLength_InvalidPaper ?ne_InvalidLength_InvalidPaper ?si_InvalidLength_InvalidLength ?si_InvalidLength_InvalidPlace ?ne_InvalidLength_InvalidPlace ?si_InvalidLength_InvalidFactor ?ne_InvalidLength_InvalidFactor ?si_InvalidLength_NoRoom ?ne_InvalidLength_NoRoom ?si_InvalidLength_NothingToUndo ?ne_InvalidLength_NothingToUndo ?xq_InvalidPlace ?kc_InvalidPlace ?xg_InvalidPlace ?xk_InvalidPlace ?xa_InvalidPlace ?xm_InvalidPlace ?sw_InvalidPlace ?si_InvalidPlace_InvalidPaper ?ne_InvalidPlace_InvalidPaper ?si_InvalidPlace_InvalidLength ?ne_InvalidPlace_InvalidLength ?si_InvalidPlace_InvalidPlace ?si_InvalidPlace_InvalidFactor ?ne_InvalidPlace_InvalidFactor ?si_InvalidPlace_NoRoom ?ne_InvalidPlace_NoRoom ?si_InvalidPlace_NothingToUndo ?ne_InvalidPlace_NothingToUndo ?xq_NoRoom ?kc_NoRoom ?xg_NoRoom ?xk_NoRoom ?xa_NoRoom ?xm_NoRoom ?sw_NoRoom ?si_NoRoom_InvalidPaper ?ne_NoRoom_InvalidPaper ?si_NoRoom_InvalidLength ?ne_NoRoom_InvalidLength ?si_NoRoom_InvalidPlace ?ne_NoRoom_InvalidPlace ?si_NoRoom_InvalidFactor ?ne_NoRoom_InvalidFactor ?si_NoRoom_NoRoom ?si_NoRoom_NothingToUndo ?ne_NoRoom_NothingToUndo ?xq_NothingToUndo ?kc_NothingToUndo ?xg_NothingToUndo ?xk_NothingToUndo ?xa_NothingToUndo ?xm_NothingToUndo ?sw_NothingToUndo ?si_NothingToUndo_InvalidPaper ?ne_NothingToUndo_InvalidPaper ?si_NothingToUndo_InvalidLength ?ne_NothingToUndo_InvalidLength ?si_NothingToUndo_InvalidPlace ?ne_NothingToUndo_InvalidPlace ?si_NothingToUndo_InvalidFactor ?ne_NothingToUndo_InvalidFactor ?si_NothingToUndo_NoRoom ?ne_NothingToUndo_NoRoom ?si_NothingToUndo_NothingToUndo ?a0 ?l0 ?c0 ?k0 ?a1 ?l1 ?c1 ?k1 ?a2 ?l2 ?c2 ?k2 ?a3 ?l3 ?c3 ?k3 ?a4 ?i4 ?l4 ?c4 ?k4 ?a5 ?g5 ?t5 ?r5 ?l5 ?c5 ?k5 ?a6 ?g6 ?t6 ?r6 ?l6 ?c6 ?k6 ?a7 ?i7 ?l7 ?c7 ?k7 ?a8 ?i8 ?l8 ?c8 ?k8 ?a9 ?i9 ?n9 ?l9 ?c9 ?k9 ?a10 ?i10 ?l10 ?c10 ?k10 ?a11 ?i11 ?l11 ?c11 ?k11 ?a12 ?i12 ?l12 ?c12 ?k12 ?a13 ?i13 ?l13 ?c13 ?k13 ?a14 ?i14 ?l14 ?c14 ?k14 ?a15 ?i15 ?l15 ?c15 ?k15 ?a16 ?l16 ?c16 ?k16 ?a17 ?l17 ?c17 ?k17 ?a18 ?l18 ?c18 ?k18 ?a19 ?l19 ?c19 ?k19 ?a20 ?l20 ?c20 ?k20 ?a21 ?l21 ?c21 ?k21 ?a22 ?l22 ?c22 ?k22 ?a23 ?l23 ?c23 ?k23 ?a24 ?l24 ?c24 ?k24 ?a25 ?l25 ?c25 ?k25 ?a26 ?l26 ?c26 ?k26 ?a27 ?l27 ?c27 ?k27 ?a28 ?l28 ?c28 ?k28 ?z0 ?z1 ?z2 ?z3 ?z4 ?z5 ?z6 ?z7 ?z8 ?z9 ?z10 ?z11 ?y0 ?y1 ?y2
    (case aC_Roll => k_is)
    (case pg_Roll => k_is)
    (case hd_Roll => k_is)
    (case po_Roll => k_is)
    (case sa_Roll => k_is)
    (case mk_Roll => k_is)
    (case kc_Roll => k_is)
    (case na_Roll_kind => k_is)
    (case na_Roll_size => k_is)
    (case na_Roll_rows => k_is)
    (case nn_Roll => k_is)
    (case om_Roll => k_is)
    (case oc_Roll => k_is)
    (case st_Roll => k_is)
    (case it_Roll => k_is)
    (case il_Roll => k_is)
    (case aC_WallError => k_is)
    (case tC_WallError => k_is)
    (case bC_WallError => k_is)
    (case iC_WallError => k_is)
    (case hC_WallError => k_is)
    (case aC_InvalidPaper => k_is)
    (case tC_InvalidPaper => k_is)
    (case bC_InvalidPaper => k_is)
    (case iC_InvalidPaper => k_is)
    (case hC_InvalidPaper => k_is)
    (case aC_InvalidLength => k_is)
    (case tC_InvalidLength => k_is)
    (case bC_InvalidLength => k_is)
    (case iC_InvalidLength => k_is)
    (case hC_InvalidLength => k_is)
    (case aC_InvalidPlace => k_is)
    (case tC_InvalidPlace => k_is)
    (case bC_InvalidPlace => k_is)
    (case iC_InvalidPlace => k_is)
    (case hC_InvalidPlace => k_is)
    (case aC_InvalidFactor => k_is)
    (case tC_InvalidFactor => k_is)
    (case bC_InvalidFactor => k_is)
    (case iC_InvalidFactor => k_is)
    (case hC_InvalidFactor => k_is)
    (case aC_NoRoom => k_is)
    (case tC_NoRoom => k_is)
    (case bC_NoRoom => k_is)
    (case iC_NoRoom => k_is)
    (case hC_NoRoom => k_is)
    (case aC_NothingToUndo => k_is)
    (case tC_NothingToUndo => k_is)
    (case bC_NothingToUndo => k_is)
    (case iC_NothingToUndo => k_is)
    (case hC_NothingToUndo => k_is)
    (case oG => k_is)
    (case oT => k_is)
    (case xq_InvalidPaper => first | k_exc | k_is)
    (case kc_InvalidPaper => k_is)
    (case xg_InvalidPaper => k_is)
    (case xk_InvalidPaper => k_is)
    (case xa_InvalidPaper => k_is)
    (case xm_InvalidPaper => k_is)
    (case sw_InvalidPaper => k_is)
    (case si_InvalidPaper_InvalidPaper => first | k_is | rfl)
    (case si_InvalidPaper_InvalidLength => first | k_is | rfl)
    (case ne_InvalidPaper_InvalidLength => first | rfl | decide)
    (case si_InvalidPaper_InvalidPlace => first | k_is | rfl)
    (case ne_InvalidPaper_InvalidPlace => first | rfl | decide)
    (case si_InvalidPaper_InvalidFactor => first | k_is | rfl)
    (case ne_InvalidPaper_InvalidFactor => first | rfl | decide)
    (case si_InvalidPaper_NoRoom => first | k_is | rfl)
    (case ne_InvalidPaper_NoRoom => first | rfl | decide)
    (case si_InvalidPaper_NothingToUndo => first | k_is | rfl)
    (case ne_InvalidPaper_NothingToUndo => first | rfl | decide)
    (case xq_InvalidLength => first | k_exc | k_is)
    (case kc_InvalidLength => k_is)
    (case xg_InvalidLength => k_is)
    (case xk_InvalidLength => k_is)
    (case xa_InvalidLength => k_is)
    (case xm_InvalidLength => k_is)
    (case sw_InvalidLength => k_is)
    (case si_InvalidLength_InvalidPaper => first | k_is | rfl)
    (case ne_InvalidLength_InvalidPaper => first | rfl | decide)
    (case si_InvalidLength_InvalidLength => first | k_is | rfl)
    (case si_InvalidLength_InvalidPlace => first | k_is | rfl)
    (case ne_InvalidLength_InvalidPlace => first | rfl | decide)
    (case si_InvalidLength_InvalidFactor => first | k_is | rfl)
    (case ne_InvalidLength_InvalidFactor => first | rfl | decide)
    (case si_InvalidLength_NoRoom => first | k_is | rfl)
    (case ne_InvalidLength_NoRoom => first | rfl | decide)
    (case si_InvalidLength_NothingToUndo => first | k_is | rfl)
    (case ne_InvalidLength_NothingToUndo => first | rfl | decide)
    (case xq_InvalidPlace => first | k_exc | k_is)
    (case kc_InvalidPlace => k_is)
    (case xg_InvalidPlace => k_is)
    (case xk_InvalidPlace => k_is)
    (case xa_InvalidPlace => k_is)
    (case xm_InvalidPlace => k_is)
    (case sw_InvalidPlace => k_is)
    (case si_InvalidPlace_InvalidPaper => first | k_is | rfl)
    (case ne_InvalidPlace_InvalidPaper => first | rfl | decide)
    (case si_InvalidPlace_InvalidLength => first | k_is | rfl)
    (case ne_InvalidPlace_InvalidLength => first | rfl | decide)
    (case si_InvalidPlace_InvalidPlace => first | k_is | rfl)
    (case si_InvalidPlace_InvalidFactor => first | k_is | rfl)
    (case ne_InvalidPlace_InvalidFactor => first | rfl | decide)
    (case si_InvalidPlace_NoRoom => first | k_is | rfl)
    (case ne_InvalidPlace_NoRoom => first | rfl | decide)
    (case si_InvalidPlace_NothingToUndo => first | k_is | rfl)
    (case ne_InvalidPlace_NothingToUndo => first | rfl | decide)
    (case xq_NoRoom => first | k_exc | k_is)
    (case kc_NoRoom => k_is)
    (case xg_NoRoom => k_is)
    (case xk_NoRoom => k_is)
    (case xa_NoRoom => k_is)
    (case xm_NoRoom => k_is)
    (case sw_NoRoom => k_is)
    (case si_NoRoom_InvalidPaper => first | k_is | rfl)
    (case ne_NoRoom_InvalidPaper => first | rfl | decide)
    (case si_NoRoom_InvalidLength => first | k_is | rfl)
    (case ne_NoRoom_InvalidLength => first | rfl | decide)
    (case si_NoRoom_InvalidPlace => first | k_is | rfl)
    (case ne_NoRoom_InvalidPlace => first | rfl | decide)
    (case si_NoRoom_InvalidFactor => first | k_is | rfl)
    (case ne_NoRoom_InvalidFactor => first | rfl | decide)
    (case si_NoRoom_NoRoom => first | k_is | rfl)
    (case si_NoRoom_NothingToUndo => first | k_is | rfl)
    (case ne_NoRoom_NothingToUndo => first | rfl | decide)
    (case xq_NothingToUndo => first | k_exc | k_is)
    (case kc_NothingToUndo => k_is)
    (case xg_NothingToUndo => k_is)
    (case xk_NothingToUndo => k_is)
    (case xa_NothingToUndo => k_is)
    (case xm_NothingToUndo => k_is)
    (case sw_NothingToUndo => k_is)
    (case si_NothingToUndo_InvalidPaper => first | k_is | rfl)
    (case ne_NothingToUndo_InvalidPaper => first | rfl | decide)
    (case si_NothingToUndo_InvalidLength => first | k_is | rfl)
    (case ne_NothingToUndo_InvalidLength => first | rfl | decide)
    (case si_NothingToUndo_InvalidPlace => first | k_is | rfl)
    (case ne_NothingToUndo_InvalidPlace => first | rfl | decide)
    (case si_NothingToUndo_InvalidFactor => first | k_is | rfl)
    (case ne_NothingToUndo_InvalidFactor => first | rfl | decide)
    (case si_NothingToUndo_NoRoom => first | k_is | rfl)
    (case ne_NothingToUndo_NoRoom => first | rfl | decide)
    (case si_NothingToUndo_NothingToUndo => first | k_is | rfl)
    (case a0 => k_is)
    (case l0 => k_is)
    (case c0 => k_is)
    (case k0 => k_is)
    (case a1 => k_is)
    (case l1 => k_is)
    (case c1 => k_is)
    (case k1 => k_is)
    (case a2 => k_is)
    (case l2 => k_is)
    (case c2 => k_is)
    (case k2 => k_is)
    (case a3 => k_is)
    (case l3 => k_is)
    (case c3 => k_is)
    (case k3 => k_is)
    (case a4 => k_is)
    (case i4 => k_is)
    (case l4 => k_is)
    (case c4 => k_is)
    (case k4 => k_is)
    (case a5 => k_is)
    (case g5 => k_is)
    (case t5 => k_is)
    (case r5 => k_is)
    (case l5 => k_is)
    (case c5 => k_is)
    (case k5 => k_is)
    (case a6 => k_is)
    (case g6 => k_is)
    (case t6 => k_is)
    (case r6 => k_is)
    (case l6 => k_is)
    (case c6 => k_is)
    (case k6 => k_is)
    (case a7 => k_is)
    (case i7 => k_is)
    (case l7 => k_is)
    (case c7 => k_is)
    (case k7 => k_is)
    (case a8 => k_is)
    (case i8 => k_is)
    (case l8 => k_is)
    (case c8 => k_is)
    (case k8 => k_is)
    (case a9 => k_is)
    (case i9 => k_is)
    (case n9 => k_is)
    (case l9 => k_is)
    (case c9 => k_is)
    (case k9 => k_is)
    (case a10 => k_is)
    (case i10 => k_is)
    (case l10 => k_is)
    (case c10 => k_is)
    (case k10 => k_is)
    (case a11 => k_is)
    (case i11 => k_is)
    (case l11 => k_is)
    (case c11 => k_is)
    (case k11 => k_is)
    (case a12 => k_is)
    (case i12 => k_is)
    (case l12 => k_is)
    (case c12 => k_is)
    (case k12 => k_is)
    (case a13 => k_is)
    (case i13 => k_is)
    (case l13 => k_is)
    (case c13 => k_is)
    (case k13 => k_is)
    (case a14 => k_is)
    (case i14 => k_is)
    (case l14 => k_is)
    (case c14 => k_is)
    (case k14 => k_is)
    (case a15 => k_is)
    (case i15 => k_is)
    (case l15 => k_is)
    (case c15 => k_is)
    (case k15 => k_is)
    (case a16 => k_is)
    (case l16 => k_is)
    (case c16 => k_is)
    (case k16 => k_is)
    (case a17 => k_is)
    (case l17 => k_is)
    (case c17 => k_is)
    (case k17 => k_is)
    (case a18 => k_is)
    (case l18 => k_is)
    (case c18 => k_is)
    (case k18 => k_is)
    (case a19 => k_is)
    (case l19 => k_is)
    (case c19 => k_is)
    (case k19 => k_is)
    (case a20 => k_is)
    (case l20 => k_is)
    (case c20 => k_is)
    (case k20 => k_is)
    (case a21 => k_is)
    (case l21 => k_is)
    (case c21 => k_is)
    (case k21 => k_is)
    (case a22 => k_is)
    (case l22 => k_is)
    (case c22 => k_is)
    (case k22 => k_is)
    (case a23 => k_is)
    (case l23 => k_is)
    (case c23 => k_is)
    (case k23 => k_is)
    (case a24 => k_is)
    (case l24 => k_is)
    (case c24 => k_is)
    (case k24 => k_is)
    (case a25 => k_is)
    (case l25 => k_is)
    (case c25 => k_is)
    (case k25 => k_is)
    (case a26 => k_is)
    (case l26 => k_is)
    (case c26 => k_is)
    (case k26 => k_is)
    (case a27 => k_is)
    (case l27 => k_is)
    (case c27 => k_is)
    (case k27 => k_is)
    (case a28 => k_is)
    (case l28 => k_is)
    (case c28 => k_is)
    (case k28 => k_is)
    (case z0 => k_is)
    (case z1 => k_is)
    (case z2 => k_is)
    (case z3 => k_is)
    (case z4 => k_is)
    (case z5 => k_is)
    (case z6 => k_is)
    (case z7 => k_is)
    (case z8 => k_is)
    (case z9 => k_is)
    (case z10 => k_is)
    (case z11 => k_is)
    (case y0 => k_is)
    (case y1 => k_is)
    (case y2 => k_is)
#print axioms PySem.Challenge.cw_wallrolls_k17_whole_rolls_strip_by_strip_holds
