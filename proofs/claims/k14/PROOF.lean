import PyProof.Rows.All
import Wide.All
import OpenK.AllK
import Wide.FinOn
import HandS.ForMost
import HandS.Wide
import KE.KDictKeyed
import HandS.DictTup
import HandS.TupAny
import HandS.Deep
import HandS.IsInst
import HandS.Style
import HandS.TupLe
import HandS.Dict
import HandS.SetFor
import HandS.TupSets
import HandS.Zip
import HandS.More
import HandS.Text
import HandS.SortInts
import KE.KRevSl
import PyProof.AutoSeq1
import HandS.Conv
import KE.DatumOrd
import KE.SortData
import HandS.GenBody
import HandS.GenYield
import HandS.GenCall
import HandS.GenList
import HandS.Star
import PySem.Challenge.RW_wallrolls_k14_whole_multiplied_papers
set_option Elab.async false
set_option linter.all false
set_option maxRecDepth 100000
set_option maxHeartbeats 4000000
/-! My own layer: code over plain data, the heap out of sight. -/
namespace Z
open PySem PySem.Spec PyProof.Rows L2

/-! ### data, as the heap grows -/
mutual
/-- a value is the data d: lists are tracked themselves -/
inductive Dq (K : PySem.W.Frag) (H : Hp) : V → PyData → Prop
  | non : Dq K H .non .none
  | bl (b : Bool) : Dq K H (.bl b) (.bool b)
  | int (i : Int) : Dq K H (.int i) (.int i)
  | str (x : Str) : Dq K H (.str x) (.str x)
  | lst {a : Addr} {xs : List V} {ds : List PyData} : H a = some (.lst xs) → DqAll K H xs ds → Dq K H (.ref a) (.list ds)
  | tup {a : Addr} {xs : List V} {ds : List PyData} : SqT K H a xs → DqAll K H xs ds → Dq K H (.ref a) (.tuple ds)
inductive DqAll (K : PySem.W.Frag) (H : Hp) : List V → List PyData → Prop
  | nil : DqAll K H [] []
  | cons {v : V} {vs : List V} {d : PyData} {ds : List PyData} : Dq K H v d → DqAll K H vs ds → DqAll K H (v :: vs) (d :: ds)
end
mutual
theorem dqDp {K : PySem.W.Frag} {B : Hp} : ∀ (d : PyData) (v : V), Dq K B v d → Dp K B v d
  | .none, _, h => by cases h; exact .non
  | .bool b, _, h => by cases h; exact .bl b
  | .int i, _, h => by cases h; exact .int i
  | .str x, _, h => by cases h; exact .str x
  | .list ds, _, h => by
    cases h with
    | lst hs ha => exact .lst (SqL.of hs) (dqDpAll ds _ ha)
  | .tuple ds, _, h => by
    cases h with
    | tup hs ha => exact .tup hs (dqDpAll ds _ ha)
  | .dict _, _, h => by cases h
theorem dqDpAll {K : PySem.W.Frag} {B : Hp} : ∀ (ds : List PyData) (vs : List V), DqAll K B vs ds → DpAll K B vs ds
  | [], _, h => by cases h; exact .nil
  | d :: ds, _, h => by
    cases h with
    | cons h1 h2 => exact .cons (dqDp d _ h1) (dqDpAll ds _ h2)
end
mutual
theorem dpMono {K : PySem.W.Frag} {B B' : Hp} (s : Same B B') : ∀ (d : PyData) (v : V), Dq K B v d → Dq K B' v d
  | .none, _, h => by cases h; exact .non
  | .bool b, _, h => by cases h; exact .bl b
  | .int i, _, h => by cases h; exact .int i
  | .str x, _, h => by cases h; exact .str x
  | .list ds, _, h => by
    cases h with
    | lst hs ha => exact .lst (s _ _ hs) (dpAllMono s ds _ ha)
  | .tuple ds, _, h => by
    cases h with
    | tup hs ha =>
      refine .tup ?_ (dpAllMono s ds _ ha)
      rcases hs with (h | ⟨o, h⟩) | h
      · exact .inl (.inl (s _ _ h))
      · exact .inl (.inr ⟨o, s _ _ h⟩)
      · exact .inr h
  | .dict _, _, h => by cases h
theorem dpAllMono {K : PySem.W.Frag} {B B' : Hp} (s : Same B B') : ∀ (ds : List PyData) (vs : List V), DqAll K B vs ds → DqAll K B' vs ds
  | [], _, h => by cases h; exact .nil
  | d :: ds, _, h => by
    cases h with
    | cons h1 h2 => exact .cons (dpMono s d _ h1) (dpAllMono s ds _ h2)
end
theorem dpAll_len {K : PySem.W.Frag} {B : Hp} : ∀ {ds : List PyData} {vs : List V}, DqAll K B vs ds → vs.length = ds.length
  | [], _, h => by cases h; rfl
  | d :: ds, _, h => by
    cases h with
    | cons h1 h2 => simp [dpAll_len h2]
theorem dpAll_get {K : PySem.W.Frag} {B : Hp} : ∀ {ds : List PyData} {vs : List V}, DqAll K B vs ds → ∀ {i : Nat} {d : PyData}, ds[i]? = some d → ∃ v, vs[i]? = some v ∧ Dq K B v d
  | [], _, h, i, d, e => by simp at e
  | d :: ds, _, h, i, d', e => by
    cases h with
    | cons h1 h2 =>
      cases i with
      | zero => simp at e; subst e; exact ⟨_, by simp, h1⟩
      | succ i =>
        have e' : ds[i]? = some d' := by simpa using e
        obtain ⟨v, a, b⟩ := dpAll_get h2 e'
        exact ⟨v, by simpa using a, b⟩
theorem dpAll_app {K : PySem.W.Frag} {B : Hp} : ∀ {ds es : List PyData} {vs us : List V}, DqAll K B vs ds → DqAll K B us es → DqAll K B (vs ++ us) (ds ++ es)
  | [], _, _, _, h, h' => by cases h; exact h'
  | d :: ds, _, _, _, h, h' => by
    cases h with
    | cons h1 h2 => exact .cons h1 (dpAll_app h2 h')
theorem dpAll_set {K : PySem.W.Frag} {B : Hp} {v : V} {d : PyData} (hd : Dq K B v d) : ∀ {ds : List PyData} {vs : List V} (i : Nat), DqAll K B vs ds → DqAll K B (vs.set i v) (ds.set i d)
  | [], _, i, h => by cases h; exact .nil
  | d' :: ds, _, i, h => by
    cases h with
    | cons h1 h2 =>
      cases i with
      | zero => exact .cons hd h2
      | succ i => exact .cons h1 (dpAll_set hd i h2)
theorem dpAll_take {K : PySem.W.Frag} {B : Hp} : ∀ {ds : List PyData} {vs : List V} (n : Nat), DqAll K B vs ds → DqAll K B (vs.take n) (ds.take n)
  | _, _, 0, _ => .nil
  | [], _, _ + 1, h => by cases h; exact .nil
  | d :: ds, _, n + 1, h => by
    cases h with
    | cons h1 h2 => exact .cons h1 (dpAll_take n h2)
theorem dpAll_drop {K : PySem.W.Frag} {B : Hp} : ∀ {ds : List PyData} {vs : List V} (n : Nat), DqAll K B vs ds → DqAll K B (vs.drop n) (ds.drop n)
  | _, _, 0, h => h
  | [], _, _ + 1, h => by cases h; exact .nil
  | d :: ds, _, n + 1, h => by
    cases h with
    | cons h1 h2 => exact dpAll_drop n h2
theorem dp_int {K : PySem.W.Frag} {B : Hp} {v : V} {i : Int} (h : Dq K B v (.int i)) : v = .int i := by cases h; rfl
theorem dp_bool {K : PySem.W.Frag} {B : Hp} {v : V} {i : Bool} (h : Dq K B v (.bool i)) : v = .bl i := by cases h; rfl
theorem dp_none {K : PySem.W.Frag} {B : Hp} {v : V} (h : Dq K B v .none) : v = .non := by cases h; rfl
theorem dp_str {K : PySem.W.Frag} {B : Hp} {v : V} {x : Str} (h : Dq K B v (.str x)) : v = .str x := by cases h; rfl
theorem dp_list {K : PySem.W.Frag} {B : Hp} {v : V} {ds : List PyData} (h : Dq K B v (.list ds)) : ∃ a vs, v = .ref a ∧ B a = some (.lst vs) ∧ DqAll K B vs ds := by
  cases h with
  | lst h1 h2 => exact ⟨_, _, rfl, h1, h2⟩
theorem dp_tup {K : PySem.W.Frag} {B : Hp} {v : V} {ds : List PyData} (h : Dq K B v (.tuple ds)) : ∃ a vs, v = .ref a ∧ SqT K B a vs ∧ DqAll K B vs ds := by
  cases h with
  | tup h1 h2 => exact ⟨_, _, rfl, h1, h2⟩
theorem seqT {K : PySem.W.Frag} {B H : Hp} (s : Same B H) {a : Addr} {xs : List V} (hs : SqT K B a xs) : SqT K H a xs := by
  rcases hs with (h | ⟨o, h⟩) | h
  · exact .inl (.inl (s _ _ h))
  · exact .inl (.inr ⟨o, s _ _ h⟩)
  · exact .inr h
theorem same_new {H : Hp} {p : Addr} {o : HO} (h : H p = none) : Same H (upd H p o) := fun b x e => by
  rw [upd_ne (ne_of_none e h)]
  exact e
theorem same_upd2 {B H : Hp} {p : Addr} {o : HO} (s : Same B H) : Same (upd B p o) (upd H p o) := fun b x e => by
  by_cases hb : b = p
  · subst hb
    rw [upd_same] at e ⊢
    exact e
  · rw [upd_ne hb] at e ⊢
    exact s b x e
theorem same_right {B H : Hp} {p : Addr} {o : HO} (s : Same B H) (h : B p = none) : Same B (upd H p o) := fun b x e => by
  rw [upd_ne (ne_of_none e h)]
  exact s b x e

/-! ### what a frame holds -/
mutual
/-- a key of numbers and tuples -/
def intK : NestedKey → Bool
  | .num _ => true
  | .tup ks => intKs ks
  | _ => false
def intKs : List NestedKey → Bool
  | [] => true
  | k :: ks => intK k && intKs ks
end
mutual
/-- its hash -/
def hN : NestedKey → Int
  | .none => 0
  | .num i => hashInt i
  | .text _ => 0
  | .tup ks => reduceHash (Builtin.Tuple.tupleHashOf (hNs ks))
def hNs : List NestedKey → List Int
  | [] => []
  | k :: ks => hN k :: hNs ks
end
/-- the entries of such a dict, as they stand -/
def entN (x : NestedKey × Addr × Value) : DictEntry := ⟨hN x.1, .ref x.2.1, x.2.2⟩
/-- an object of which the very cell is known -/
abbrev dNO (a : Addr) (o : Obj) : HO := .ext fun h => h.get? a = some o
/-- what such entries are as data -/
def DctE (K : PySem.W.Frag) (B : Hp) : List (NestedKey × Addr × Value) → List (NestedKey × PyData) → Prop := Paired fun x q => x.1 = q.1 ∧ (intK q.1 = true ∧ q.1.depth ≤ 8) ∧ Dq K B (.ref x.2.1) q.1.data ∧ ∃ v, RelV v x.2.2 ∧ Dq K B v q.2
structure DctV (K : PySem.W.Frag) (B : Hp) (a : Addr) (o : Obj) (xs : List (NestedKey × Addr × Value)) (kvs : List (NestedKey × PyData)) : Prop where
  ex : o.ExactDict
  dat : ∃ es ep, o.data = .dict es ep ∧ es.toList = xs.map entN
  rel : DctE K B xs kvs
  nd : (xs.map (·.1)).Nodup
  na : (a == sysModules) = false
/-- a slot: nothing known, plain data that never changes, a list or dict of this frame's own, the law's tape -/
inductive Sl where
  | no
  | im (d : PyData)
  | own (ds : List PyData)
  | dic (kvs : List (Key × PyData))
  /-- a dict of this frame's own whose keys are tuples of numbers, at any depth -/
  | dct (kvs : List (NestedKey × PyData))
  /-- one that is never changed -/
  | dcf (kvs : List (NestedKey × PyData))
  | tape
  /-- an instance of the class at C, of this frame's own (a, dx: where it stands); one that stood there at the entry and is kept -/
  | obj (a dx C : Addr) (fs : List (Str × PyData))
  | obk (a dx C : Addr) (fs : List (Str × PyData))
  /-- some object, where it stands -/
  | ptr (a : Addr)
/-- the tape (when there is one); the plain heap and the heap at the entry -/
structure Wd where
  T : Option Addr
  ns : Addr × List Int
  B0 : Hp
  H0 : Hp
def Tape (ns : Addr × List Int) (B H : Hp) (T : Addr) : Prop :=
  B T = none ∧ ∃ (i c : Int), H T = some (.lst [.ref ns.1, .int i, .int c]) ∧ 0 ≤ i ∧ 0 ≤ c ∧ B ns.1 = some (.lst (ns.2.map V.int))
/-- how the heap has grown since the entry -/
structure Gr (K : PySem.W.Frag) (W : Wd) (B H : Hp) : Prop where
  sub : Same B H
  base : Same W.B0 B
  new : ∀ a, W.H0 a ≠ none → W.B0 a = none → B a = none
  keep : ∀ a o, W.H0 a = some o → W.T ≠ some a → H a = some o
  tp : ∀ T, W.T = some T → W.H0 T ≠ none ∧ Tape W.ns B H T
def KvD (K : PySem.W.Frag) (B : Hp) : List (Key × V) → List (Key × PyData) → Prop := Paired fun p q => p.1 = q.1 ∧ Dq K B p.2 q.2
def FsD (K : PySem.W.Frag) (B : Hp) : List (Str × V) → List (Str × PyData) → Prop := Paired fun p q => p.1 = q.1 ∧ Dq K B p.2 q.2
/-- an object that is never changed: of the plain heap, or of the heap at the entry -/
def Kpt (W : Wd) (B : Hp) (a : Addr) (o : HO) : Prop := B a = some o ∨ (W.H0 a = some o ∧ W.T ≠ some a)
theorem Kpt.mono {W : Wd} {B B' : Hp} {a : Addr} {o : HO} (h : Kpt W B a o) (s : Same B B') : Kpt W B' a o := h.elim (fun h => .inl (s _ _ h)) .inr
def SlOk (K : PySem.W.Frag) (W : Wd) (B H : Hp) (x : Option (Option V)) : Sl → Prop
  | .no => True
  | .im d => ∃ v, x = some (some v) ∧ Dq K B v d
  | .own ds => ∃ a vs, x = some (some (.ref a)) ∧ B a = none ∧ W.H0 a = none ∧ H a = some (.lst vs) ∧ DqAll K B vs ds
  | .dic kvs => ∃ a ws, x = some (some (.ref a)) ∧ B a = none ∧ W.H0 a = none ∧ H a = some (.dK ws) ∧ KvD K B ws kvs
  | .dct kvs => ∃ a o xs, x = some (some (.ref a)) ∧ B a = none ∧ W.H0 a = none ∧ H a = some (dNO a o) ∧ DctV K B a o xs kvs
  | .dcf kvs => ∃ a o xs, x = some (some (.ref a)) ∧ B a = some (dNO a o) ∧ DctV K B a o xs kvs
  | .tape => ∃ T, W.T = some T ∧ x = some (some (.ref T))
  | .obj a dx C fs => ∃ fv, x = some (some (.ref a)) ∧ B a = none ∧ W.H0 a = none ∧ H a = some (.ins C dx fv) ∧ FsD K B fv fs
  | .obk a dx C fs => ∃ fv, x = some (some (.ref a)) ∧ Kpt W B a (.ins C dx fv) ∧ FsD K B fv fs
  | .ptr a => x = some (some (.ref a))
def Sl.ow : Sl → Bool
  | .own _ => true
  | .dic _ => true
  | .dct _ => true
  | .obj _ _ _ _ => true
  | _ => false
structure Lay (K : PySem.W.Frag) (W : Wd) (B H : Hp) (σ : L2.St) (ρ : List Sl) : Prop where
  gr : Gr K W B H
  len : σ.length = ρ.length
  at' : ∀ (i : Nat) (sl : Sl), ρ[i]? = some sl → SlOk K W B H σ[i]? sl
  dis : ∀ (i j : Nat) (s t : Sl), i ≠ j → ρ[i]? = some s → ρ[j]? = some t → s.ow = true → t.ow = true → σ[i]? ≠ σ[j]?

section
variable {K : PySem.W.Frag} {W : Wd} {B B' H H' : Hp} {σ : L2.St} {ρ : List Sl}
theorem SlOk.owner {x : Option (Option V)} {sl : Sl} (h : SlOk K W B H x sl) (e : sl.ow = true) : ∃ a o, x = some (some (.ref a)) ∧ B a = none ∧ W.H0 a = none ∧ H a = some o ∧ Mut (some o) := by
  cases sl with
  | own ds => obtain ⟨a, vs, h1, h2, h3, h4, _⟩ := h; exact ⟨a, _, h1, h2, h3, h4, trivial⟩
  | dic kvs => obtain ⟨a, vs, h1, h2, h3, h4, _⟩ := h; exact ⟨a, _, h1, h2, h3, h4, trivial⟩
  | dct kvs => obtain ⟨a, o, vs, h1, h2, h3, h4, _⟩ := h; exact ⟨a, _, h1, h2, h3, h4, trivial⟩
  | dcf kvs => cases e
  | no => cases e
  | im d => cases e
  | tape => cases e
  | obj a dx C fs => obtain ⟨fv, h1, h2, h3, h4, _⟩ := h; exact ⟨a, _, h1, h2, h3, h4, trivial⟩
  | obk a dx C fs => cases e
  | ptr a => cases e
theorem fsMono (s : Same B B') : ∀ {ws : List (Str × V)} {kvs : List (Str × PyData)}, FsD K B ws kvs → FsD K B' ws kvs := fun h => Paired.mapP h fun p q z => ⟨z.1, dpMono s _ _ z.2⟩
theorem kvMono (s : Same B B') : ∀ {ws : List (Key × V)} {kvs : List (Key × PyData)}, KvD K B ws kvs → KvD K B' ws kvs := fun h => Paired.mapP h fun p q z => ⟨z.1, dpMono s _ _ z.2⟩
theorem dctMono (s : Same B B') {a : Addr} {o : Obj} {xs : List (NestedKey × Addr × Value)} {kvs : List (NestedKey × PyData)} (h : DctV K B a o xs kvs) : DctV K B' a o xs kvs :=
  ⟨h.ex, h.dat, Paired.mapP h.rel fun p q z => ⟨z.1, z.2.1, dpMono s _ _ z.2.2.1, let ⟨v, r, d⟩ := z.2.2.2; ⟨v, r, dpMono s _ _ d⟩⟩, h.nd, h.na⟩
/-- the slots stay as the plain heap grows and the owners' objects are kept -/
theorem SlOk.grow {x : Option (Option V)} {sl : Sl} (h : SlOk K W B H x sl) (s : Same B B') (k : ∀ a o, x = some (some (.ref a)) → sl.ow = true → B a = none → W.H0 a = none → H a = some o → B' a = none ∧ H' a = some o) : SlOk K W B' H' x sl := by
  cases sl with
  | no => trivial
  | im d => obtain ⟨v, h1, h2⟩ := h; exact ⟨v, h1, dpMono s _ _ h2⟩
  | own ds =>
    obtain ⟨a, vs, h1, h2, h3, h4, h5⟩ := h
    obtain ⟨q1, q2⟩ := k a _ h1 rfl h2 h3 h4
    exact ⟨a, vs, h1, q1, h3, q2, dpAllMono s _ _ h5⟩
  | dic kvs =>
    obtain ⟨a, ws, h1, h2, h3, h4, h5⟩ := h
    obtain ⟨q1, q2⟩ := k a _ h1 rfl h2 h3 h4
    exact ⟨a, ws, h1, q1, h3, q2, kvMono s h5⟩
  | dct kvs =>
    obtain ⟨a, o, ws, h1, h2, h3, h4, h5⟩ := h
    obtain ⟨q1, q2⟩ := k a _ h1 rfl h2 h3 h4
    exact ⟨a, o, ws, h1, q1, h3, q2, dctMono s h5⟩
  | dcf kvs =>
    obtain ⟨a, o, ws, h1, h2, h5⟩ := h
    exact ⟨a, o, ws, h1, s _ _ h2, dctMono s h5⟩
  | tape => exact h
  | obj a dx C fs =>
    obtain ⟨fv, h1, h2, h3, h4, h5⟩ := h
    obtain ⟨q1, q2⟩ := k a _ h1 rfl h2 h3 h4
    exact ⟨fv, h1, q1, h3, q2, fsMono s h5⟩
  | obk a dx C fs =>
    obtain ⟨fv, h1, h2, h5⟩ := h
    exact ⟨fv, h1, h2.mono s, fsMono s h5⟩
  | ptr a => exact h
theorem Tape.mono (s : Same B B') {T : Addr} {ns : Addr × List Int} (t : Tape ns B H T) (h1 : B' T = none) (h2 : ∀ o, H T = some o → H' T = some o) : Tape ns B' H' T := by
  obtain ⟨_, i, c, e, i0, c0, q⟩ := t
  exact ⟨h1, i, c, h2 _ e, i0, c0, s _ _ q⟩
theorem Gr.refl {T : Option Addr} {ns : Addr × List Int} (s : Same B H) (t : ∀ a, T = some a → Tape ns B H a) : Gr K ⟨T, ns, B, H⟩ B H :=
  ⟨s, fun _ _ h => h, fun _ _ h => h, fun _ _ h _ => h, fun a h => ⟨fun z => (by
    obtain ⟨_, i, c, e, _⟩ := t a h
    have z' : H a = none := z
    rw [e] at z'
    exact absurd z' (by simp)), t a h⟩⟩
/-- a fresh object, plain from now on -/
theorem Lay.fresh (L : Lay K W B H σ ρ) {p : Addr} (hp : H p = none) (o : HO) : Same B (upd B p o) ∧ Lay K W (upd B p o) (upd H p o) σ ρ := by
  have bp : B p = none := Same.free L.gr.sub hp
  have s : Same B (upd B p o) := same_new bp
  have np : ∀ a u, H a = some u → a ≠ p := fun a u e => ne_of_none e hp
  refine ⟨s, ⟨⟨same_upd2 L.gr.sub, L.gr.base.trans s, fun a h1 h2 => ?_, fun a u h1 h2 => ?_, fun T h => ?_⟩, L.len, fun i sl e => (L.at' i sl e).grow s fun a u _ _ h2 _ h4 => ?_, L.dis⟩⟩
  · have ha : a ≠ p := by
      rintro rfl
      by_cases ht : W.T = some a
      · obtain ⟨_, t⟩ := L.gr.tp a ht
        obtain ⟨_, i, c, e, _⟩ := t
        rw [e] at hp
        cases hp
      · cases q : W.H0 a with
        | none => exact h1 q
        | some u =>
          have := L.gr.keep a u q ht
          rw [hp] at this
          cases this
    rw [upd_ne ha]
    exact L.gr.new a h1 h2
  · have := L.gr.keep a u h1 h2
    rw [upd_ne (np a u this)]
    exact this
  · obtain ⟨h1, t⟩ := L.gr.tp T h
    obtain ⟨t1, i, c, e, r⟩ := id t
    exact ⟨h1, t.mono s (by rw [upd_ne (np T _ e)]; exact t1) fun u hu => by rw [upd_ne (np T _ e)]; exact hu⟩
  · rw [upd_ne (np a u h4), upd_ne (np a u h4)]
    exact ⟨h2, h4⟩
/-- behind a call that touched nothing but (maybe) the tape -/
theorem Lay.called (L : Lay K W B H σ ρ) {T : Option Addr} {ns : Addr × List Int} (hT : T = none ∨ T = W.T ∧ ns = W.ns) (g : Gr K ⟨T, ns, B, H⟩ B' H') : Same B B' ∧ Lay K W B' H' σ ρ := by
  have ex : ∀ a, W.H0 a ≠ none → H a ≠ none := fun a h1 => by
    by_cases ht : W.T = some a
    · obtain ⟨_, t⟩ := L.gr.tp a ht
      obtain ⟨_, i, c, e, _⟩ := t
      rw [e]
      exact fun z => by cases z
    · cases q : W.H0 a with
      | none => exact (h1 q).elim
      | some u =>
        rw [L.gr.keep a u q ht]
        exact fun z => by cases z
  refine ⟨g.base, ⟨⟨g.sub, L.gr.base.trans g.base, fun a h1 h2 => g.new a (ex a h1) (L.gr.new a h1 h2), fun a u h1 h2 => g.keep a u (L.gr.keep a u h1 h2) ?_, fun t h => ?_⟩, L.len, fun i sl e => (L.at' i sl e).grow g.base fun a u _ _ h2 h3 h4 => ?_, L.dis⟩⟩
  · rcases hT with z | ⟨z, _⟩
    · show T ≠ some a
      rw [z]
      exact fun q => by cases q
    · show T ≠ some a
      rw [z]
      exact h2
  · obtain ⟨h1, tp⟩ := L.gr.tp t h
    obtain ⟨t1, i, c, e, r⟩ := id tp
    rcases hT with z | ⟨z, zn⟩
    · exact ⟨h1, tp.mono g.base (g.new t (by show H t ≠ none; rw [e]; exact fun q => by cases q) t1) fun u hu => g.keep t u hu (by show T ≠ some t; rw [z]; exact fun q => by cases q)⟩
    · have q := (g.tp t (by show T = some t; rw [z]; exact h)).2
      rw [← zn]
      exact ⟨h1, q⟩
  · refine ⟨g.new a (by show H a ≠ none; rw [h4]; exact fun q => by cases q) h2, g.keep a u h4 ?_⟩
    show T ≠ some a
    rcases hT with z | ⟨z, _⟩
    · rw [z]
      exact fun q => by cases q
    · rw [z]
      intro q
      exact (L.gr.tp a q).1 h3
/-- a name is stored -/
theorem Lay.put (L : Lay K W B H σ ρ) {i : Nat} {v : V} {d : PyData} (hd : Dq K B v d) : Lay K W B H (σ.set i (some v)) (ρ.set i (.im d)) := by
  refine ⟨L.gr, by simp [L.len], fun j sl e => ?_, fun j k s t hne e1 e2 o1 o2 => ?_⟩
  · by_cases hj : i = j
    · subst hj
      have hl : i < ρ.length := by
        have := (List.getElem?_eq_some_iff.mp e).1
        simpa using this
      rw [List.getElem?_set_self hl] at e
      cases e
      rw [List.getElem?_set_self (by rw [L.len]; exact hl)]
      exact ⟨v, rfl, hd⟩
    · rw [List.getElem?_set_ne hj] at e ⊢
      exact L.at' j sl e
  · have n1 : i ≠ j := by
      rintro rfl
      have hl : i < ρ.length := by
        have := (List.getElem?_eq_some_iff.mp e1).1
        simpa using this
      rw [List.getElem?_set_self hl] at e1
      cases e1
      cases o1
    have n2 : i ≠ k := by
      rintro rfl
      have hl : i < ρ.length := by
        have := (List.getElem?_eq_some_iff.mp e2).1
        simpa using this
      rw [List.getElem?_set_self hl] at e2
      cases e2
      cases o2
    rw [List.getElem?_set_ne n1] at e1 ⊢
    rw [List.getElem?_set_ne n2] at e2 ⊢
    exact L.dis j k s t hne e1 e2 o1 o2
/-- a slot forgotten -/
theorem Lay.wipe1 (L : Lay K W B H σ ρ) (i : Nat) : Lay K W B H (σ.set i none) (ρ.set i .no) := by
  refine ⟨L.gr, by simp [L.len], fun j sl e => ?_, fun j k s t hne e1 e2 o1 o2 => ?_⟩
  · by_cases hj : i = j
    · subst hj
      have hl : i < ρ.length := by
        have := (List.getElem?_eq_some_iff.mp e).1
        simpa using this
      rw [List.getElem?_set_self hl] at e
      cases e
      trivial
    · rw [List.getElem?_set_ne hj] at e ⊢
      exact L.at' j sl e
  · have n1 : i ≠ j := by
      rintro rfl
      have hl : i < ρ.length := by
        have := (List.getElem?_eq_some_iff.mp e1).1
        simpa using this
      rw [List.getElem?_set_self hl] at e1
      cases e1
      cases o1
    have n2 : i ≠ k := by
      rintro rfl
      have hl : i < ρ.length := by
        have := (List.getElem?_eq_some_iff.mp e2).1
        simpa using this
      rw [List.getElem?_set_self hl] at e2
      cases e2
      cases o2
    rw [List.getElem?_set_ne n1] at e1 ⊢
    rw [List.getElem?_set_ne n2] at e2 ⊢
    exact L.dis j k s t hne e1 e2 o1 o2
end

/-! ### the judgements -/
section
variable (X : Cx)
def tW (e : Expr) : TE := fun σ H Q => ∀ (pins : List (Addr × Obj)) (s : Shared), Inv X pins σ H s → wpAny (model X.prog X.w) X.A (eval e X.env) (EP X pins σ Q) X.xe s
def tWt (e : Expr) : TT := fun σ H Q => ∀ (pins : List (Addr × Obj)) (s : Shared), Inv X pins σ H s → wpAny (model X.prog X.w) X.A (isTrue e X.env (eval e X.env)) (TP X pins σ Q) X.xe s
def tWw (e : Expr) : TT := fun σ H Q => ∀ (whole : Sem Value) (pins : List (Addr × Obj)) (s : Shared), Inv X pins σ H s → wpAny (model X.prog X.w) X.A (isTrue e X.env whole) (TP X pins σ Q) X.xe s
def tWa (es : List Expr) : TA := fun σ H Q => ∀ (pos : Pos) (pins : List (Addr × Obj)) (s : Shared), Inv X pins σ H s → wpAny (model X.prog X.w) X.A (spliced (backTo pos (starEach es X.env))) (AP X pins σ Q) X.xe s
def tWs (st : Stmt) : TS := fun D σ H => ∀ (pins : List (Addr × Obj)) (s : Shared), Inv X pins σ H s → wpAny (model X.prog X.w) X.A (exec st X.env) (SP X pins D) X.xe s
def tWss (st : List Stmt) : TS := fun D σ H => ∀ (pins : List (Addr × Obj)) (s : Shared), Inv X pins σ H s → wpAny (model X.prog X.w) X.A (execs st X.env) (SP X pins D) X.xe s
end
section
variable {X : Cx}
theorem pe_w {e : Expr} : PE X e (tW X e) := ⟨fun pins s _ _ _ I h => h pins s I⟩
theorem pt_w {e : Expr} : PT X e (tWt X e) := ⟨fun pins s _ _ _ I h => h pins s I⟩
theorem pw_w {e : Expr} : PW X e (tWw X e) := ⟨fun w pins s _ _ _ I h => h w pins s I⟩
theorem pa_w {es : List Expr} : PA X es (tWa X es) := ⟨fun pos pins s _ _ _ I h => h pos pins s I⟩
theorem ps_w {st : Stmt} : PS X st (tWs X st) := ⟨fun pins s _ _ _ I h => h pins s I⟩
theorem pss_w {st : List Stmt} : PSs X st (tWss X st) := ⟨fun pins s _ _ _ I h => h pins s I⟩
theorem _root_.L2.PE.toZ {e : Expr} {t : TE} (h : PE X e t) {σ H Q} (q : t σ H Q) : tW X e σ H Q := fun pins s I => h.run pins s σ H Q I q
theorem _root_.L2.PT.toZ {e : Expr} {t : TT} (h : PT X e t) {σ H Q} (q : t σ H Q) : tWt X e σ H Q := fun pins s I => h.run pins s σ H Q I q
theorem _root_.L2.PW.toZ {e : Expr} {t : TT} (h : PW X e t) {σ H Q} (q : t σ H Q) : tWw X e σ H Q := fun w pins s I => h.run w pins s σ H Q I q
theorem _root_.L2.PA.toZ {es : List Expr} {t : TA} (h : PA X es t) {σ H Q} (q : t σ H Q) : tWa X es σ H Q := fun pos pins s I => h.run pos pins s σ H Q I q
theorem _root_.L2.PS.toZ {st : Stmt} {t : TS} (h : PS X st t) {D σ H} (q : t D σ H) : tWs X st D σ H := fun pins s I => h.run pins s σ H D I q
theorem _root_.L2.PSs.toZ {st : List Stmt} {t : TS} (h : PSs X st t) {D σ H} (q : t D σ H) : tWss X st D σ H := fun pins s I => h.run pins s σ H D I q
end

/-- an expression: from the frame ρ it gives some data d of which R holds, nothing else has changed -/
structure Ev (X : Cx) (W : Wd) (e : Expr) (ρ : List Sl) (R : PyData → Prop) : Prop where
  run : ∀ (σ : L2.St) (H B : Hp) (Q : VK), Lay X.K W B H σ ρ → (∀ v H' B' d, Same B B' → Lay X.K W B' H' σ ρ → Dq X.K B' v d → R d → Q v H') → tW X e σ H Q
/-- .. that gives a fresh list, of this frame's own -/
structure El (X : Cx) (W : Wd) (e : Expr) (ρ : List Sl) (R : List PyData → Prop) : Prop where
  run : ∀ (σ : L2.St) (H B : Hp) (Q : VK), Lay X.K W B H σ ρ →
    (∀ a vs H' B' ds, Same B B' → Lay X.K W B' H' σ ρ → B' a = none → W.H0 a = none → (∀ (i : Nat) (sl : Sl), ρ[i]? = some sl → sl.ow = true → σ[i]? ≠ some (some (.ref a))) → H' a = some (.lst vs) → DqAll X.K B' vs ds → R ds → Q (.ref a) H') → tW X e σ H Q
/-- a test -/
structure Et (X : Cx) (W : Wd) (e : Expr) (ρ : List Sl) (R : Bool → Prop) : Prop where
  run : ∀ (σ : L2.St) (H B : Hp) (Q : Bool → Hp → Prop), Lay X.K W B H σ ρ → (∀ b H' B', Same B B' → Lay X.K W B' H' σ ρ → R b → Q b H') → tWt X e σ H Q
structure Ew (X : Cx) (W : Wd) (e : Expr) (ρ : List Sl) (R : Bool → Prop) : Prop where
  run : ∀ (σ : L2.St) (H B : Hp) (Q : Bool → Hp → Prop), Lay X.K W B H σ ρ → (∀ b H' B', Same B B' → Lay X.K W B' H' σ ρ → R b → Q b H') → tWw X e σ H Q
/-- arguments -/
structure Ea (X : Cx) (W : Wd) (es : List Expr) (ρ : List Sl) (R : List PyData → Prop) : Prop where
  run : ∀ (σ : L2.St) (H B : Hp) (Q : List V → Hp → Prop), Lay X.K W B H σ ρ → (∀ vs H' B' ds, Same B B' → Lay X.K W B' H' σ ρ → DqAll X.K B' vs ds → R ds → Q vs H') → tWa X es σ H Q
/-- what is wanted behind a statement -/
structure Dz where
  nx : List Sl → Prop
  rt : PyData → Prop
  bk : List Sl → Prop := fun _ => False
  ct : List Sl → Prop := fun _ => False
def De (K : PySem.W.Frag) (W : Wd) (B0 : Hp) (D : Dz) : Ends where
  nx := fun σ H => ∃ B ρ, Same B0 B ∧ Lay K W B H σ ρ ∧ D.nx ρ
  rt := fun v H => ∃ B d, Gr K W B H ∧ Dq K B v d ∧ D.rt d
  bk := fun σ H => ∃ B ρ, Same B0 B ∧ Lay K W B H σ ρ ∧ D.bk ρ
  ct := fun σ H => ∃ B ρ, Same B0 B ∧ Lay K W B H σ ρ ∧ D.ct ρ
structure Es (X : Cx) (W : Wd) (st : Stmt) (ρ : List Sl) (D : Dz) : Prop where
  run : ∀ (σ : L2.St) (H B : Hp), Lay X.K W B H σ ρ → tWs X st (De X.K W B D) σ H
structure Ess (X : Cx) (W : Wd) (st : List Stmt) (ρ : List Sl) (D : Dz) : Prop where
  run : ∀ (σ : L2.St) (H B : Hp), Lay X.K W B H σ ρ → tWss X st (De X.K W B D) σ H
section
variable {X : Cx} {W : Wd} {B B' H : Hp} {σ : L2.St} {D : Dz}
theorem SP.back (s : Same B B') {pins : List (Addr × Obj)} {f : Flow} {s' : Shared} (h : SP X pins (De X.K W B' D) f s') : SP X pins (De X.K W B D) f s' := by
  cases f with
  | next => obtain ⟨σ', H', I', B2, ρ', s2, q⟩ := h; exact ⟨σ', H', I', B2, ρ', s.trans s2, q⟩
  | brk => obtain ⟨σ', H', I', B2, ρ', s2, q⟩ := h; exact ⟨σ', H', I', B2, ρ', s.trans s2, q⟩
  | cont => obtain ⟨σ', H', I', B2, ρ', s2, q⟩ := h; exact ⟨σ', H', I', B2, ρ', s.trans s2, q⟩
  | ret u => exact h
theorem tWs.back (s : Same B B') {st : Stmt} (h : tWs X st (De X.K W B' D) σ H) : tWs X st (De X.K W B D) σ H := fun pins s0 I => thn (h pins s0 I) fun _ _ q => SP.back s q
theorem tWss.back (s : Same B B') {st : List Stmt} (h : tWss X st (De X.K W B' D) σ H) : tWss X st (De X.K W B D) σ H := fun pins s0 I => thn (h pins s0 I) fun _ _ q => SP.back s q
end
end Z

namespace Z
open PySem PySem.Spec PyProof.Rows L2
section
variable {X : Cx} {W : Wd} {ρ : List Sl} {R : PyData → Prop} {pos : Pos} {a b c e : Expr} {es : List Expr}

/-! ### what is read as a test or value -/
theorem Ev.imp {R' : PyData → Prop} (h : Ev X W e ρ R) (k : ∀ d, R d → R' d) : Ev X W e ρ R' := ⟨fun σ H B Q L q => h.run σ H B Q L fun v H' B' d s L' D r => q v H' B' d s L' D (k d r)⟩
theorem Et.imp {R R' : Bool → Prop} (h : Et X W e ρ R) (k : ∀ d, R d → R' d) : Et X W e ρ R' := ⟨fun σ H B Q L q => h.run σ H B Q L fun v H' B' s L' r => q v H' B' s L' (k v r)⟩
theorem Ess.imp {st : List Stmt} {D D' : Dz} (h : Ess X W st ρ D) (h1 : ∀ r, D.nx r → D'.nx r) (h2 : ∀ d, D.rt d → D'.rt d) (h3 : ∀ r, D.bk r → D'.bk r) (h4 : ∀ r, D.ct r → D'.ct r) : Ess X W st ρ D' := by
  refine ⟨fun σ H B L pins s I => ?_⟩
  refine thn (h.run σ H B L pins s I) fun f s' q => ?_
  cases f with
  | next => obtain ⟨σ', H', I', B', ρ', s0, L', q⟩ := q; exact ⟨σ', H', I', B', ρ', s0, L', h1 _ q⟩
  | brk => obtain ⟨σ', H', I', B', ρ', s0, L', q⟩ := q; exact ⟨σ', H', I', B', ρ', s0, L', h3 _ q⟩
  | cont => obtain ⟨σ', H', I', B', ρ', s0, L', q⟩ := q; exact ⟨σ', H', I', B', ρ', s0, L', h4 _ q⟩
  | ret u => obtain ⟨v, σ', H', I', r, B', d, g, D1, q⟩ := q; exact ⟨v, σ', H', I', r, B', d, g, D1, h2 _ q⟩

/-! ### names and constants -/
theorem ev_name (i : Nat) {x : Str} {d : PyData} (hρ : ρ[i]? = some (.im d)) (h : R d) (hN : X.N[i]? = some x := by rfl) (hv : Vis X.env.scope x := by first | exact Or.inl rfl | exact Or.inr (Or.inl rfl) | exact Or.inr (Or.inr rfl))
    (hd : (x == ("__debug__" : Str)) = false := by decide) (hcd : (x == ("__classdict__" : Str)) = false := by decide) : Ev X W (.Name x pos) ρ R := by
  refine ⟨fun σ H B Q L k => (pe_var hN hv hd hcd).toZ ?_⟩
  obtain ⟨v, h1, h2⟩ := L.at' i _ hρ
  exact ⟨v, h1, k v H B d (Same.refl _) L h2 h⟩
theorem ev_int {i j} (h : R (.int i)) : Ev X W (.Constant (.int i) j pos) ρ R := ⟨fun _ H B _ L k => pe_int.toZ (k _ H B _ (Same.refl _) L (.int i) h)⟩
theorem ev_bool {i j} (h : R (.bool i)) : Ev X W (.Constant (.bool i) j pos) ρ R := ⟨fun _ H B _ L k => pe_bl.toZ (k _ H B _ (Same.refl _) L (.bl i) h)⟩
theorem ev_none {j} (h : R .none) : Ev X W (.Constant .none j pos) ρ R := ⟨fun _ H B _ L k => pe_non.toZ (k _ H B _ (Same.refl _) L .non h)⟩
theorem ev_str {x j} (h : R (.str x)) : Ev X W (.Constant (.str x) j pos) ρ R := ⟨fun _ H B _ L k => pe_str.toZ (k _ H B _ (Same.refl _) L (.str x) h)⟩
/-- a constant of a module -/
theorem ev_glob {x : Str} {i : Int} (hm : ∃ t, X.mg x = some (.int i t)) (h : R (.int i)) (hg : Gl X x := by rfl) (hd : (x == ("__debug__" : Str)) = false := by decide) : Ev X W (.Name x pos) ρ R := by
  obtain ⟨t, hm⟩ := hm
  exact ⟨fun _ H B _ L k => (pe_glob hg hm (v := .int i) ⟨t, rfl⟩ hd).toZ (k _ H B _ (Same.refl _) L (.int i) h)⟩

/-! ### operators -/
/-- an operator on data: what it asks -/
def OpZ (X : Cx) (f : Value → Value → Sem Value) (rr : PyData → PyData → (PyData → Prop) → Prop) : Prop :=
  ∃ r : R2, OpR X f r ∧ ∀ (W : Wd) (σ : L2.St) (ρ : List Sl) (H B : Hp) (v u : V) (d e : PyData) (R : PyData → Prop) (Q : VK), Lay X.K W B H σ ρ → Dq X.K B v d → Dq X.K B u e → rr d e R →
    (∀ w H' B' d', Same B B' → Lay X.K W B' H' σ ρ → Dq X.K B' w d' → R d' → Q w H') → r v u H Q
theorem ev_bin {op : Operator} {rr : PyData → PyData → (PyData → Prop) → Prop} (ho : OpZ X (binaryOp op) rr) (h : Ev X W a ρ fun x => Ev X W b ρ fun y => rr x y R) : Ev X W (.BinOp a op b pos) ρ R := by
  obtain ⟨r, ho, hr⟩ := ho
  refine ⟨fun σ H B Q L k => (pe_op ho pe_w pe_w).toZ ?_⟩
  refine h.run σ H B _ L fun v H1 B1 d s1 L1 D1 h2 => ?_
  refine h2.run σ H1 B1 _ L1 fun u H2 B2 d' s2 L2 D2 h3 => ?_
  exact hr W σ ρ H2 B2 v u d d' R Q L2 (dpMono s2 _ _ D1) D2 h3 fun w H' B' x s L' D' r => k w H' B' x ((s1.trans s2).trans s) L' D' r
theorem ev_cmp {op : CmpOp} {rr : PyData → PyData → (PyData → Prop) → Prop} (ho : OpZ X (compareOp op) rr) (h : Ev X W a ρ fun x => Ev X W b ρ fun y => rr x y R) (hm : behindInMarks op b = false := by first | exact nomark _ | rfl) : Ev X W (.Compare a [op] [b] pos) ρ R := by
  obtain ⟨r, ho, hr⟩ := ho
  refine ⟨fun σ H B Q L k => (pe_cmpR ho pe_w pe_w hm).toZ ?_⟩
  refine h.run σ H B _ L fun v H1 B1 d s1 L1 D1 h2 => ?_
  refine h2.run σ H1 B1 _ L1 fun u H2 B2 d' s2 L2 D2 h3 => ?_
  exact hr W σ ρ H2 B2 v u d d' R Q L2 (dpMono s2 _ _ D1) D2 h3 fun w H' B' x s L' D' r => k w H' B' x ((s1.trans s2).trans s) L' D' r
/-- a bool's test -/
@[reducible] def tst (R : Bool → Prop) : PyData → Prop
  | .bool b => R b
  | _ => False
theorem et_cmp {op : CmpOp} {R : Bool → Prop} {rr : PyData → PyData → (PyData → Prop) → Prop} (ho : OpZ X (compareOp op) rr) (h : Ev X W a ρ fun x => Ev X W b ρ fun y => rr x y (tst R)) (hm : behindInMarks op b = false := by first | exact nomark _ | rfl) : Et X W (.Compare a [op] [b] pos) ρ R := by
  obtain ⟨r, ho, hr⟩ := ho
  refine ⟨fun σ H B Q L k => (pt_cmpR ho pe_w pe_w hm).toZ ?_⟩
  refine h.run σ H B _ L fun v H1 B1 d s1 L1 D1 h2 => ?_
  refine h2.run σ H1 B1 _ L1 fun u H2 B2 d' s2 L2 D2 h3 => ?_
  refine hr W σ ρ H2 B2 v u d d' _ _ L2 (dpMono s2 _ _ D1) D2 h3 fun w H' B' x s L' D' r => ?_
  cases x with
  | bool b => exact ⟨b, dp_bool D', k b H' B' ((s1.trans s2).trans s) L' r⟩
  | none => exact r.elim
  | int _ => exact r.elim
  | str _ => exact r.elim
  | list _ => exact r.elim
  | tuple _ => exact r.elim
  | dict _ => exact r.elim
/-- an expression whose value is a bool, as a test -/
theorem et_val {R : Bool → Prop} (h : Ev X W e ρ (tst R)) (he : ∀ whole, isTrue e X.env whole = (do let v ← whole; standAt e.pos; holding [v] (truthy v)) := by intro _; rfl) : Et X W e ρ R := by
  refine ⟨fun σ H B Q L k => (pt_val pe_w he).toZ ?_⟩
  refine h.run σ H B _ L fun v H1 B1 d s1 L1 D1 h2 => ?_
  cases d with
  | bool b => exact ⟨b, dp_bool D1, k b H1 B1 s1 L1 h2⟩
  | none => exact h2.elim
  | int _ => exact h2.elim
  | str _ => exact h2.elim
  | list _ => exact h2.elim
  | tuple _ => exact h2.elim
  | dict _ => exact h2.elim
/-! ints -/
@[reducible] def rI2 (C : Int → Int → Prop) (g : Int → Int → PyData) : PyData → PyData → (PyData → Prop) → Prop
  | .int i, .int j, R => C i j ∧ R (g i j)
  | _, _, _ => False
@[reducible] def rI1 (g : Int → Int → PyData) : PyData → PyData → (PyData → Prop) → Prop
  | .int i, .int j, R => R (g i j)
  | _, _, _ => False
theorem ozI {f : Value → Value → Sem Value} {C : Int → Int → Prop} {g : Int → Int → Int} (h : OpR X f (rI C fun i j => .int (g i j))) : OpZ X f (rI2 C fun i j => .int (g i j)) := by
  refine ⟨_, h, fun W σ ρ H B v u d e R Q L D1 D2 r k => ?_⟩
  cases d <;> cases e <;> first | exact r.elim | skip
  rename_i i j
  exact ⟨i, j, dp_int D1, dp_int D2, r.1, k _ H B _ (Same.refl _) L (.int _) r.2⟩
theorem ozI0 {f : Value → Value → Sem Value} {g : Int → Int → Int} (h : OpR X f (rI0 fun i j => .int (g i j))) : OpZ X f (rI1 fun i j => .int (g i j)) := by
  refine ⟨_, h, fun W σ ρ H B v u d e R Q L D1 D2 r k => ?_⟩
  cases d <;> cases e <;> first | exact r.elim | skip
  rename_i i j
  exact ⟨i, j, dp_int D1, dp_int D2, k _ H B _ (Same.refl _) L (.int _) r⟩
theorem ozB0 {f : Value → Value → Sem Value} {g : Int → Int → Bool} (h : OpR X f (rI0 fun i j => .bl (g i j))) : OpZ X f (rI1 fun i j => .bool (g i j)) := by
  refine ⟨_, h, fun W σ ρ H B v u d e R Q L D1 D2 r k => ?_⟩
  cases d <;> cases e <;> first | exact r.elim | skip
  rename_i i j
  exact ⟨i, j, dp_int D1, dp_int D2, k _ H B _ (Same.refl _) L (.bl _) r⟩
theorem oz_sub : OpZ X (binaryOp .Sub) (rI1 fun i j => .int (i - j)) := ozI0 op_sub
theorem oz_mul : OpZ X (binaryOp .Mult) (rI2 CMul fun i j => .int (i * j)) := ozI op_mul
theorem oz_mulW : OpZ X (binaryOp .Mult) (rI2 CMulW fun i j => .int (i * j)) := ozI op_mulW
theorem oz_div : OpZ X (binaryOp .FloorDiv) (rI2 CDivW fun i j => .int (i / j)) := ozI op_fdivW
theorem oz_mod : OpZ X (binaryOp .Mod) (rI2 (fun _ j => 0 < j) fun i j => .int (i % j)) := ozI op_mod
theorem oz_pow : OpZ X (binaryOp .Pow) (rI2 CPow fun i j => .int (i ^ j.toNat)) := ozI op_pow
theorem oz_lt : OpZ X (compareOp .Lt) (rI1 fun i j => .bool (decide (i < j))) := ozB0 op_lt
theorem oz_le : OpZ X (compareOp .LtE) (rI1 fun i j => .bool (decide (i ≤ j))) := ozB0 op_le
theorem oz_gt : OpZ X (compareOp .Gt) (rI1 fun i j => .bool (decide (j < i))) := ozB0 op_gt
theorem oz_ge : OpZ X (compareOp .GtE) (rI1 fun i j => .bool (decide (j ≤ i))) := ozB0 op_ge
theorem oz_iadd : OpZ X (inplaceOp .Add) (rI1 fun i j => .int (i + j)) := ozI0 iop_add
/-- + of ints, tuples, lists, texts -/
@[reducible] def rAdd : PyData → PyData → (PyData → Prop) → Prop
  | .int i, .int j, R => R (.int (i + j))
  | .tuple xs, .tuple ys, R => xs.length + ys.length ≤ sizeLine ∧ R (.tuple (xs ++ ys))
  | .list xs, .list ys, R => xs.length + ys.length ≤ sizeLine ∧ R (.list (xs ++ ys))
  | .str x, .str y, R => x.length + y.length ≤ sizeLine ∧ R (.str (x ++ y))
  | _, _, _ => False
theorem oz_add : OpZ X (binaryOp .Add) rAdd := by
  refine ⟨_, OpR.or op_add (OpR.or op_catA (OpR.or op_cat op_add_str)), fun W σ ρ H B v u d e R Q L D1 D2 r k => ?_⟩
  cases d <;> cases e <;> first | exact r.elim | skip
  · rename_i i j
    exact .inl ⟨i, j, dp_int D1, dp_int D2, k _ H B _ (Same.refl _) L (.int _) r⟩
  · rename_i x y
    exact .inr (.inr (.inr ⟨x, y, dp_str D1, dp_str D2, r.1, k _ H B _ (Same.refl _) L (.str _) r.2⟩))
  · rename_i xs ys
    obtain ⟨p, vs, rfl, h1, h2⟩ := dp_list D1
    obtain ⟨q, us, rfl, h3, h4⟩ := dp_list D2
    refine .inr (.inr (.inl ⟨p, q, vs, us, rfl, rfl, L.gr.sub _ _ h1, L.gr.sub _ _ h3, by rw [dpAll_len h2, dpAll_len h4]; exact r.1, fun t ht => ?_⟩))
    obtain ⟨s, L'⟩ := L.fresh ht (.lst (vs ++ us))
    exact k _ _ _ _ s L' (.lst upd_same (dpAll_app (dpAllMono s _ _ h2) (dpAllMono s _ _ h4))) r.2
  · rename_i xs ys
    obtain ⟨p, vs, rfl, h1, h2⟩ := dp_tup D1
    obtain ⟨q, us, rfl, h3, h4⟩ := dp_tup D2
    refine .inr (.inl ⟨p, q, vs, us, rfl, rfl, seqT L.gr.sub h1, seqT L.gr.sub h3, by rw [dpAll_len h2, dpAll_len h4]; exact r.1, fun z => ?_, fun _ z => ?_, fun _ _ t ht => ?_⟩)
    · subst z
      cases h2
      exact k _ H B _ (Same.refl _) L D2 r.2
    · subst z
      cases h4
      have r2 := r.2
      rw [List.append_nil] at r2
      exact k _ H B _ (Same.refl _) L D1 r2
    · obtain ⟨s, L'⟩ := L.fresh ht (.tup (vs ++ us))
      exact k _ _ _ _ s L' (.tup (SqT.of upd_same) (dpAll_app (dpAllMono s _ _ h2) (dpAllMono s _ _ h4))) r.2
/-- == and != of any data -/
@[reducible] def rEqZ : PyData → PyData → (PyData → Prop) → Prop := fun d e R => SeqAt.shaped d = true ∧ SeqAt.shaped e = true ∧ R (.bool (PyData.eqv d e))
@[reducible] def rNeZ : PyData → PyData → (PyData → Prop) → Prop := fun d e R => SeqAt.shaped d = true ∧ SeqAt.shaped e = true ∧ R (.bool (!PyData.eqv d e))
theorem oz_eqD (hu : X.A.units + 64 < cLine) : OpZ X (compareOp .Eq) rEqZ := by
  refine ⟨_, op_eqD hu, fun W σ ρ H B v u d e R Q L D1 D2 r k => ?_⟩
  exact ⟨d, e, dqDp _ _ (dpMono L.gr.sub _ _ D1), dqDp _ _ (dpMono L.gr.sub _ _ D2), r.1, r.2.1, k _ H B _ (Same.refl _) L (.bl _) r.2.2⟩
theorem oz_neD (hu : X.A.units + 64 < cLine) : OpZ X (compareOp .NotEq) rNeZ := by
  refine ⟨_, op_neD hu, fun W σ ρ H B v u d e R Q L D1 D2 r k => ?_⟩
  exact ⟨d, e, dqDp _ _ (dpMono L.gr.sub _ _ D1), dqDp _ _ (dpMono L.gr.sub _ _ D2), r.1, r.2.1, k _ H B _ (Same.refl _) L (.bl _) r.2.2⟩
/-- == and != of ints -/
theorem oz_eq : OpZ X (compareOp .Eq) (rI1 fun i j => .bool (decide (i = j))) := by
  refine ⟨_, op_eq, fun W σ ρ H B v u d e R Q L D1 D2 r k => ?_⟩
  cases d <;> cases e <;> first | exact r.elim | skip
  rename_i i j
  cases dp_int D1
  cases dp_int D2
  refine ⟨rfl, ?_⟩
  have e1 : decide (V.int i = V.int j) = decide (i = j) := by
    by_cases h : i = j
    · subst h; simp
    · rw [decide_eq_false h, decide_eq_false fun q => h (V.int.inj q)]
  rw [e1]
  exact k _ H B _ (Same.refl _) L (.bl _) r
theorem oz_ne : OpZ X (compareOp .NotEq) (rI1 fun i j => .bool (!decide (i = j))) := by
  refine ⟨_, op_ne, fun W σ ρ H B v u d e R Q L D1 D2 r k => ?_⟩
  cases d <;> cases e <;> first | exact r.elim | skip
  rename_i i j
  cases dp_int D1
  cases dp_int D2
  refine ⟨rfl, ?_⟩
  have e1 : decide (V.int i = V.int j) = decide (i = j) := by
    by_cases h : i = j
    · subst h; simp
    · rw [decide_eq_false h, decide_eq_false fun q => h (V.int.inj q)]
  rw [e1]
  exact k _ H B _ (Same.refl _) L (.bl _) r
/-- in, not in a list -/
@[reducible] def rInZ : PyData → PyData → (PyData → Prop) → Prop
  | d, .list ds, R => SeqAt.shaped d = true ∧ SeqAt.shaped (.list ds) = true ∧ R (.bool (ds.any fun z => PyData.eqv z d))
  | _, _, _ => False
@[reducible] def rNotInZ : PyData → PyData → (PyData → Prop) → Prop
  | d, .list ds, R => SeqAt.shaped d = true ∧ SeqAt.shaped (.list ds) = true ∧ R (.bool (!ds.any fun z => PyData.eqv z d))
  | _, _, _ => False
theorem oz_in (hu : X.A.units + 65 < cLine) : OpZ X (compareOp .In) rInZ := by
  refine ⟨_, op_inD hu, fun W σ ρ H B v u d e R Q L D1 D2 r k => ?_⟩
  cases e <;> first | exact r.elim | skip
  exact ⟨d, _, dqDp _ _ (dpMono L.gr.sub _ _ D1), dqDp _ _ (dpMono L.gr.sub _ _ D2), r.1, r.2.1, k _ H B _ (Same.refl _) L (.bl _) r.2.2⟩
theorem oz_notIn (hu : X.A.units + 65 < cLine) : OpZ X (compareOp .NotIn) rNotInZ := by
  refine ⟨_, op_notInD hu, fun W σ ρ H B v u d e R Q L D1 D2 r k => ?_⟩
  cases e <;> first | exact r.elim | skip
  exact ⟨d, _, dqDp _ _ (dpMono L.gr.sub _ _ D1), dqDp _ _ (dpMono L.gr.sub _ _ D2), r.1, r.2.1, k _ H B _ (Same.refl _) L (.bl _) r.2.2⟩
/-- a < b < c: both ints' comparisons -/
theorem ev_chain {op op' : CmpOp} {rr rr' : PyData → PyData → (PyData → Prop) → Prop} (ho : OpZ X (compareOp op) rr) (ho' : OpZ X (compareOp op') rr')
    (h : Ev X W a ρ fun x => Ev X W b ρ fun y => rr x y (tst fun k => (k = true → Ev X W c ρ fun z => rr' y z R) ∧ (k = false → R (.bool false)))) (hm : lastMarks [op, op'] [b, c] = false := by with_unfolding_all rfl) : Ev X W (.Compare a [op, op'] [b, c] pos) ρ R := by
  obtain ⟨r, ho, hr⟩ := ho
  obtain ⟨r', ho', hr'⟩ := ho'
  refine ⟨fun σ H B Q L k => (pe_chain ho ho' pe_w pe_w pe_w hm).toZ ?_⟩
  refine h.run σ H B _ L fun v H1 B1 d s1 L1 D1 h2 => ?_
  refine h2.run σ H1 B1 _ L1 fun u H2 B2 d' s2 L2 D2 h3 => ?_
  refine hr W σ ρ H2 B2 v u d d' _ _ L2 (dpMono s2 _ _ D1) D2 h3 fun w H' B' x s L' D' q => ?_
  cases x <;> first | exact q.elim | skip
  rename_i kk
  refine ⟨kk, dp_bool D', ?_⟩
  cases kk with
  | true =>
    rw [if_pos rfl]
    refine (q.1 rfl).run σ H' B' _ L' fun w3 H3 B3 d3 s3 L3 D3 h4 => ?_
    exact hr' W σ ρ H3 B3 u w3 d' d3 R Q L3 (dpMono (s.trans s3) _ _ D2) D3 h4 fun w H'' B'' x s4 L'' D'' r => k w H'' B'' x ((((s1.trans s2).trans s).trans s3).trans s4) L'' D'' r
  | false =>
    rw [if_neg Bool.false_ne_true]
    exact k _ H' B' _ ((s1.trans s2).trans s) L' (.bl false) (q.2 rfl)
theorem ev_neg (h : Ev X W a ρ fun d => match d with | .int i => R (.int (-i)) | _ => False) : Ev X W (.UnaryOp .USub a pos) ρ R := by
  refine ⟨fun σ H B Q L k => (pe_un un_neg pe_w).toZ ?_⟩
  refine h.run σ H B _ L fun v H1 B1 d s1 L1 D1 h2 => ?_
  cases d <;> first | exact h2.elim | skip
  exact ⟨_, dp_int D1, k _ H1 B1 _ s1 L1 (.int _) h2⟩
/-- is None, is not None -/
def isNn : PyData → Bool
  | .none => true
  | _ => false
theorem isNn_v {K : PySem.W.Frag} {B : Hp} {v : V} {d : PyData} (h : Dq K B v d) : decide (v = .non) = isNn d := by
  cases h <;> first | rfl | simp [isNn]
theorem ev_isN {j pos'} (h : Ev X W a ρ fun d => R (.bool (isNn d))) : Ev X W (.Compare a [.Is] [.Constant .none j pos'] pos) ρ R := by
  refine ⟨fun σ H B Q L k => (pe_cmp (pc_isN pe_w)).toZ ?_⟩
  refine h.run σ H B _ L fun v H1 B1 d s1 L1 D1 h2 => ?_
  show Q (.bl (decide (v = .non))) H1
  rw [isNn_v D1]
  exact k _ H1 B1 _ s1 L1 (.bl _) h2
theorem ev_notN {j pos'} (h : Ev X W a ρ fun d => R (.bool (!isNn d))) : Ev X W (.Compare a [.IsNot] [.Constant .none j pos'] pos) ρ R := by
  refine ⟨fun σ H B Q L k => (pe_cmp (pc_notN pe_w)).toZ ?_⟩
  refine h.run σ H B _ L fun v H1 B1 d s1 L1 D1 h2 => ?_
  show Q (.bl (!decide (v = .non))) H1
  rw [isNn_v D1]
  exact k _ H1 B1 _ s1 L1 (.bl _) h2
theorem et_isN {R : Bool → Prop} {j pos'} (h : Ev X W a ρ fun d => R (isNn d)) : Et X W (.Compare a [.Is] [.Constant .none j pos'] pos) ρ R := by
  refine ⟨fun σ H B Q L k => (pt_cmp (pc_isN pe_w)).toZ ?_⟩
  refine h.run σ H B _ L fun v H1 B1 d s1 L1 D1 h2 => ?_
  show ∃ c, V.bl (decide (v = .non)) = .bl c ∧ Q c H1
  rw [isNn_v D1]
  exact ⟨_, rfl, k _ H1 B1 s1 L1 h2⟩
theorem et_notN {R : Bool → Prop} {j pos'} (h : Ev X W a ρ fun d => R (!isNn d)) : Et X W (.Compare a [.IsNot] [.Constant .none j pos'] pos) ρ R := by
  refine ⟨fun σ H B Q L k => (pt_cmp (pc_notN pe_w)).toZ ?_⟩
  refine h.run σ H B _ L fun v H1 B1 d s1 L1 D1 h2 => ?_
  show ∃ c, V.bl (!decide (v = .non)) = .bl c ∧ Q c H1
  rw [isNn_v D1]
  exact ⟨_, rfl, k _ H1 B1 s1 L1 h2⟩

/-! ### and, or, not, if -/
theorem ev_and {rest : List Expr} (h : Ev X W a ρ (tst fun k => (k = true → Ev X W (.BoolOp .And (b :: rest) pos) ρ R) ∧ (k = false → R (.bool false)))) : Ev X W (.BoolOp .And (a :: b :: rest) pos) ρ R := by
  refine ⟨fun σ H B Q L k => (pe_and pe_w pe_w).toZ ?_⟩
  refine h.run σ H B _ L fun v H1 B1 d s1 L1 D1 h2 => ?_
  cases d <;> first | exact h2.elim | skip
  rename_i kk
  refine ⟨kk, dp_bool D1, ?_⟩
  cases kk with
  | true =>
    rw [if_pos rfl]
    exact (h2.1 rfl).run σ H1 B1 _ L1 fun v H' B' d s L' D r => k v H' B' d (s1.trans s) L' D r
  | false =>
    rw [if_neg Bool.false_ne_true]
    exact k _ H1 B1 _ s1 L1 (.bl false) (h2.2 rfl)
theorem ev_or {rest : List Expr} (h : Ev X W a ρ (tst fun k => (k = true → R (.bool true)) ∧ (k = false → Ev X W (.BoolOp .Or (b :: rest) pos) ρ R))) : Ev X W (.BoolOp .Or (a :: b :: rest) pos) ρ R := by
  refine ⟨fun σ H B Q L k => (pe_or pe_w pe_w).toZ ?_⟩
  refine h.run σ H B _ L fun v H1 B1 d s1 L1 D1 h2 => ?_
  cases d <;> first | exact h2.elim | skip
  rename_i kk
  refine ⟨kk, dp_bool D1, ?_⟩
  cases kk with
  | true =>
    rw [if_pos rfl]
    exact k _ H1 B1 _ s1 L1 (.bl true) (h2.1 rfl)
  | false =>
    rw [if_neg Bool.false_ne_true]
    exact (h2.2 rfl).run σ H1 B1 _ L1 fun v H' B' d s L' D r => k v H' B' d (s1.trans s) L' D r
theorem ev_one {op} (h : Ev X W a ρ R) : Ev X W (.BoolOp op [a] pos) ρ R := ⟨fun σ H B Q L k => (pe_one pe_w).toZ (h.run σ H B Q L k)⟩
theorem ev_not (h : Ev X W a ρ (tst fun k => R (.bool (!k)))) : Ev X W (.UnaryOp .Not a pos) ρ R := by
  refine ⟨fun σ H B Q L k => (pe_not pe_w).toZ ?_⟩
  refine h.run σ H B _ L fun v H1 B1 d s1 L1 D1 h2 => ?_
  cases d <;> first | exact h2.elim | skip
  exact ⟨_, dp_bool D1, k _ H1 B1 _ s1 L1 (.bl _) h2⟩
theorem ew_and {R : Bool → Prop} {rest : List Expr} (h : Et X W a ρ fun k => (k = true → Ew X W (.BoolOp .And (b :: rest) pos) ρ R) ∧ (k = false → R false)) : Ew X W (.BoolOp .And (a :: b :: rest) pos) ρ R := by
  refine ⟨fun σ H B Q L k => (pw_and pt_w pw_w).toZ ?_⟩
  refine h.run σ H B _ L fun kk H1 B1 s1 L1 h2 => ?_
  cases kk with
  | true =>
    rw [if_pos rfl]
    exact (h2.1 rfl).run σ H1 B1 _ L1 fun v H' B' s L' r => k v H' B' (s1.trans s) L' r
  | false =>
    rw [if_neg Bool.false_ne_true]
    exact k _ H1 B1 s1 L1 (h2.2 rfl)
theorem ew_or {R : Bool → Prop} {rest : List Expr} (h : Et X W a ρ fun k => (k = true → R true) ∧ (k = false → Ew X W (.BoolOp .Or (b :: rest) pos) ρ R)) : Ew X W (.BoolOp .Or (a :: b :: rest) pos) ρ R := by
  refine ⟨fun σ H B Q L k => (pw_or pt_w pw_w).toZ ?_⟩
  refine h.run σ H B _ L fun kk H1 B1 s1 L1 h2 => ?_
  cases kk with
  | true =>
    rw [if_pos rfl]
    exact k _ H1 B1 s1 L1 (h2.1 rfl)
  | false =>
    rw [if_neg Bool.false_ne_true]
    exact (h2.2 rfl).run σ H1 B1 _ L1 fun v H' B' s L' r => k v H' B' (s1.trans s) L' r
theorem ew_and1 {R : Bool → Prop} (h : Et X W a ρ R) : Ew X W (.BoolOp .And [a] pos) ρ R := ⟨fun σ H B Q L k => (pw_and1 pt_w).toZ (h.run σ H B Q L k)⟩
theorem ew_or1 {R : Bool → Prop} (h : Et X W a ρ R) : Ew X W (.BoolOp .Or [a] pos) ρ R := ⟨fun σ H B Q L k => (pw_or1 pt_w).toZ (h.run σ H B Q L k)⟩
theorem et_ew {R : Bool → Prop} (h : Ew X W e ρ R) : Et X W e ρ R := ⟨fun σ H B Q L k => (PW.pt pw_w).toZ (h.run σ H B Q L k)⟩
theorem et_not {R : Bool → Prop} (h : Et X W a ρ fun k => R (!k)) : Et X W (.UnaryOp .Not a pos) ρ R := by
  refine ⟨fun σ H B Q L k => (pt_not pt_w).toZ ?_⟩
  exact h.run σ H B _ L fun kk H1 B1 s1 L1 h2 => k _ H1 B1 s1 L1 h2
theorem ev_if (h : Et X W c ρ fun k => (k = true → Ev X W a ρ R) ∧ (k = false → Ev X W b ρ R)) : Ev X W (.IfExp c a b pos) ρ R := by
  refine ⟨fun σ H B Q L k => (pe_ifExp pt_w pe_w pe_w).toZ ?_⟩
  refine h.run σ H B _ L fun kk H1 B1 s1 L1 h2 => ?_
  cases kk with
  | true =>
    rw [if_pos rfl]
    exact (h2.1 rfl).run σ H1 B1 _ L1 fun v H' B' d s L' D r => k v H' B' d (s1.trans s) L' D r
  | false =>
    rw [if_neg Bool.false_ne_true]
    exact (h2.2 rfl).run σ H1 B1 _ L1 fun v H' B' d s L' D r => k v H' B' d (s1.trans s) L' D r

/-! ### arguments, tuples, lists, subscripts -/
theorem ea_nil {R : List PyData → Prop} (h : R []) : Ea X W [] ρ R := ⟨fun σ H B Q L k => pa_nil.toZ (k [] H B [] (Same.refl _) L .nil h)⟩
theorem ea_cons {R : List PyData → Prop} (h : Ev X W e ρ fun d => Ea X W es ρ fun ds => R (d :: ds)) (hs : starEach (e :: es) X.env = (false, eval e X.env) :: starEach es X.env := by rfl) : Ea X W (e :: es) ρ R := by
  refine ⟨fun σ H B Q L k => (pa_cons pe_w pa_w hs).toZ ?_⟩
  refine h.run σ H B _ L fun v H1 B1 d s1 L1 D1 h2 => ?_
  refine h2.run σ H1 B1 _ L1 fun vs H2 B2 ds s2 L2 D2 h3 => ?_
  exact k _ H2 B2 _ (s1.trans s2) L2 (.cons (dpMono s2 _ _ D1) D2) h3
theorem ev_tup {x1} (h : Ea X W es ρ fun ds => ds.length ≤ sizeLine ∧ R (.tuple ds)) : Ev X W (.Tuple es x1 pos) ρ R := by
  refine ⟨fun σ H B Q L k => (pe_tup pa_w).toZ ?_⟩
  refine h.run σ H B _ L fun vs H1 B1 ds s1 L1 D1 h2 => ⟨by rw [dpAll_len D1]; exact h2.1, fun p hp => ?_⟩
  obtain ⟨s, L'⟩ := L1.fresh hp (.tup vs)
  exact k _ _ _ _ (s1.trans s) L' (.tup (SqT.of upd_same) (dpAllMono s _ _ D1)) h2.2
/-- an item: at a place that is there -/
def atD (ds : List PyData) (i : Int) : Option PyData := atI ds i
theorem atI_dq {K : PySem.W.Frag} {B : Hp} {ds : List PyData} {vs : List V} (h : DqAll K B vs ds) {i : Int} {d : PyData} (e : atI ds i = some d) : ∃ v, atI vs i = some v ∧ Dq K B v d := by
  unfold atI at e ⊢
  rw [dpAll_len h]
  cases q : ixN ds.length i with
  | none => rw [q] at e; cases e
  | some j =>
    rw [q] at e
    exact dpAll_get h (show ds[j]? = some d from e)
@[reducible] def rIxZ : PyData → PyData → (PyData → Prop) → Prop
  | .tuple ds, .int i, R => ∃ d, atI ds i = some d ∧ R d
  | .list ds, .int i, R => ∃ d, atI ds i = some d ∧ R d
  | _, _, _ => False
theorem ev_ix (h : Ev X W a ρ fun x => Ev X W b ρ fun y => rIxZ x y R) (hs : PlainIx b := by exact fun _ _ => rfl) : Ev X W (.Subscript a b pos) ρ R := by
  refine ⟨fun σ H B Q L k => (pe_ix (IxR.or ix_tup ix_list) pe_w pe_w hs).toZ ?_⟩
  refine h.run σ H B _ L fun v H1 B1 d s1 L1 D1 h2 => ?_
  refine h2.run σ H1 B1 _ L1 fun u H2 B2 d' s2 L2 D2 h3 => ?_
  have D1' := dpMono s2 _ _ D1
  cases d <;> cases d' <;> first | exact h3.elim | skip
  · rename_i ds i
    obtain ⟨x, h4, h5⟩ := h3
    obtain ⟨p, vs, rfl, h6, h7⟩ := dp_list D1'
    obtain ⟨w, h8, h9⟩ := atI_dq h7 h4
    exact .inr ⟨p, vs, i, w, rfl, dp_int D2, SqL.of (L2.gr.sub _ _ h6), h8, k w H2 B2 x (s1.trans s2) L2 h9 h5⟩
  · rename_i ds i
    obtain ⟨x, h4, h5⟩ := h3
    obtain ⟨p, vs, rfl, h6, h7⟩ := dp_tup D1'
    obtain ⟨w, h8, h9⟩ := atI_dq h7 h4
    exact .inl ⟨p, vs, i, w, rfl, dp_int D2, seqT L2.gr.sub h6, h8, k w H2 B2 x (s1.trans s2) L2 h9 h5⟩
/-- an item of a list of the frame's own -/
theorem ev_ixOwn (i : Nat) {x : Str} {ds : List PyData} {px : Pos} (hρ : ρ[i]? = some (.own ds)) (h : Ev X W b ρ fun y => rIxZ (.list ds) y R) (hN : X.N[i]? = some x := by rfl) (hv : Vis X.env.scope x := by first | exact Or.inl rfl | exact Or.inr (Or.inl rfl) | exact Or.inr (Or.inr rfl))
    (hs : PlainIx b := by exact fun _ _ => rfl) (hd : (x == ("__debug__" : Str)) = false := by decide) (hcd : (x == ("__classdict__" : Str)) = false := by decide) : Ev X W (.Subscript (.Name x px) b pos) ρ R := by
  refine ⟨fun σ H B Q L k => (pe_ix ix_list (pe_var hN hv hd hcd) pe_w hs).toZ ?_⟩
  obtain ⟨p, vs, e1, e2, e3, e4, e5⟩ := L.at' i _ hρ
  refine ⟨.ref p, e1, ?_⟩
  refine h.run σ H B _ L fun u H2 B2 d' s2 L2 D2 h3 => ?_
  cases d' <;> first | exact h3.elim | skip
  rename_i j
  obtain ⟨y, h4, h5⟩ := h3
  obtain ⟨p', vs', f1, f2, f3, f4, f5⟩ := L2.at' i _ hρ
  rw [e1] at f1
  cases f1
  obtain ⟨w, h8, h9⟩ := atI_dq f5 h4
  exact ⟨p, vs', j, w, rfl, dp_int D2, SqL.of f4, h8, k w H2 B2 y s2 L2 h9 h5⟩

/-! ### calls -/
/-- a def's promise over data, no tape handed in -/
def Con (K : PySem.W.Frag) (P : List PyData → (PyData → Prop) → Prop) : Sp := fun vs H Q _ => ∃ B ds R, Same B H ∧ DqAll K B vs ds ∧ P ds R ∧ ∀ v H' B' d, Gr K ⟨none, (0, []), B, H⟩ B' H' → Dq K B' v d → R d → Q v H'
/-- .. the tape handed in first -/
def ConT (K : PySem.W.Frag) (P : List PyData → (PyData → Prop) → Prop) : Sp := fun vs H Q _ => ∃ B ds R T ns vs', vs = .ref T :: vs' ∧ Same B H ∧ Tape ns B H T ∧ DqAll K B vs' ds ∧ P ds R ∧ ∀ v H' B' d, Gr K ⟨some T, ns, B, H⟩ B' H' → Dq K B' v d → R d → Q v H'
theorem ev_call {f : Addr} {fd : FuncData} {ps : List Str} {k : Nat} {x : Str} {p : Pos} {P : List PyData → (PyData → Prop) → Prop} (F : FnOk X.prog X.w X.K X.mg X.base CX0 k f fd ps (Con X.K P)) (hr : Room k X.A) (hm : X.mg x = some (.ref f))
    (hk : PySem.W.keepIn X.K (.ref f) = true) (hb : Binds X.K fd ps []) (h : Ea X W (e :: es) ρ fun ds => P ds R) (hg : Gl X x := by rfl)
    (hs : starEach (e :: es) X.env = (false, eval e X.env) :: starEach es X.env := by rfl) (hpl : (backTo pos (starEach es X.env)).any (·.1) = false := by rfl) (hdb : (x == ("__debug__" : Str)) = false := by decide) : Ev X W (.Call (.Name x p) (e :: es) [] pos) ρ R := by
  refine ⟨fun σ H B Q L k => PE.toZ (t := tCall (Con X.K P) [] E0 (tWa X (e :: es))) ?_ ?_⟩
  · exact pe_call F hr hg hm hk hb .nil pass0 pa_w hdb hs hpl
  · refine h.run σ H B _ L fun vs H1 B1 ds s1 L1 D1 h2 => ?_
    rw [List.append_nil]
    refine ⟨B1, ds, R, L1.gr.sub, D1, h2, fun v H' B' d g D r => ?_⟩
    obtain ⟨s, L'⟩ := L1.called (.inl rfl) g
    exact k v H' B' d (s1.trans s) L' D r
theorem ev_callT {f : Addr} {fd : FuncData} {ps : List Str} {k : Nat} {x y : Str} {p py : Pos} {P : List PyData → (PyData → Prop) → Prop} (i : Nat) (hρ : ρ[i]? = some .tape) (F : FnOk X.prog X.w X.K X.mg X.base CX0 k f fd ps (ConT X.K P)) (hr : Room k X.A) (hm : X.mg x = some (.ref f))
    (hk : PySem.W.keepIn X.K (.ref f) = true) (hb : Binds X.K fd ps []) (h : Ea X W es ρ fun ds => P ds R) (hN : X.N[i]? = some y := by rfl) (hv : Vis X.env.scope y := by first | exact Or.inl rfl | exact Or.inr (Or.inl rfl) | exact Or.inr (Or.inr rfl)) (hg : Gl X x := by rfl)
    (hs : starEach (.Name y py :: es) X.env = (false, eval (.Name y py) X.env) :: starEach es X.env := by rfl) (hpl : (backTo pos (starEach es X.env)).any (·.1) = false := by rfl) (hdb : (x == ("__debug__" : Str)) = false := by decide)
    (hd : (y == ("__debug__" : Str)) = false := by decide) (hcd : (y == ("__classdict__" : Str)) = false := by decide) : Ev X W (.Call (.Name x p) (.Name y py :: es) [] pos) ρ R := by
  refine ⟨fun σ H B Q L k => PE.toZ (t := tCall (ConT X.K P) [] E0 (tCons (tVar i) (tWa X es))) ?_ ?_⟩
  · have hpa : PA X (.Name y py :: es) (tCons (tVar i) (tWa X es)) := pa_cons (pe_var hN hv hd hcd) pa_w hs
    exact pe_call F hr hg hm hk hb .nil pass0 hpa hdb hs hpl
  · obtain ⟨T, hT, e1⟩ := L.at' i _ hρ
    refine ⟨.ref T, e1, ?_⟩
    refine h.run σ H B _ L fun vs H1 B1 ds s1 L1 D1 h2 => ?_
    show ConT X.K P ((V.ref T :: vs) ++ []) H1 Q E0
    rw [List.append_nil]
    obtain ⟨_, tp⟩ := L1.gr.tp T hT
    refine ⟨B1, ds, R, T, W.ns, vs, rfl, L1.gr.sub, tp, D1, h2, fun v H' B' d g D r => ?_⟩
    obtain ⟨s, L'⟩ := L1.called (.inr ⟨hT.symm, rfl⟩) g
    exact k v H' B' d (s1.trans s) L' D r
end
end Z

namespace Z
open PySem PySem.Spec PyProof.Rows L2
section
variable {X : Cx} {W : Wd} {ρ : List Sl} {D : Dz} {pos : Pos} {a b c e : Expr} {es : List Expr} {st : Stmt} {sts body : List Stmt}

/-! ### blocks, small statements -/
theorem ess_nil (h : D.nx ρ) : Ess X W [] ρ D := ⟨fun σ H B L => pss_nil.toZ (D := De X.K W B D) (show ∃ B' ρ, Same B B' ∧ Lay X.K W B' H σ ρ ∧ D.nx ρ from ⟨B, ρ, Same.refl _, L, h⟩)⟩
theorem ess_cons (h : Es X W st ρ { D with nx := fun r => Ess X W sts r D }) : Ess X W (st :: sts) ρ D := by
  refine ⟨fun σ H B L => (pss_cons ps_w pss_w).toZ ?_⟩
  show tWs X st { De X.K W B D with nx := fun σ' H' => tWss X sts (De X.K W B D) σ' H' } σ H
  intro pins s I
  refine thn (h.run σ H B L pins s I) fun f s' q => ?_
  cases f with
  | next => obtain ⟨σ', H', I', B', ρ', s0, L', q⟩ := q; exact ⟨σ', H', I', tWss.back s0 (q.run σ' H' B' L')⟩
  | brk => exact q
  | cont => exact q
  | ret u => exact q
theorem ess_one (h : Es X W st ρ D) : Ess X W [st] ρ D := ⟨fun σ H B L => (pss_one ps_w).toZ (h.run σ H B L)⟩
theorem es_pass (h : D.nx ρ) : Es X W (.Pass pos) ρ D := ⟨fun σ H B L => ps_pass.toZ (D := De X.K W B D) (show ∃ B' ρ, Same B B' ∧ Lay X.K W B' H σ ρ ∧ D.nx ρ from ⟨B, ρ, Same.refl _, L, h⟩)⟩
theorem es_break (h : D.bk ρ) : Es X W (.Break pos) ρ D := ⟨fun σ H B L => ps_break.toZ (D := De X.K W B D) (show ∃ B' ρ, Same B B' ∧ Lay X.K W B' H σ ρ ∧ D.bk ρ from ⟨B, ρ, Same.refl _, L, h⟩)⟩
theorem es_continue (h : D.ct ρ) : Es X W (.Continue pos) ρ D := ⟨fun σ H B L => ps_continue.toZ (D := De X.K W B D) (show ∃ B' ρ, Same B B' ∧ Lay X.K W B' H σ ρ ∧ D.ct ρ from ⟨B, ρ, Same.refl _, L, h⟩)⟩
theorem es_ret (h : Ev X W e ρ D.rt) : Es X W (.Return (some e) pos) ρ D :=
  ⟨fun σ H B L => (ps_ret pe_w).toZ (h.run σ H B _ L fun v H' B' d s L' D' r => ⟨B', d, L'.gr, D', r⟩)⟩
theorem es_expr (h : Ev X W e ρ fun _ => D.nx ρ) (hs : swapsWith e none pos.line X.env = pure false := by rfl) : Es X W (.Expr e pos) ρ D :=
  ⟨fun σ H B L => (ps_expr pe_w hs).toZ (h.run σ H B _ L fun v H' B' d s L' D' r => ⟨B', ρ, s, L', r⟩)⟩
theorem es_if (h : Et X W c ρ fun k => (k = true → Ess X W body ρ D) ∧ (k = false → Ess X W sts ρ D)) : Es X W (.If c body sts pos) ρ D := by
  refine ⟨fun σ H B L => (ps_if pt_w pss_w pss_w).toZ ?_⟩
  refine h.run σ H B _ L fun k H1 B1 s L1 q => ?_
  cases k with
  | true =>
    rw [if_pos rfl]
    exact tWss.back s ((q.1 rfl).run σ H1 B1 L1)
  | false =>
    rw [if_neg Bool.false_ne_true]
    exact tWss.back s ((q.2 rfl).run σ H1 B1 L1)
theorem es_set (i : Nat) {x : Str} {pos' : Pos} (h : Ev X W e ρ fun d => D.nx (ρ.set i (.im d))) (hN : X.N.Nodup) (hi : X.N[i]? = some x := by rfl) (hx : Loc X.env.scope x := by first | exact .inl rfl | exact .inr rfl) (hs : swapsWith e (some (.Name x pos')) pos.line X.env = pure false := by rfl)
    (hf : X.fn x = true ∨ X.env.scope.names.lookup x = some .local := by first | exact .inl rfl | exact .inr rfl | assumption) : Es X W (.Assign [.Name x pos'] e pos) ρ D :=
  ⟨fun σ H B L => (ps_set hN hi hx pe_w hs hf).toZ (h.run σ H B _ L fun v H' B' d s L' D' r => ⟨B', _, s, L'.put D', r⟩)⟩
theorem es_aug (i : Nat) {x : Str} {pos' : Pos} {dx : PyData} (hρ : ρ[i]? = some (.im dx)) (h : Ev X W e ρ fun d => match dx, d with | .int m, .int n => D.nx (ρ.set i (.im (.int (m + n)))) | _, _ => False) (hN : X.N.Nodup) (hi : X.N[i]? = some x := by rfl)
    (hx : Loc X.env.scope x := by first | exact .inl rfl | exact .inr rfl) (hf : X.fn x = true ∨ X.env.scope.names.lookup x = some .local := by first | exact .inl rfl | exact .inr rfl | assumption) : Es X W (.AugAssign (.Name x pos') .Add e pos) ρ D := by
  refine ⟨fun σ H B L => (ps_aug hN hi hx pe_w ip_add hf).toZ ?_⟩
  obtain ⟨v, h1, h2⟩ := L.at' i _ hρ
  refine ⟨v, h1, h.run σ H B _ L fun v' H' B' d s L' D' r => ?_⟩
  cases dx <;> cases d <;> first | exact r.elim | skip
  rename_i m n
  exact ⟨m, n, dp_int h2, dp_int D', B', _, s, L'.put (.int (m + n)), r⟩

/-! ### targets -/
def gW (X : Cx) (tg : Expr) : TG := fun v σ H Q => ∀ (pins : List (Addr × Obj)) (s : Shared) (u : Value), Inv X pins σ H s → RelV v u → wpAny (model X.prog X.w) X.A (assign tg X.env u) (fun _ s' => ∃ σ' H', Inv X pins σ' H' s' ∧ Q σ' H') X.xe s
def gWs (X : Cx) (ts : List Expr) : TGs := fun vs σ H Q => ∀ (pins : List (Addr × Obj)) (s : Shared) (us : List Value), Inv X pins σ H s → Vals vs us → wpAny (model X.prog X.w) X.A (assignInOrder ((assignEach ts X.env).map (·.2)) us) (fun _ s' => ∃ σ' H', Inv X pins σ' H' s' ∧ Q σ' H') X.xe s
theorem pg_w {tg : Expr} : PG X tg (gW X tg) := ⟨fun pins s σ H v u Q I r h => h pins s u I r⟩
theorem pgs_w {ts : List Expr} : PGs X ts (gWs X ts) := ⟨fun pins s σ H v u Q I r h => h pins s u I r⟩
theorem _root_.L2.PG.toZ {tg : Expr} {t : TG} (h : PG X tg t) {v σ H Q} (q : t v σ H Q) : gW X tg v σ H Q := fun pins s u I r => h.run pins s σ H v u Q I r q
theorem _root_.L2.PGs.toZ {ts : List Expr} {t : TGs} (h : PGs X ts t) {v σ H Q} (q : t v σ H Q) : gWs X ts v σ H Q := fun pins s u I r => h.run pins s σ H v u Q I r q
/-- data d goes to a target -/
structure Tg (X : Cx) (W : Wd) (tg : Expr) (d : PyData) (ρ : List Sl) (N : List Sl → Prop) : Prop where
  run : ∀ (v : V) (σ : L2.St) (H B : Hp) (Q : L2.St → Hp → Prop), Lay X.K W B H σ ρ → Dq X.K B v d → (∀ σ' H' B' ρ', Same B B' → Lay X.K W B' H' σ' ρ' → N ρ' → Q σ' H') → gW X tg v σ H Q
structure Tgs (X : Cx) (W : Wd) (ts : List Expr) (ds : List PyData) (ρ : List Sl) (N : List Sl → Prop) : Prop where
  run : ∀ (vs : List V) (σ : L2.St) (H B : Hp) (Q : L2.St → Hp → Prop), Lay X.K W B H σ ρ → DqAll X.K B vs ds → (∀ σ' H' B' ρ', Same B B' → Lay X.K W B' H' σ' ρ' → N ρ' → Q σ' H') → gWs X ts vs σ H Q
theorem tg_name (i : Nat) {x : Str} {d : PyData} {N : List Sl → Prop} (h : N (ρ.set i (.im d))) (hN : X.N.Nodup) (hi : X.N[i]? = some x := by rfl) (hx : Loc X.env.scope x := by first | exact .inl rfl | exact .inr rfl)
    (hf : X.fn x = true ∨ X.env.scope.names.lookup x = some .local := by first | exact .inl rfl | exact .inr rfl | assumption) : Tg X W (.Name x pos) d ρ N :=
  ⟨fun v σ H B Q L D' k => (pg_name hN hi hx hf).toZ (k _ _ _ _ (Same.refl _) (L.put D') h)⟩
theorem tgs_nil {N : List Sl → Prop} (h : N ρ) : Tgs X W [] [] ρ N := ⟨fun vs σ H B Q L D' k => pgs_nil.toZ (by cases D'; exact ⟨rfl, k _ _ _ _ (Same.refl _) L h⟩)⟩
theorem tgs_name (i : Nat) {x : Str} {d : PyData} {ds : List PyData} {N : List Sl → Prop} (h : Tgs X W es ds (ρ.set i (.im d)) N) (hN : X.N.Nodup) (hi : X.N[i]? = some x := by rfl) (hx : Loc X.env.scope x := by first | exact .inl rfl | exact .inr rfl)
    (hf : X.fn x = true ∨ X.env.scope.names.lookup x = some .local := by first | exact .inl rfl | exact .inr rfl | assumption)
    (hs : (assignEach (.Name x pos :: es) X.env).map (·.2) = assign (.Name x pos) X.env :: (assignEach es X.env).map (·.2) := by rfl) : Tgs X W (.Name x pos :: es) (d :: ds) ρ N := by
  refine ⟨fun vs σ H B Q L D' k => (pgs_cons (pg_name hN hi hx hf) pgs_w hs).toZ ?_⟩
  cases D' with
  | cons h1 h2 => exact ⟨_, _, rfl, h.run _ _ _ _ _ (L.put h1) h2 k⟩
theorem tg_tup {ds : List PyData} {kk : Nat} {N : List Sl → Prop} (hc : X.calm = true) (h : Tgs X W es ds ρ N) (hn : (assignEach es X.env).length = ds.length := by rfl) (hst : (assignEach es X.env).findIdx? (·.1) = none := by rfl) : Tg X W (.Tuple es kk pos) (.tuple ds) ρ N := by
  refine ⟨fun v σ H B Q L D' k => (pg_tup hc pgs_w hn hst).toZ ?_⟩
  obtain ⟨p, vs, rfl, h1, h2⟩ := dp_tup D'
  exact ⟨p, vs, rfl, seqT L.gr.sub h1, dpAll_len h2, h.run _ _ _ _ _ L h2 k⟩
/-- a, b = e -/
theorem es_asg {tg : Expr} (h : Ev X W e ρ fun d => Tg X W tg d ρ D.nx) (hs : swapsWithSole [tg] e pos.line X.env = pure false := by rfl) (hw : swappedStores [tg] e X.env = pure none := by rfl)
    (h1 : (assignEach [tg] X.env).map (·.2) = [assign tg X.env] := by rfl) : Es X W (.Assign [tg] e pos) ρ D := by
  refine ⟨fun σ H B L => (ps_asg pe_w pg_w hs hw h1).toZ ?_⟩
  exact h.run σ H B _ L fun v H' B' d s L' D' r => r.run v σ H' B' _ L' D' fun σ' H' B' ρ' s' L' q => ⟨B', ρ', s.trans s', L', q⟩
/-- a, b = x, y of plain locals -/
theorem es_par (i j : Nat) {x y : Str} {px py pt : Pos} {kt k2 pt2} (h : Ea X W [a, b] ρ fun ds => match ds with | [d, e] => D.nx ((ρ.set i (.im d)).set j (.im e)) | _ => False) (hc : X.calm = true) (hN : X.N.Nodup) (hi : X.N[i]? = some x := by rfl) (hj : X.N[j]? = some y := by rfl) (hij : i ≠ j := by decide)
    (hx : X.env.scope.names.lookup x = some .local := by rfl) (hy : X.env.scope.names.lookup y = some .local := by rfl)
    (hw : swappedStores [.Tuple [.Name x px, .Name y py] kt pt] (.Tuple [a, b] k2 pt2) X.env = pure (some [x, y]) := by rfl)
    (hs : swapsWithSole [.Tuple [.Name x px, .Name y py] kt pt] (.Tuple [a, b] k2 pt2) pos.line X.env = pure false := by rfl) :
    Es X W (.Assign [.Tuple [.Name x px, .Name y py] kt pt] (.Tuple [a, b] k2 pt2) pos) ρ D := by
  refine ⟨fun σ H B L => (ps_par hc hN hi hj hij hx hy pa_w hw hs).toZ ?_⟩
  refine h.run σ H B _ L fun vs H' B' ds s L' D' r => ?_
  cases D' with
  | nil => exact r.elim
  | cons h1 h2 =>
    cases h2 with
    | nil => exact r.elim
    | cons h3 h4 =>
      cases h4 with
      | nil => exact ⟨_, _, rfl, B', _, s, (L'.put h1).put h3, r⟩
      | cons _ _ => exact r.elim

/-! ### lists of the frame's own -/
theorem Lay.own (L : Lay X.K W B H σ ρ) {i : Nat} {p : Addr} {vs : List V} {ds : List PyData} (h1 : B p = none) (h2 : W.H0 p = none) (h3 : ∀ (j : Nat) (sl : Sl), ρ[j]? = some sl → sl.ow = true → σ[j]? ≠ some (some (.ref p))) (h4 : H p = some (.lst vs)) (h5 : DqAll X.K B vs ds) :
    Lay X.K W B H (σ.set i (some (.ref p))) (ρ.set i (.own ds)) := by
  refine ⟨L.gr, by simp [L.len], fun j sl e => ?_, fun j k s t hne e1 e2 o1 o2 => ?_⟩
  · by_cases hj : i = j
    · subst hj
      have hl : i < ρ.length := by
        have := (List.getElem?_eq_some_iff.mp e).1
        simpa using this
      rw [List.getElem?_set_self hl] at e
      cases e
      rw [List.getElem?_set_self (by rw [L.len]; exact hl)]
      exact ⟨p, vs, rfl, h1, h2, h4, h5⟩
    · rw [List.getElem?_set_ne hj] at e ⊢
      exact L.at' j sl e
  · by_cases hj : i = j
    · subst hj
      have hl : i < ρ.length := by
        have := (List.getElem?_eq_some_iff.mp e1).1
        simpa using this
      rw [List.getElem?_set_self (by rw [L.len]; exact hl)]
      rw [List.getElem?_set_ne hne] at e2 ⊢
      exact fun q => h3 k t e2 o2 q.symm
    · by_cases hk : i = k
      · subst hk
        have hl : i < ρ.length := by
          have := (List.getElem?_eq_some_iff.mp e2).1
          simpa using this
        rw [List.getElem?_set_self (by rw [L.len]; exact hl)]
        rw [List.getElem?_set_ne hj] at e1 ⊢
        exact h3 j s e1 o1
      · rw [List.getElem?_set_ne hj] at e1 ⊢
        rw [List.getElem?_set_ne hk] at e2 ⊢
        exact L.dis j k s t hne e1 e2 o1 o2
/-- an own list's content changes -/
theorem Lay.chg (L : Lay X.K W B H σ ρ) {i : Nat} {p : Addr} {vs : List V} {ds ds0 : List PyData} (hρ : ρ[i]? = some (.own ds0)) (hσ : σ[i]? = some (some (.ref p))) (h5 : DqAll X.K B vs ds) : Lay X.K W B (upd H p (.lst vs)) σ (ρ.set i (.own ds)) := by
  obtain ⟨p', vs0, e1, e2, e3, e4, e5⟩ := L.at' i _ hρ
  rw [hσ] at e1
  cases e1
  have hl : i < ρ.length := (List.getElem?_eq_some_iff.mp hρ).1
  have hT : ∀ T, W.T = some T → T ≠ p := fun T h q => by
    subst q
    exact (L.gr.tp T h).1 e3
  refine ⟨⟨same_right L.gr.sub e2, L.gr.base, L.gr.new, fun a o h1 h2 => ?_, fun T h => ?_⟩, by simp [L.len], fun j sl e => ?_, fun j k s t hne f1 f2 o1 o2 => ?_⟩
  · have ha : a ≠ p := by
      rintro rfl
      rw [e3] at h1
      cases h1
    rw [upd_ne ha]
    exact L.gr.keep a o h1 h2
  · obtain ⟨t1, t2⟩ := L.gr.tp T h
    exact ⟨t1, t2.mono (Same.refl _) t2.1 fun o ho => by rw [upd_ne (hT T h)]; exact ho⟩
  · by_cases hj : i = j
    · subst hj
      rw [List.getElem?_set_self hl] at e
      cases e
      exact ⟨p, vs, hσ, e2, e3, upd_same, h5⟩
    · rw [List.getElem?_set_ne hj] at e
      refine (L.at' j sl e).grow (Same.refl _) fun a o g1 g2 g3 _ g5 => ⟨g3, ?_⟩
      have ha : a ≠ p := by
        rintro rfl
        exact L.dis i j _ sl hj hρ e rfl g2 (hσ.trans g1.symm)
      rw [upd_ne ha]
      exact g5
  · have q1 : ∃ s', ρ[j]? = some s' ∧ s'.ow = true := by
      by_cases hj : i = j
      · subst hj
        exact ⟨_, hρ, rfl⟩
      · rw [List.getElem?_set_ne hj] at f1
        exact ⟨s, f1, o1⟩
    have q2 : ∃ s', ρ[k]? = some s' ∧ s'.ow = true := by
      by_cases hj : i = k
      · subst hj
        exact ⟨_, hρ, rfl⟩
      · rw [List.getElem?_set_ne hj] at f2
        exact ⟨t, f2, o2⟩
    obtain ⟨s', g1, g2⟩ := q1
    obtain ⟨t', g3, g4⟩ := q2
    exact L.dis j k s' t' hne g1 g3 g2 g4
/-- an own list is plain from now on -/
theorem Lay.frz (L : Lay X.K W B H σ ρ) {i : Nat} {ds : List PyData} (hρ : ρ[i]? = some (.own ds)) : ∃ B', Same B B' ∧ Lay X.K W B' H σ (ρ.set i (.im (.list ds))) := by
  obtain ⟨p, vs, e1, e2, e3, e4, e5⟩ := L.at' i _ hρ
  have hl : i < ρ.length := (List.getElem?_eq_some_iff.mp hρ).1
  have s : Same B (upd B p (.lst vs)) := same_new e2
  have hT : ∀ T, W.T = some T → T ≠ p := fun T h q => by
    subst q
    exact (L.gr.tp T h).1 e3
  refine ⟨upd B p (.lst vs), s, ⟨⟨fun b o h => ?_, L.gr.base.trans s, fun a h1 h2 => ?_, L.gr.keep, fun T h => ?_⟩, by simp [L.len], fun j sl e => ?_, fun j k s t hne f1 f2 o1 o2 => ?_⟩⟩
  · by_cases hb : b = p
    · subst hb
      rw [upd_same] at h
      rw [e4]
      exact h
    · rw [upd_ne hb] at h
      exact L.gr.sub b o h
  · have ha : a ≠ p := by
      rintro rfl
      exact h1 e3
    rw [upd_ne ha]
    exact L.gr.new a h1 h2
  · obtain ⟨t1, t2⟩ := L.gr.tp T h
    exact ⟨t1, t2.mono s (by rw [upd_ne (hT T h)]; exact t2.1) fun o ho => ho⟩
  · by_cases hj : i = j
    · subst hj
      rw [List.getElem?_set_self hl] at e
      cases e
      exact ⟨.ref p, e1, .lst upd_same (dpAllMono s _ _ e5)⟩
    · rw [List.getElem?_set_ne hj] at e
      refine (L.at' j sl e).grow s fun a o g1 g2 g3 _ g5 => ?_
      have ha : a ≠ p := by
        rintro rfl
        exact L.dis i j _ sl hj hρ e rfl g2 (e1.trans g1.symm)
      rw [upd_ne ha]
      exact ⟨g3, g5⟩
  · have q1 : j ≠ i := by
      rintro rfl
      rw [List.getElem?_set_self hl] at f1
      cases f1
      cases o1
    have q2 : k ≠ i := by
      rintro rfl
      rw [List.getElem?_set_self hl] at f2
      cases f2
      cases o2
    rw [List.getElem?_set_ne q1.symm] at f1
    rw [List.getElem?_set_ne q2.symm] at f2
    exact L.dis j k s t hne f1 f2 o1 o2
/-- from here on the list in slot i is plain -/
theorem ess_frz (i : Nat) {ds : List PyData} (hρ : ρ[i]? = some (.own ds)) (h : Ess X W sts (ρ.set i (.im (.list ds))) D) : Ess X W sts ρ D := by
  refine ⟨fun σ H B L => ?_⟩
  obtain ⟨B', s, L'⟩ := L.frz hρ
  exact tWss.back s (h.run σ H B' L')
theorem es_frz (i : Nat) {ds : List PyData} (hρ : ρ[i]? = some (.own ds)) (h : Es X W st (ρ.set i (.im (.list ds))) D) : Es X W st ρ D := by
  refine ⟨fun σ H B L => ?_⟩
  obtain ⟨B', s, L'⟩ := L.frz hρ
  exact tWs.back s (h.run σ H B' L')
/-- a fresh list as a value -/
theorem ev_el {R : PyData → Prop} (h : El X W e ρ fun ds => R (.list ds)) : Ev X W e ρ R := by
  refine ⟨fun σ H B Q L k => h.run σ H B Q L fun p vs H' B' ds s L' h1 h2 h3 h4 h5 r => ?_⟩
  have s' : Same B' (upd B' p (.lst vs)) := same_new h1
  refine k _ H' (upd B' p (.lst vs)) (.list ds) (s.trans s') ⟨⟨fun b o q => ?_, L'.gr.base.trans s', fun a q1 q2 => ?_, L'.gr.keep, fun T q => ?_⟩, L'.len, fun i sl q => (L'.at' i sl q).grow s' fun a o g1 g2 g3 _ g5 => ?_, L'.dis⟩ (.lst upd_same (dpAllMono s' _ _ h5)) r
  · by_cases hb : b = p
    · subst hb
      rw [upd_same] at q
      rw [h4]
      exact q
    · rw [upd_ne hb] at q
      exact L'.gr.sub b o q
  · have ha : a ≠ p := by
      rintro rfl
      exact q1 h2
    rw [upd_ne ha]
    exact L'.gr.new a q1 q2
  · obtain ⟨t1, t2⟩ := L'.gr.tp T q
    have ht : T ≠ p := by
      rintro rfl
      exact t1 h2
    exact ⟨t1, t2.mono s' (by rw [upd_ne ht]; exact t2.1) fun o ho => ho⟩
  · have ha : a ≠ p := by
      rintro rfl
      exact h3 i sl q g2 g1
    rw [upd_ne ha]
    exact ⟨g3, g5⟩
theorem fresh_own {K : PySem.W.Frag} {B H : Hp} {σ : L2.St} (L : Lay K W B H σ ρ) {p : Addr} (hp : H p = none) (ds : List PyData) (vs : List V) (h5 : DqAll K B vs ds) :
    Lay K W B (upd H p (.lst vs)) σ ρ ∧ B p = none ∧ W.H0 p = none ∧ (∀ (j : Nat) (sl : Sl), ρ[j]? = some sl → sl.ow = true → σ[j]? ≠ some (some (.ref p))) ∧ (upd H p (.lst vs)) p = some (.lst vs) := by
  have bp : B p = none := Same.free L.gr.sub hp
  have h0 : W.H0 p = none := by
    cases q : W.H0 p with
    | none => rfl
    | some u =>
      by_cases ht : W.T = some p
      · obtain ⟨_, t⟩ := L.gr.tp p ht
        obtain ⟨_, i, c, e, _⟩ := t
        rw [e] at hp
        cases hp
      · have := L.gr.keep p u q ht
        rw [hp] at this
        cases this
  have np : ∀ a u, H a = some u → a ≠ p := fun a u e => ne_of_none e hp
  refine ⟨⟨⟨same_right L.gr.sub bp, L.gr.base, L.gr.new, fun a o h1 h2 => ?_, fun T h => ?_⟩, L.len, fun i sl e => (L.at' i sl e).grow (Same.refl _) fun a u _ _ h2 _ h4 => ?_, L.dis⟩, bp, h0, fun j sl e1 e2 q => ?_, upd_same⟩
  · have := L.gr.keep a o h1 h2
    rw [upd_ne (np a o this)]
    exact this
  · obtain ⟨t1, t2⟩ := L.gr.tp T h
    obtain ⟨_, i, c, e, _⟩ := id t2
    exact ⟨t1, t2.mono (Same.refl _) t2.1 fun o ho => by rw [upd_ne (np T _ e)]; exact ho⟩
  · rw [upd_ne (np a u h4)]
    exact ⟨h2, h4⟩
  · obtain ⟨a, o, g1, g2, g3, g4, _⟩ := (L.at' j sl e1).owner e2
    rw [q] at g1
    cases g1
    rw [hp] at g4
    cases g4
theorem el_lst {R : List PyData → Prop} (h : Ea X W es ρ fun ds => ds.length ≤ sizeLine ∧ R ds) : El X W (.List es pos) ρ R := by
  refine ⟨fun σ H B Q L k => (pe_lst pa_w).toZ ?_⟩
  refine h.run σ H B _ L fun vs H1 B1 ds s1 L1 D1 h2 => ⟨by rw [dpAll_len D1]; exact h2.1, fun p hp => ?_⟩
  obtain ⟨L', q1, q2, q3, q4⟩ := fresh_own L1 hp ds vs D1
  exact k p vs _ B1 ds s1 L' q1 q2 q3 q4 D1 h2.2
/-- x = a fresh list -/
theorem es_setL (i : Nat) {x : Str} {pos' : Pos} (h : El X W e ρ fun ds => D.nx (ρ.set i (.own ds))) (hN : X.N.Nodup) (hi : X.N[i]? = some x := by rfl) (hx : Loc X.env.scope x := by first | exact .inl rfl | exact .inr rfl) (hs : swapsWith e (some (.Name x pos')) pos.line X.env = pure false := by rfl)
    (hf : X.fn x = true ∨ X.env.scope.names.lookup x = some .local := by first | exact .inl rfl | exact .inr rfl | assumption) : Es X W (.Assign [.Name x pos'] e pos) ρ D :=
  ⟨fun σ H B L => (ps_set hN hi hx pe_w hs hf).toZ (h.run σ H B _ L fun p vs H' B' ds s L' h1 h2 h3 h4 h5 r => ⟨B', _, s, L'.own h1 h2 h3 h4 h5, r⟩)⟩
/-- x.append(e) -/
theorem es_append (i : Nat) {x : Str} {px pa cp : Pos} {ds : List PyData} (hρ : ρ[i]? = some (.own ds)) (h : Ev X W e ρ fun d => ds.length < sizeLine ∧ D.nx (ρ.set i (.own (ds ++ [d])))) (hN : X.N[i]? = some x := by rfl) (hv : Vis X.env.scope x := by first | exact Or.inl rfl | exact Or.inr (Or.inl rfl) | exact Or.inr (Or.inr rfl))
    (hs : swapsWith (.Call (.Attribute (.Name x px) "append" pa) [e] [] cp) none pos.line X.env = pure false := by rfl) (hd : (x == ("__debug__" : Str)) = false := by decide) (hcd : (x == ("__classdict__" : Str)) = false := by decide)
    (hbase : attributeBase (.Name x px) "append" X.env (eval (.Name x px) X.env) = eval (.Name x px) X.env := by rfl)
    (hfew : ((backTo cp (starEach [e] X.env)).all (fun x => !x.1) && (backToKw cp (keywordEach [] X.env)).all (fun x => x.1.isSome) && decide (([e] : List Expr).length + ([] : List Keyword).length + (if ([] : List Keyword).isEmpty then 0 else 1) < 30)) = true := by rfl)
    (hline : (pa.endLine == cp.line) = true := by rfl) (hse : starEach [e] X.env = (false, eval e X.env) :: starEach [] X.env := by rfl) (hpl : (backTo cp (starEach [] X.env)).any (·.1) = false := by rfl) :
    Es X W (.Expr (.Call (.Attribute (.Name x px) "append" pa) [e] [] cp) pos) ρ D := by
  refine ⟨fun σ H B L => (ps_expr (pe_bm PySem.F.plainAttrs_list PySem.F.slot_list_append PySem.F.type_list_append mt_append (pe_var hN hv hd hcd) (pa_cons pe_w pa_nil hse) hbase hfew hline hse hpl) hs).toZ ?_⟩
  obtain ⟨p, vs, e1, e2, e3, e4, e5⟩ := L.at' i _ hρ
  refine ⟨.ref p, e1, .inl ⟨rfl, vs, SqL.of e4⟩, ?_⟩
  refine h.run σ H B _ L fun v H2 B2 d s2 L2 D2 h3 => ?_
  obtain ⟨p', vs', f1, f2, f3, f4, f5⟩ := L2.at' i _ hρ
  rw [e1] at f1
  cases f1
  exact ⟨p, vs', v, rfl, rfl, f4, by rw [dpAll_len f5]; exact h3.1, B2, _, s2, L2.chg hρ e1 (dpAll_app f5 (.cons D2 .nil)), h3.2⟩
/-- x[k] = v of an own list -/
theorem es_sub (i : Nat) {x : Str} {px p2 : Pos} {ds : List PyData} (hρ : ρ[i]? = some (.own ds)) (h : Ev X W e ρ fun d => Ev X W b ρ fun y => match y with | .int z => ∃ j, ixN ds.length z = some j ∧ D.nx (ρ.set i (.own (ds.set j d))) | _ => False) (hN : X.N[i]? = some x := by rfl)
    (hv : Vis X.env.scope x := by first | exact Or.inl rfl | exact Or.inr (Or.inl rfl) | exact Or.inr (Or.inr rfl)) (hd : (x == ("__debug__" : Str)) = false := by decide) (hcd : (x == ("__classdict__" : Str)) = false := by decide)
    (ha : ∀ v, assign (.Subscript (.Name x px) b p2) X.env v = (do
      let ov ← holding [v] (eval (.Name x px) X.env)
      let iv ← holding [v, ov] (eval b X.env)
      standAt p2
      holding [v, ov, iv] (setItem ov iv v)
      release [v, ov, iv] []) := by intro _; rfl) (hs : swapsWithSole [.Subscript (.Name x px) b p2] e pos.line X.env = pure false := by rfl) (hw : swappedStores [.Subscript (.Name x px) b p2] e X.env = pure none := by rfl)
    (h1 : (assignEach [.Subscript (.Name x px) b p2] X.env).map (·.2) = [assign (.Subscript (.Name x px) b p2) X.env] := by rfl) : Es X W (.Assign [.Subscript (.Name x px) b p2] e pos) ρ D := by
  refine ⟨fun σ H B L => (ps_asg pe_w (pg_sub (pe_var hN hv hd hcd) pe_w set_list ha) hs hw h1).toZ ?_⟩
  refine h.run σ H B _ L fun v H1 B1 d s1 L1 D1 h2 => ?_
  obtain ⟨p, vs, e1, e2, e3, e4, e5⟩ := L1.at' i _ hρ
  refine ⟨.ref p, e1, ?_⟩
  refine h2.run σ H1 B1 _ L1 fun u H2 B2 y s2 L2 D2 h3 => ?_
  cases y <;> first | exact h3.elim | skip
  rename_i z
  obtain ⟨j, hj, hn⟩ := h3
  obtain ⟨p', vs', f1, f2, f3, f4, f5⟩ := L2.at' i _ hρ
  rw [e1] at f1
  cases f1
  exact ⟨p, vs', z, j, rfl, dp_int D2, f4, by rw [dpAll_len f5]; exact hj, B2, _, s1.trans s2, L2.chg hρ e1 (dpAll_set (dpMono s2 _ _ D1) j f5), hn⟩

/-! ### while -/
theorem es_while (P : Nat → List Sl → Prop) (m : Nat) (h0 : P m ρ) (hp : PassesOwn (model X.prog X.w) X.A X.env X.xe)
    (h : ∀ m ρ, P m ρ → Et X W c ρ fun k => (k = true → Ess X W body ρ { nx := fun r => ∃ m', m' < m ∧ P m' r, rt := D.rt, bk := D.nx, ct := fun r => ∃ m', m' < m ∧ P m' r }) ∧ (k = false → D.nx ρ)) : Es X W (.While c body [] pos) ρ D := by
  refine ⟨fun σ H B L => (ps_while hp pt_w pss_w).toZ ?_⟩
  refine ⟨fun m σ H => ∃ B' ρ, Same B B' ∧ Lay X.K W B' H σ ρ ∧ P m ρ, ⟨m, B, ρ, Same.refl _, L, h0⟩, ?_⟩
  rintro m σ H ⟨B', ρ, sB, L, hP⟩
  refine (h m ρ hP).run σ H B' _ L fun k H1 B1 s L1 q => ?_
  cases k with
  | true =>
    rw [if_pos rfl]
    refine ⟨fun σ' H' => ∃ B' ρ, Same B B' ∧ Lay X.K W B' H' σ' ρ ∧ ∃ m', m' < m ∧ P m' ρ, fun σ' H' ⟨B', ρ, s', L, m', hm, hP⟩ => ⟨m', hm, B', ρ, s', L, hP⟩, ?_⟩
    exact tWss.back (sB.trans s) ((q.1 rfl).run σ H1 B1 L1)
  | false =>
    rw [if_neg Bool.false_ne_true]
    exact ⟨B1, ρ, sB.trans s, L1, q.2 rfl⟩

/-! ### what is walked -/
structure WalkZ (K : PySem.W.Frag) (J : It) (ds : List PyData) (B : Hp) : Prop where
  go : ∀ i B' H', Same B B' → Same B' H' → i < ds.length → J.go i H'
  stop : ∀ B' H', Same B B' → Same B' H' → J.stop ds.length H'
  yld : ∀ i B' H' x H'' (W : Wd) (σ : L2.St) (ρ : List Sl), Same B B' → Lay K W B' H' σ ρ → J.yld i H' x H'' → i < ds.length → ∃ d B'', ds[i]? = some d ∧ Same B' B'' ∧ Lay K W B'' H'' σ ρ ∧ Dq K B'' x d ∧ (∀ b o, H' b = some o → H'' b = some o) ∧ ∀ b o, H' b = some o → B' b = none → B'' b = none
def iW (X : Cx) (tg iter : Expr) : TI := fun σ H R => ∀ (pins : List (Addr × Obj)) (s : Shared), Inv X pins σ H s → wpAny (model X.prog X.w) X.A (eval iter X.env) (fun v s1 => wpAny (model X.prog X.w) X.A (pyIter v) (PIE X pins σ tg R) X.xe s1) X.xe s
theorem pi_w {tg iter : Expr} : PI X tg iter (iW X tg iter) := ⟨fun pins s σ H R I h => h pins s I⟩
theorem _root_.L2.PI.toZ {tg iter : Expr} {t : TI} (h : PI X tg iter t) {σ H R} (q : t σ H R) : iW X tg iter σ H R := fun pins s I => h.run pins s σ H R I q
structure Ei (X : Cx) (W : Wd) (tg iter : Expr) (ρ : List Sl) (R : List PyData → Prop) : Prop where
  run : ∀ (σ : L2.St) (H B : Hp) (Q : It → Hp → Prop), Lay X.K W B H σ ρ → (∀ J H' B' ds, Same B B' → Lay X.K W B' H' σ ρ → WalkZ X.K J ds B' → R ds → Q J H') → iW X tg iter σ H Q
theorem walk_list {K : PySem.W.Frag} {p : Addr} {vs : List V} {ds : List PyData} {B : Hp} (h : B p = some (.lst vs)) (hd : DqAll K B vs ds) : WalkZ K (Itl K p) ds B where
  go := fun i B' H' s s' hi => by
    rw [← dpAll_len hd] at hi
    exact ⟨vs, vs[i], SqL.of (s' _ _ (s _ _ h)), by simp [hi]⟩
  stop := fun B' H' s s' => ⟨vs, SqL.of (s' _ _ (s _ _ h)), by rw [dpAll_len hd]; exact Nat.le_refl _⟩
  yld := fun i B' H' x H'' W σ ρ s L hy hi => by
    obtain ⟨e, hx⟩ := hy
    subst e
    have hx := hx vs (SqL.of (L.gr.sub _ _ (s _ _ h)))
    obtain ⟨v, h1, h2⟩ := dpAll_get hd (List.getElem?_eq_getElem hi)
    rw [hx] at h1
    cases h1
    exact ⟨_, B', List.getElem?_eq_getElem hi, Same.refl _, L, dpMono s _ _ h2, fun _ _ q => q, fun _ _ _ q => q⟩
theorem walk_tup {K : PySem.W.Frag} {p : Addr} {vs : List V} {ds : List PyData} {B : Hp} (h : SqT K B p vs) (hd : DqAll K B vs ds) : WalkZ K (Itt K p) ds B where
  go := fun i B' H' s s' hi => by
    rw [← dpAll_len hd] at hi
    exact ⟨vs, vs[i], seqT (s.trans s') h, by simp [hi]⟩
  stop := fun B' H' s s' => ⟨vs, seqT (s.trans s') h, by rw [dpAll_len hd]; exact Nat.le_refl _⟩
  yld := fun i B' H' x H'' W σ ρ s L hy hi => by
    obtain ⟨e, hx⟩ := hy
    subst e
    have hx := hx vs (seqT (s.trans L.gr.sub) h)
    obtain ⟨v, h1, h2⟩ := dpAll_get hd (List.getElem?_eq_getElem hi)
    rw [hx] at h1
    cases h1
    exact ⟨_, B', List.getElem?_eq_getElem hi, Same.refl _, L, dpMono s _ _ h2, fun _ _ q => q, fun _ _ _ q => q⟩
/-- lo, lo + 1, .. -/
def rngD (lo : Int) (n : Nat) : List PyData := (List.range n).map fun i => .int (lo + (i : Nat))
theorem rngD_len {lo : Int} {n : Nat} : (rngD lo n).length = n := by simp [rngD]
theorem rngD_get {lo : Int} {n i : Nat} (h : i < n) : (rngD lo n)[i]? = some (.int (lo + (i : Nat))) := by simp [rngD, h]
theorem walk_rng {K : PySem.W.Frag} {lo : Int} {n : Nat} {B : Hp} : WalkZ K (Itr lo n) (rngD lo n) B where
  go := fun i B' H' s s' hi => by
    rw [rngD_len] at hi
    exact hi
  stop := fun B' H' s s' => by
    show n ≤ (rngD lo n).length
    rw [rngD_len]
    exact Nat.le_refl _
  yld := fun i B' H' x H'' W σ ρ s L hy hi => by
    obtain ⟨e, hx⟩ := hy
    subst e
    rw [rngD_len] at hi
    exact ⟨_, B', rngD_get hi, Same.refl _, L, by rw [hx]; exact .int _, fun _ _ q => q, fun _ _ _ q => q⟩
theorem ei_list {tg : Expr} {R : List PyData → Prop} (h : Ev X W e ρ fun d => match d with | .list ds => R ds | _ => False) : Ei X W tg e ρ R := by
  refine ⟨fun σ H B Q L k => (pi_list pe_w).toZ ?_⟩
  refine h.run σ H B _ L fun v H1 B1 d s1 L1 D1 h2 => ?_
  cases d <;> first | exact h2.elim | skip
  obtain ⟨p, vs, rfl, h3, h4⟩ := dp_list D1
  exact ⟨p, rfl, ⟨vs, SqL.of (L1.gr.sub _ _ h3)⟩, k _ H1 B1 _ s1 L1 (walk_list h3 h4) h2⟩
theorem ei_tup {tg : Expr} {R : List PyData → Prop} (h : Ev X W e ρ fun d => match d with | .tuple ds => R ds | _ => False) : Ei X W tg e ρ R := by
  refine ⟨fun σ H B Q L k => (pi_tup pe_w).toZ ?_⟩
  refine h.run σ H B _ L fun v H1 B1 d s1 L1 D1 h2 => ?_
  cases d <;> first | exact h2.elim | skip
  obtain ⟨p, vs, rfl, h3, h4⟩ := dp_tup D1
  exact ⟨p, rfl, ⟨vs, seqT L1.gr.sub h3⟩, k _ H1 B1 _ s1 L1 (walk_tup h3 h4) h2⟩
theorem ei_range1 {tg : Expr} {p : Pos} {R : List PyData → Prop} (hm : X.mg "range" = none) (h : Ev X W a ρ fun d => match d with | .int j => -(2 ^ 62) ≤ j ∧ j < 2 ^ 62 ∧ R (rngD 0 j.toNat) | _ => False) (hg : Gl X "range" := by rfl)
    (hs : starEach [a] X.env = [(false, eval a X.env)] := by rfl) : Ei X W tg (.Call (.Name "range" p) [a] [] pos) ρ R := by
  refine ⟨fun σ H B Q L k => (pi_range1 hg hm (pa_cons pe_w pa_nil hs) hs).toZ ?_⟩
  refine h.run σ H B _ L fun v H1 B1 d s1 L1 D1 h2 => ?_
  cases d <;> first | exact h2.elim | skip
  rename_i j
  cases dp_int D1
  exact ⟨j, rfl, h2.1, h2.2.1, k _ H1 B1 _ s1 L1 walk_rng h2.2.2⟩
theorem ei_range2 {tg : Expr} {p : Pos} {R : List PyData → Prop} (hm : X.mg "range" = none)
    (h : Ev X W a ρ fun d => Ev X W b ρ fun d' => match d, d' with | .int i, .int j => (-(2 ^ 62) ≤ i ∧ i < 2 ^ 62 ∧ -(2 ^ 62) ≤ j ∧ j < 2 ^ 62) ∧ R (rngD i (j - i).toNat) | _, _ => False) (hg : Gl X "range" := by rfl)
    (hs : starEach [a, b] X.env = [(false, eval a X.env), (false, eval b X.env)] := by rfl) (hs2 : starEach [b] X.env = [(false, eval b X.env)] := by rfl) (hs3 : starEach [a, b] X.env = (false, eval a X.env) :: starEach [b] X.env := by rfl) : Ei X W tg (.Call (.Name "range" p) [a, b] [] pos) ρ R := by
  refine ⟨fun σ H B Q L k => (pi_range2 hg hm (pa_cons pe_w (pa_cons pe_w pa_nil hs2) hs3) hs hs2).toZ ?_⟩
  refine h.run σ H B _ L fun v H1 B1 d s1 L1 D1 h2 => ?_
  refine h2.run σ H1 B1 _ L1 fun u H2 B2 d' s2 L2 D2 h3 => ?_
  cases d <;> cases d' <;> first | exact h3.elim | skip
  rename_i i j
  cases dp_int D1
  cases dp_int D2
  exact ⟨i, j, rfl, h3.1, k _ H2 B2 _ (s1.trans s2) L2 walk_rng h3.2⟩
theorem es_for {tg iter : Expr} (hp : PassesOwn (model X.prog X.w) X.A X.env X.xe) (hc : X.calm = true)
    (h : Ei X W tg iter ρ fun ds => ∃ P : Nat → List Sl → Prop, P 0 ρ ∧ (∀ i d ρ1, ds[i]? = some d → P i ρ1 → Tg X W tg d ρ1 fun ρ2 => Ess X W body ρ2 { nx := P (i + 1), rt := D.rt, bk := D.nx, ct := P (i + 1) }) ∧ ∀ ρ1, P ds.length ρ1 → D.nx ρ1)
    (hs : ∀ x, foldedSetIterable iter X.env x = pure x := by intro _; rfl) : Es X W (.For tg iter body [] pos) ρ D := by
  refine ⟨fun σ H B L => (ps_for hp hc pi_w pg_w pss_w hs).toZ ?_⟩
  refine h.run σ H B _ L fun J H1 B1 ds s1 L1 wk hP => ?_
  obtain ⟨P, p0, turn, fin⟩ := hP
  refine ⟨fun i m σ H => m = ds.length - i ∧ i ≤ ds.length ∧ ∃ B' ρ, Same B1 B' ∧ Lay X.K W B' H σ ρ ∧ P i ρ, ⟨_, rfl, Nat.zero_le _, B1, ρ, Same.refl _, L1, p0⟩, ?_⟩
  rintro i m σ H ⟨rfl, hi, B', ρ1, sB, L, hPi⟩
  by_cases hlt : i < ds.length
  · refine .inr ⟨wk.go i B' H sB L.gr.sub hlt, fun σ' H' => ∃ B'' ρ', Same B B'' ∧ Lay X.K W B'' H' σ' ρ' ∧ Same B1 B'' ∧ P (i + 1) ρ', fun σ' H' ⟨B'', ρ', _, L', sB', hP'⟩ => ⟨ds.length - (i + 1), by omega, rfl, hlt, B'', ρ', sB', L', hP'⟩, fun x H' hy => ?_⟩
    obtain ⟨d, B'', hd, s'', L'', Dx, _⟩ := wk.yld i B' H x H' W σ ρ1 sB L hy hlt
    refine (turn i d ρ1 hd hPi).run x σ H' B'' _ L'' Dx fun σ2 H2 B2 ρ2 s2 L2 hb => ?_
    intro pins s0 I
    have sb : Same B1 B2 := (sB.trans s'').trans s2
    refine thn (hb.run σ2 H2 B2 L2 pins s0 I) fun f s' q => ?_
    cases f with
    | next => obtain ⟨σ', H', I', B3, ρ', s3, L3, q⟩ := q; exact ⟨σ', H', I', B3, ρ', s1.trans (sb.trans s3), L3, sb.trans s3, q⟩
    | brk => obtain ⟨σ', H', I', B3, ρ', s3, L3, q⟩ := q; exact ⟨σ', H', I', B3, ρ', s1.trans (sb.trans s3), L3, q⟩
    | cont => obtain ⟨σ', H', I', B3, ρ', s3, L3, q⟩ := q; exact ⟨σ', H', I', B3, ρ', s1.trans (sb.trans s3), L3, sb.trans s3, q⟩
    | ret u => exact q
  · have e : i = ds.length := by omega
    subst e
    exact .inl ⟨wk.stop B' H sB L.gr.sub, B', ρ1, s1.trans sB, L, fin ρ1 hPi⟩
end
end Z

namespace Z
open PySem PySem.Spec PyProof.Rows L2

/-! ### comprehensions -/
@[reducible] def Sl.lent : Sl → Sl
  | .own _ => .no
  | .dic _ => .no
  | .dct _ => .no
  | .obj a dx C fs => .obk a dx C fs
  | s => s
def disown (ρ : List Sl) : List Sl := ρ.map Sl.lent
def setZ (ρ : List Sl) : List Nat → List PyData → List Sl
  | j :: js, d :: ds => setZ (ρ.set j (.im d)) js ds
  | _, _ => ρ
def setV (σ : L2.St) : List Nat → List V → L2.St
  | j :: js, v :: vs => setV (σ.set j (some v)) js vs
  | _, _ => σ
def wipeZ (ρ : List Sl) : List Nat → List Sl
  | [] => ρ
  | v :: vs => (wipeZ ρ vs).set v .no
theorem setV_len : ∀ (js : List Nat) (vs : List V) (σ : L2.St), (setV σ js vs).length = σ.length
  | [], _, _ => by unfold setV; rfl
  | _ :: _, [], _ => by unfold setV; rfl
  | j :: js, v :: vs, σ => by unfold setV; rw [setV_len js vs]; simp
theorem setV_out : ∀ (js : List Nat) (vs : List V) (σ : L2.St) (k : Nat), k ∉ js → (setV σ js vs)[k]? = σ[k]?
  | [], _, _, _, _ => by unfold setV; rfl
  | _ :: _, [], _, _, _ => by unfold setV; rfl
  | j :: js, v :: vs, σ, k, h => by
    unfold setV
    rw [setV_out js vs _ k (fun z => h (List.mem_cons_of_mem _ z)), List.getElem?_set_ne (fun z => h (by rw [z]; exact List.mem_cons_self))]
theorem wipe_out : ∀ (js : List Nat) (σ : L2.St) (k : Nat), k ∉ js → (wipe σ js)[k]? = σ[k]?
  | [], _, _, _ => rfl
  | j :: js, σ, k, h => by
    unfold wipe
    rw [List.getElem?_set_ne (fun z => h (by rw [z]; exact List.mem_cons_self)), wipe_out js σ k fun z => h (List.mem_cons_of_mem _ z)]
theorem wipe_in : ∀ (js : List Nat) (σ : L2.St) (k : Nat), k ∈ js → k < σ.length → (wipe σ js)[k]? = some none
  | j :: js, σ, k, h, hl => by
    unfold wipe
    by_cases e : j = k
    · subst e
      rw [List.getElem?_set_self (by rw [wipe_length]; exact hl)]
    · rw [List.getElem?_set_ne e]
      rcases List.mem_cons.mp h with z | z
      · exact absurd z.symm e
      · exact wipe_in js σ k z hl
theorem wipe_setV (js : List Nat) (vs : List V) (σ : L2.St) : wipe (setV (wipe σ js) js vs) js = wipe σ js := by
  apply List.ext_getElem?
  intro k
  have el : (setV (wipe σ js) js vs).length = σ.length := by rw [setV_len, wipe_length]
  by_cases h : k ∈ js
  · by_cases hl : k < σ.length
    · rw [wipe_in js _ k h (by rw [el]; exact hl), wipe_in js _ k h hl]
    · rw [List.getElem?_eq_none (by rw [wipe_length, el]; omega), List.getElem?_eq_none (by rw [wipe_length]; omega)]
  · rw [wipe_out js _ k h, setV_out js _ _ k h]
section
variable {K : PySem.W.Frag} {W : Wd} {B B' H H' : Hp} {σ : L2.St} {ρ : List Sl}
theorem Lay.wipes (L : Lay K W B H σ ρ) : ∀ js : List Nat, Lay K W B H (wipe σ js) (wipeZ ρ js)
  | [] => L
  | j :: js => (L.wipes js).wipe1 j
theorem Lay.sets : ∀ {js : List Nat} {ds : List PyData} {vs : List V} {σ : L2.St} {ρ : List Sl}, Lay K W B H σ ρ → DqAll K B vs ds → Lay K W B H (setV σ js vs) (setZ ρ js ds)
  | [], _, _, _, _, L, _ => by unfold setV setZ; exact L
  | j :: js, [], _, _, _, L, h => by cases h; unfold setV setZ; exact L
  | j :: js, d :: ds, _, σ, ρ, L, h => by
    cases h with
    | cons h1 h2 =>
      unfold setV setZ
      exact Lay.sets (L.put h1) h2
/-- the frame seen by code that owns nothing of it -/
theorem Lay.loan (L : Lay K W B H σ ρ) : Lay K ⟨W.T, W.ns, B, H⟩ B H σ (disown ρ) := by
  refine ⟨Gr.refl L.gr.sub fun a h => (L.gr.tp a h).2, by simp [disown, L.len], fun i sl e => ?_, fun i j s t hne e1 e2 o1 o2 => ?_⟩
  · unfold disown at e
    rw [List.getElem?_map] at e
    cases q : ρ[i]? with
    | none => rw [q] at e; cases e
    | some s0 =>
      rw [q] at e
      have e : s0.lent = sl := Option.some.inj e
      cases s0 with
      | no => subst e; trivial
      | im d => subst e; exact L.at' i _ q
      | own ds => subst e; trivial
      | dic ds => subst e; trivial
      | dct ds => subst e; trivial
      | dcf ds => subst e; exact L.at' i _ q
      | tape => subst e; exact L.at' i _ q
      | obj a dx C fs =>
        subst e
        obtain ⟨fv, h1, h2, h3, h4, h5⟩ := L.at' i _ q
        exact ⟨fv, h1, .inr ⟨h4, fun z => (L.gr.tp a z).1 h3⟩, h5⟩
      | obk a dx C fs =>
        subst e
        obtain ⟨fv, h1, h2, h5⟩ := L.at' i _ q
        exact ⟨fv, h1, h2.elim .inl (fun h => .inr ⟨L.gr.keep a _ h.1 h.2, h.2⟩), h5⟩
      | ptr a => subst e; exact L.at' i _ q
  · unfold disown at e1
    rw [List.getElem?_map] at e1
    cases q : ρ[i]? with
    | none => rw [q] at e1; cases e1
    | some s0 =>
      rw [q] at e1
      have e : s0.lent = s := Option.some.inj e1
      subst e
      cases s0 <;> cases o1
/-- an object of nobody's changes -/
theorem Lay.other (L : Lay K W B H σ ρ) {p : Addr} (o : HO) (h1 : B p = none) (h2 : W.H0 p = none) (h3 : ∀ (j : Nat) (sl : Sl), ρ[j]? = some sl → sl.ow = true → σ[j]? ≠ some (some (.ref p))) : Lay K W B (upd H p o) σ ρ := by
  refine ⟨⟨same_right L.gr.sub h1, L.gr.base, L.gr.new, fun a u q1 q2 => ?_, fun T q => ?_⟩, L.len, fun i sl e => (L.at' i sl e).grow (Same.refl _) fun a u g1 g2 g3 _ g5 => ⟨g3, ?_⟩, L.dis⟩
  · have ha : a ≠ p := by
      rintro rfl
      rw [h2] at q1
      cases q1
    rw [upd_ne ha]
    exact L.gr.keep a u q1 q2
  · obtain ⟨t1, t2⟩ := L.gr.tp T q
    have ht : T ≠ p := by
      rintro rfl
      exact t1 h2
    exact ⟨t1, t2.mono (Same.refl _) t2.1 fun o ho => by rw [upd_ne ht]; exact ho⟩
  · have ha : a ≠ p := by
      rintro rfl
      exact h3 i sl e g2 g1
    rw [upd_ne ha]
    exact g5
end
/-- readings over data, whatever the world (its tape being T) -/
def TtZ (K : PySem.W.Frag) (T : Option Addr) (tt : TT) (ρ : List Sl) (R : Bool → Prop) : Prop := ∀ W : Wd, W.T = T → ∀ (σ : L2.St) (H B : Hp) (Q : Bool → Hp → Prop), Lay K W B H σ ρ → (∀ b H' B', Same B B' → Lay K W B' H' σ ρ → R b → Q b H') → tt σ H Q
def TeZ (K : PySem.W.Frag) (T : Option Addr) (te : TE) (ρ : List Sl) (R : PyData → Prop) : Prop := ∀ W : Wd, W.T = T → ∀ (σ : L2.St) (H B : Hp) (Q : VK), Lay K W B H σ ρ → (∀ v H' B' d, Same B B' → Lay K W B' H' σ ρ → Dq K B' v d → R d → Q v H') → te σ H Q
/-- a target that takes data apart into the slots js -/
def GgZ (K : PySem.W.Frag) (g : TG) (js : List Nat) (dec : PyData → Option (List PyData)) : Prop := ∀ (B H : Hp) (σ : L2.St) (v : V) (d : PyData) (ds : List PyData) (Q : L2.St → Hp → Prop), Same B H → Dq K B v d → dec d = some ds → (∀ vs, DqAll K B vs ds → Q (setV σ js vs) H) → g v σ H Q
section
variable {X : Cx} {W : Wd} {ρ : List Sl} {D : Dz} {pos : Pos} {a b c e : Expr} {es : List Expr} {st : Stmt} {sts body : List Stmt}
theorem lc_runG {wi : TI} {js : List Nat} {g : TG} {tt : TT} {te : TE} {dec : PyData → Option (List PyData)} (gz : GgZ X.K g js dec) {R : List PyData → Prop}
    (h : ∀ (σ : L2.St) (H B : Hp) (Q : It → Hp → Prop), Lay X.K W B H σ ρ → (∀ J H' B' ds, Same B B' → Lay X.K W B' H' σ ρ → WalkZ X.K J ds B' → (ds.length ≤ sizeLine ∧ ∃ P : Nat → List PyData → Prop, P 0 [] ∧ (∀ i d acc, ds[i]? = some d → P i acc → acc.length ≤ i → ∃ xs, dec d = some xs ∧
      TtZ X.K W.T tt (setZ (disown (wipeZ ρ js)) js xs) fun k => (k = true → TeZ X.K W.T te (setZ (disown (wipeZ ρ js)) js xs) fun y => P (i + 1) (acc ++ [y])) ∧ (k = false → P (i + 1) acc)) ∧ ∀ acc, P ds.length acc → acc.length ≤ ds.length → R acc) → Q J H') → wi σ H Q)
    {σ : L2.St} {H B : Hp} {Q : VK} (L : Lay X.K W B H σ ρ)
    (k : ∀ a vs H' B' ds, Same B B' → Lay X.K W B' H' σ ρ → B' a = none → W.H0 a = none → (∀ (i : Nat) (sl : Sl), ρ[i]? = some sl → sl.ow = true → σ[i]? ≠ some (some (.ref a))) → H' a = some (.lst vs) → DqAll X.K B' vs ds → R ds → Q (.ref a) H') :
    tLc wi g tt te js σ H Q := by
  refine h σ H B _ L fun J H1 B1 ds s1 L1 wk hP p hp => ?_
  obtain ⟨hlen, P, p0, turn, fin⟩ := hP
  obtain ⟨L2', b0, h0, own0, e0⟩ := fresh_own L1 hp [] [] .nil
  have hT : W.T ≠ some p := fun z => (L1.gr.tp p z).1 h0
  refine ⟨fun i m H => m = ds.length - i ∧ i ≤ ds.length ∧ ∃ B vs acc, Same B1 B ∧ B p = none ∧ H p = some (.lst vs) ∧ DqAll X.K B vs acc ∧ acc.length ≤ i ∧ Lay X.K W B H σ ρ ∧ P i acc,
    ⟨_, rfl, Nat.zero_le _, B1, [], [], Same.refl _, b0, e0, .nil, Nat.le_refl _, L2', p0⟩, ?_⟩
  rintro i m H ⟨rfl, hi, B2, vs, acc, sB, bp, hpv, da, hal, L, hPi⟩
  by_cases hlt : i < ds.length
  · refine .inr ⟨wk.go i B2 H sB L.gr.sub hlt, fun H' => ∃ B vs acc, Same B1 B ∧ B p = none ∧ H' p = some (.lst vs) ∧ DqAll X.K B vs acc ∧ acc.length ≤ i + 1 ∧ Lay X.K W B H' σ ρ ∧ P (i + 1) acc,
      fun H' hN => ⟨ds.length - (i + 1), by omega, rfl, hlt, hN⟩, fun x H' hy => ?_⟩
    obtain ⟨d, B3, hd, s3, L3, Dx, kp, kn⟩ := wk.yld i B2 H x H' W σ ρ sB L hy hlt
    have hp3 : H' p = some (.lst vs) := kp _ _ hpv
    have bp3 : B3 p = none := kn p _ hpv bp
    obtain ⟨xs, hdec, ht⟩ := turn i d acc hd hPi hal
    have L4 : Lay X.K ⟨W.T, W.ns, B3, H'⟩ B3 H' (wipe σ js) (disown (wipeZ ρ js)) := Lay.loan (W := W) (L3.wipes js)
    refine gz B3 H' (wipe σ js) x d xs _ L4.gr.sub Dx hdec fun us hus => ⟨wipe_setV _ _ _, ?_⟩
    have L5 := L4.sets (js := js) hus
    -- behind the block's code
    have back : ∀ {B4 H4 : Hp} {σ4 : L2.St} {ρ4 : List Sl}, Lay X.K ⟨W.T, W.ns, B3, H'⟩ B4 H4 σ4 ρ4 → Same B3 B4 ∧ Lay X.K W B4 H4 σ ρ ∧ B4 p = none ∧ H4 p = some (.lst vs) := fun {B4 H4 σ4 ρ4} L6 => by
      obtain ⟨s, L7⟩ := L3.called (.inr ⟨rfl, rfl⟩) L6.gr
      exact ⟨s, L7, L6.gr.new p (by show H' p ≠ none; rw [hp3]; exact fun z => by cases z) bp3, L6.gr.keep p _ hp3 (by show W.T ≠ some p; exact hT)⟩
    refine ht ⟨W.T, W.ns, B3, H'⟩ rfl _ _ _ _ L5 fun kk H4 B4 s4 L6 hq => ?_
    cases kk with
    | true =>
      rw [if_pos rfl]
      refine hq.1 rfl ⟨W.T, W.ns, B3, H'⟩ rfl _ _ _ _ L6 fun y H5 B5 dy s5 L7 Dy hy => ?_
      obtain ⟨s6, L8, b8, h8⟩ := back L7
      refine ⟨vs, h8, by rw [dpAll_len da]; omega, B5, vs ++ [y], acc ++ [dy], (sB.trans s3).trans s6, b8, upd_same, dpAll_app (dpAllMono (s3.trans s6) _ _ da) (.cons Dy .nil), by simp; omega, L8.other _ b8 h0 own0, hy⟩
    | false =>
      rw [if_neg Bool.false_ne_true]
      obtain ⟨s6, L8, b8, h8⟩ := back L6
      exact ⟨B4, vs, acc, (sB.trans s3).trans s6, b8, h8, dpAllMono (s3.trans s6) _ _ da, by omega, L8, hq.2 rfl⟩
  · have ei : i = ds.length := by omega
    subst ei
    exact .inl ⟨wk.stop B2 H sB L.gr.sub, k p vs H B2 acc (s1.trans sB) L bp h0 own0 hpv da (fin acc hPi hal)⟩
theorem lc_run {tg iter : Expr} {js : List Nat} {g : TG} {tt : TT} {te : TE} {dec : PyData → Option (List PyData)} (gz : GgZ X.K g js dec) {R : List PyData → Prop}
    (h : Ei X W tg iter ρ fun ds => ds.length ≤ sizeLine ∧ ∃ P : Nat → List PyData → Prop, P 0 [] ∧ (∀ i d acc, ds[i]? = some d → P i acc → acc.length ≤ i → ∃ xs, dec d = some xs ∧
      TtZ X.K W.T tt (setZ (disown (wipeZ ρ js)) js xs) fun k => (k = true → TeZ X.K W.T te (setZ (disown (wipeZ ρ js)) js xs) fun y => P (i + 1) (acc ++ [y])) ∧ (k = false → P (i + 1) acc)) ∧ ∀ acc, P ds.length acc → acc.length ≤ ds.length → R acc)
    {σ : L2.St} {H B : Hp} {Q : VK} (L : Lay X.K W B H σ ρ)
    (k : ∀ a vs H' B' ds, Same B B' → Lay X.K W B' H' σ ρ → B' a = none → W.H0 a = none → (∀ (i : Nat) (sl : Sl), ρ[i]? = some sl → sl.ow = true → σ[i]? ≠ some (some (.ref a))) → H' a = some (.lst vs) → DqAll X.K B' vs ds → R ds → Q (.ref a) H') :
    tLc (iW X tg iter) g tt te js σ H Q := lc_runG gz (fun σ H B Q L k => h.run σ H B Q L k) L k
/-! targets -/
def dec1 : PyData → Option (List PyData) := fun d => some [d]
def decT (n : Nat) : PyData → Option (List PyData)
  | .tuple ds => if ds.length = n then some ds else none
  | _ => none
theorem gg_name {K : PySem.W.Frag} (i : Nat) : GgZ K (gName i) [i] dec1 := fun B H σ v d ds Q s Dv e k => by
  cases e
  exact k [v] (.cons Dv .nil)
def gNames : List Nat → TGs
  | [] => gNil
  | j :: js => gCons (gName j) (gNames js)
theorem gg_names {K : PySem.W.Frag} {B H : Hp} : ∀ (js : List Nat) (ds : List PyData) (vs : List V) (σ : L2.St) (Q : L2.St → Hp → Prop), js.length = ds.length → DqAll K B vs ds → Q (setV σ js vs) H → gNames js vs σ H Q
  | [], [], _, _, _, _, h, q => by cases h; exact ⟨rfl, q⟩
  | j :: js, d :: ds, _, σ, Q, hl, h, q => by
    cases h with
    | cons h1 h2 => exact ⟨_, _, rfl, gg_names js ds _ _ Q (by simpa using hl) h2 q⟩
theorem gg_tup {K : PySem.W.Frag} (js : List Nat) : GgZ K (gTup K js.length (gNames js)) js (decT js.length) := fun B H σ v d ds Q s Dv e k => by
  cases d with
  | tuple xs =>
    have e1 : (if xs.length = js.length then some xs else none) = some ds := e
    by_cases hl : xs.length = js.length
    · rw [if_pos hl] at e1
      have e2 : xs = ds := Option.some.inj e1
      subst e2
      obtain ⟨p, vs, rfl, h1, h2⟩ := dp_tup Dv
      exact ⟨p, vs, rfl, seqT s h1, by rw [dpAll_len h2]; exact hl, gg_names js xs vs σ Q hl.symm h2 (k vs h2)⟩
    · rw [if_neg hl] at e1
      exact absurd e1 (by simp)
  | none => exact absurd (show (none : Option (List PyData)) = some ds from e) (by simp)
  | bool _ => exact absurd (show (none : Option (List PyData)) = some ds from e) (by simp)
  | int _ => exact absurd (show (none : Option (List PyData)) = some ds from e) (by simp)
  | str _ => exact absurd (show (none : Option (List PyData)) = some ds from e) (by simp)
  | list _ => exact absurd (show (none : Option (List PyData)) = some ds from e) (by simp)
  | dict _ => exact absurd (show (none : Option (List PyData)) = some ds from e) (by simp)
/-- a block of the comprehension -/
abbrev Blk (X : Cx) (scope : Scope) (Y : Cx) : Prop := ∃ (s : Shared) (H : Hp) (C : Addr) (cl : List (Str × Addr)) (fp : List Addr), Y = X.blk s H scope (compEnvC scope cl C X.env) fp
def teB (X : Cx) (scope : Scope) (e : Expr) : TE := fun σ H Q => ∀ Y, Blk X scope Y → tW Y e σ H Q
def ttB (X : Cx) (scope : Scope) (e : Expr) : TT := fun σ H Q => ∀ Y, Blk X scope Y → tWt Y e σ H Q
theorem teZ {scope : Scope} {T : Option Addr} {R : PyData → Prop} (h : ∀ Y, Blk X scope Y → ∀ W : Wd, W.T = T → Ev Y W e ρ R) : TeZ X.K T (teB X scope e) ρ R := fun W hW σ H B Q L k Y hY => by
  have := h Y hY W hW
  obtain ⟨s, H0, C, cl, fp, rfl⟩ := hY
  exact this.run σ H B Q L k
theorem ttZ {scope : Scope} {T : Option Addr} {R : Bool → Prop} (h : ∀ Y, Blk X scope Y → ∀ W : Wd, W.T = T → Et Y W e ρ R) : TtZ X.K T (ttB X scope e) ρ R := fun W hW σ H B Q L k Y hY => by
  have := h Y hY W hW
  obtain ⟨s, H0, C, cl, fp, rfl⟩ := hY
  exact this.run σ H B Q L k
theorem ttYes {T : Option Addr} {K : PySem.W.Frag} {R : Bool → Prop} (h : R true) : TtZ K T tYes ρ R := fun W hW σ H B Q L k => k true H B (Same.refl _) L h
section
variable {tg iter elt : Expr} {scope : Scope} {own : List (Str × Nat)} {R : List PyData → Prop}
theorem blkE {s : Shared} {H : Hp} {C : Addr} {cl : List (Str × Addr)} {fp : List Addr} : PE (X.blk s H scope (compEnvC scope cl C X.env) fp) e (teB X scope e) := ⟨fun pins s0 _ _ _ I q => q _ ⟨s, H, C, cl, fp, rfl⟩ pins s0 I⟩
theorem blkT {s : Shared} {H : Hp} {C : Addr} {cl : List (Str × Addr)} {fp : List Addr} : PT (X.blk s H scope (compEnvC scope cl C X.env) fp) e (ttB X scope e) := ⟨fun pins s0 _ _ _ I q => q _ ⟨s, H, C, cl, fp, rfl⟩ pins s0 I⟩
/-- what the walk of a comprehension without a test asks -/
def LcA (X : Cx) (W : Wd) (tg iter elt : Expr) (scope : Scope) (ρ : List Sl) (js : List Nat) (dec : PyData → Option (List PyData)) (R : List PyData → Prop) : Prop :=
  Ei X W tg iter ρ fun ds => ds.length ≤ sizeLine ∧ ∃ P : Nat → List PyData → Prop, P 0 [] ∧ (∀ i d acc, ds[i]? = some d → P i acc → acc.length ≤ i → ∃ xs, dec d = some xs ∧
      ∀ Y, Blk X scope Y → ∀ W' : Wd, W'.T = W.T → Ev Y W' elt (setZ (disown (wipeZ ρ js)) js xs) fun y => P (i + 1) (acc ++ [y])) ∧ ∀ acc, P ds.length acc → acc.length ≤ ds.length → R acc
/-- .. with one test -/
def LcI (X : Cx) (W : Wd) (tg iter elt c : Expr) (scope : Scope) (ρ : List Sl) (js : List Nat) (dec : PyData → Option (List PyData)) (R : List PyData → Prop) : Prop :=
  Ei X W tg iter ρ fun ds => ds.length ≤ sizeLine ∧ ∃ P : Nat → List PyData → Prop, P 0 [] ∧ (∀ i d acc, ds[i]? = some d → P i acc → acc.length ≤ i → ∃ xs, dec d = some xs ∧
      ∀ Y, Blk X scope Y → ∀ W' : Wd, W'.T = W.T → Et Y W' c (setZ (disown (wipeZ ρ js)) js xs) fun k =>
        (k = true → ∀ Y, Blk X scope Y → ∀ W' : Wd, W'.T = W.T → Ev Y W' elt (setZ (disown (wipeZ ρ js)) js xs) fun y => P (i + 1) (acc ++ [y])) ∧ (k = false → P (i + 1) acc)) ∧ ∀ acc, P ds.length acc → acc.length ≤ ds.length → R acc
theorem LcA.go {g : TG} {js : List Nat} {dec : PyData → Option (List PyData)} (gz : GgZ X.K g js dec) (h : LcA X W tg iter elt scope ρ js dec R)
    {σ : L2.St} {H B : Hp} {Q : VK} (L : Lay X.K W B H σ ρ)
    (k : ∀ a vs H' B' ds, Same B B' → Lay X.K W B' H' σ ρ → B' a = none → W.H0 a = none → (∀ (i : Nat) (sl : Sl), ρ[i]? = some sl → sl.ow = true → σ[i]? ≠ some (some (.ref a))) → H' a = some (.lst vs) → DqAll X.K B' vs ds → R ds → Q (.ref a) H') :
    tLc (iW X tg iter) g tYes (teB X scope elt) js σ H Q := by
  refine lc_run gz ⟨fun σ H B Q L k => Ei.run h σ H B Q L fun J H' B' ds s L' wk ⟨hl, P, p0, turn, fin⟩ => k J H' B' ds s L' wk ⟨hl, P, p0, fun i d acc h1 h2 h3 => ?_, fin⟩⟩ L k
  obtain ⟨xs, e1, e2⟩ := turn i d acc h1 h2 h3
  exact ⟨xs, e1, ttYes ⟨fun _ => teZ e2, fun z => by cases z⟩⟩
theorem LcI.go {g : TG} {js : List Nat} {dec : PyData → Option (List PyData)} (gz : GgZ X.K g js dec) (h : LcI X W tg iter elt c scope ρ js dec R)
    {σ : L2.St} {H B : Hp} {Q : VK} (L : Lay X.K W B H σ ρ)
    (k : ∀ a vs H' B' ds, Same B B' → Lay X.K W B' H' σ ρ → B' a = none → W.H0 a = none → (∀ (i : Nat) (sl : Sl), ρ[i]? = some sl → sl.ow = true → σ[i]? ≠ some (some (.ref a))) → H' a = some (.lst vs) → DqAll X.K B' vs ds → R ds → Q (.ref a) H') :
    tLc (iW X tg iter) g (ttB X scope c) (teB X scope elt) js σ H Q := by
  refine lc_run gz ⟨fun σ H B Q L k => Ei.run h σ H B Q L fun J H' B' ds s L' wk ⟨hl, P, p0, turn, fin⟩ => k J H' B' ds s L' wk ⟨hl, P, p0, fun i d acc h1 h2 h3 => ?_, fin⟩⟩ L k
  obtain ⟨xs, e1, e2⟩ := turn i d acc h1 h2 h3
  exact ⟨xs, e1, ttZ fun Y hY W' hW => (e2 Y hY W' hW).imp fun k hk => ⟨fun z => teZ (hk.1 z), hk.2⟩⟩
/-- [elt for x in iter] -/
theorem el_lc {g : TG} {js : List Nat} {dec : PyData → Option (List PyData)} (gz : GgZ X.K g js dec) (hg : ∀ (s : Shared) (H : Hp) (C : Addr) (cl : List (Str × Addr)) (fp : List Addr), PG (X.blk s H scope (compEnvC scope cl C X.env) fp) tg g)
    (hc : X.calm = true) (nd : X.N.Nodup) (ok : BlkOk X.N X.env.scope scope own) (ej : own.map (·.2) = js) (h : LcA X W tg iter elt scope ρ js dec R)
    (hs : ∀ x, foldedSetIterable iter X.env x = pure x := by intro _; rfl) : El X W (.ListComp elt [⟨tg, iter, [], 0⟩] scope pos) ρ R := by
  subst ej
  exact ⟨fun σ H B Q L k => (pe_lc hc nd pi_w ok hg (fun _ _ _ _ _ => pts_nil) (fun _ _ _ _ _ => blkE) hs).toZ (h.go gz L k)⟩
/-- [elt for x in iter if c] -/
theorem el_lcI {g : TG} {js : List Nat} {dec : PyData → Option (List PyData)} (gz : GgZ X.K g js dec) (hg : ∀ (s : Shared) (H : Hp) (C : Addr) (cl : List (Str × Addr)) (fp : List Addr), PG (X.blk s H scope (compEnvC scope cl C X.env) fp) tg g)
    (hc : X.calm = true) (nd : X.N.Nodup) (ok : BlkOk X.N X.env.scope scope own) (ej : own.map (·.2) = js) (h : LcI X W tg iter elt c scope ρ js dec R)
    (hs : ∀ x, foldedSetIterable iter X.env x = pure x := by intro _; rfl) : El X W (.ListComp elt [⟨tg, iter, [c], 0⟩] scope pos) ρ R := by
  subst ej
  exact ⟨fun σ H B Q L k => (pe_lc hc nd pi_w ok hg (fun _ _ _ _ _ => pts_one blkT) (fun _ _ _ _ _ => blkE) hs).toZ (h.go gz L k)⟩
/-- y = [..], y a plain local -/
theorem es_lc (i : Nat) {y : Str} {py spos : Pos} {g : TG} {js : List Nat} {dec : PyData → Option (List PyData)} (gz : GgZ X.K g js dec) (hg : ∀ (s : Shared) (H : Hp) (C : Addr) (cl : List (Str × Addr)) (fp : List Addr), PG (X.blk s H scope (compEnvC scope cl C X.env) fp) tg g)
    (hc : X.calm = true) (nd : X.N.Nodup) (ok : BlkOk X.N X.env.scope scope own) (ej : own.map (·.2) = js) (h : LcA X W tg iter elt scope ρ js dec fun ds => D.nx (ρ.set i (.own ds)))
    (hsw : swapsWith (.ListComp elt [⟨tg, iter, [], 0⟩] scope pos) (some (.Name y py)) spos.line X.env = pure true) (hy : X.N[i]? = some y := by rfl) (hyl : X.env.scope.names.lookup y = some .local := by rfl)
    (hs : ∀ x, foldedSetIterable iter X.env x = pure x := by intro _; rfl) : Es X W (.Assign [.Name y py] (.ListComp elt [⟨tg, iter, [], 0⟩] scope pos) spos) ρ D := by
  subst ej
  exact ⟨fun σ H B L => (ps_setLc hc nd hy hyl hsw pi_w ok hg (fun _ _ _ _ _ => pts_nil) (fun _ _ _ _ _ => blkE) hs).toZ (h.go gz L fun p vs H' B' ds s L' h1 h2 h3 h4 h5 r => ⟨B', _, s, L'.own h1 h2 h3 h4 h5, r⟩)⟩
theorem es_lcI (i : Nat) {y : Str} {py spos : Pos} {g : TG} {js : List Nat} {dec : PyData → Option (List PyData)} (gz : GgZ X.K g js dec) (hg : ∀ (s : Shared) (H : Hp) (C : Addr) (cl : List (Str × Addr)) (fp : List Addr), PG (X.blk s H scope (compEnvC scope cl C X.env) fp) tg g)
    (hc : X.calm = true) (nd : X.N.Nodup) (ok : BlkOk X.N X.env.scope scope own) (ej : own.map (·.2) = js) (h : LcI X W tg iter elt c scope ρ js dec fun ds => D.nx (ρ.set i (.own ds)))
    (hsw : swapsWith (.ListComp elt [⟨tg, iter, [c], 0⟩] scope pos) (some (.Name y py)) spos.line X.env = pure true) (hy : X.N[i]? = some y := by rfl) (hyl : X.env.scope.names.lookup y = some .local := by rfl)
    (hs : ∀ x, foldedSetIterable iter X.env x = pure x := by intro _; rfl) : Es X W (.Assign [.Name y py] (.ListComp elt [⟨tg, iter, [c], 0⟩] scope pos) spos) ρ D := by
  subst ej
  exact ⟨fun σ H B L => (ps_setLc hc nd hy hyl hsw pi_w ok hg (fun _ _ _ _ _ => pts_one blkT) (fun _ _ _ _ _ => blkE) hs).toZ (h.go gz L fun p vs H' B' ds s L' h1 h2 h3 h4 h5 r => ⟨B', _, s, L'.own h1 h2 h3 h4 h5, r⟩)⟩
end

/-! ### built-ins -/
@[reducible] def rLen : PyData → (PyData → Prop) → Prop
  | .list ds, R => R (.int (ds.length : Int))
  | .tuple ds, R => R (.int (ds.length : Int))
  | _, _ => False
@[reducible] def rSeq : PyData → (List PyData → Prop) → Prop
  | .list ds, R => R ds
  | .tuple ds, R => R ds
  | _, _ => False
theorem ev_len {p : Pos} {R : PyData → Prop} (hm : X.mg "len" = none) (h : Ev X W e ρ fun d => rLen d R) (hg : Gl X "len" := by rfl)
    (he : starEach [e] X.env = (false, eval e X.env) :: starEach [] X.env := by rfl) (hpl : (backTo pos (starEach [] X.env)).any (·.1) = false := by rfl) : Ev X W (.Call (.Name "len" p) [e] [] pos) ρ R := by
  refine ⟨fun σ H B Q L k => (pe_callB call_len_seq hg hm PySem.boot_len (pa_cons pe_w pa_nil he) (by decide) (by decide) he hpl).toZ ?_⟩
  refine h.run σ H B _ L fun v H1 B1 d s1 L1 D1 h2 => ?_
  cases d <;> first | exact h2.elim | skip
  · obtain ⟨q, vs, rfl, h3, h4⟩ := dp_list D1
    refine ⟨q, vs, rfl, .inl (SqL.of (L1.gr.sub _ _ h3)), ?_⟩
    rw [dpAll_len h4]
    exact k _ H1 B1 _ s1 L1 (.int _) h2
  · obtain ⟨q, vs, rfl, h3, h4⟩ := dp_tup D1
    refine ⟨q, vs, rfl, .inr (seqT L1.gr.sub h3), ?_⟩
    rw [dpAll_len h4]
    exact k _ H1 B1 _ s1 L1 (.int _) h2
theorem ev_lenOwn (i : Nat) {x : Str} {px : Pos} {p : Pos} {R : PyData → Prop} {ds : List PyData} (hm : X.mg "len" = none) (hρ : ρ[i]? = some (.own ds)) (h : R (.int (ds.length : Int))) (hN : X.N[i]? = some x := by rfl) (hv : Vis X.env.scope x := by first | exact Or.inl rfl | exact Or.inr (Or.inl rfl) | exact Or.inr (Or.inr rfl)) (hg : Gl X "len" := by rfl)
    (hd : (x == ("__debug__" : Str)) = false := by decide) (hcd : (x == ("__classdict__" : Str)) = false := by decide)
    (he : starEach [.Name x px] X.env = (false, eval (.Name x px) X.env) :: starEach [] X.env := by rfl) (hpl : (backTo pos (starEach [] X.env)).any (·.1) = false := by rfl) : Ev X W (.Call (.Name "len" p) [.Name x px] [] pos) ρ R := by
  refine ⟨fun σ H B Q L k => (pe_callB call_len_seq hg hm PySem.boot_len (pa_cons (pe_var hN hv hd hcd) pa_nil he) (by decide) (by decide) he hpl).toZ ?_⟩
  obtain ⟨q, vs, e1, e2, e3, e4, e5⟩ := L.at' i _ hρ
  refine ⟨.ref q, e1, q, vs, rfl, .inl (SqL.of e4), ?_⟩
  rw [dpAll_len e5]
  exact k _ H B _ (Same.refl _) L (.int _) h
theorem boot_max : bootBuiltins "max" = some (.builtin "max") := by decide +kernel
theorem boot_min : bootBuiltins "min" = some (.builtin "min") := by decide +kernel
theorem boot_all : bootBuiltins "all" = some (.builtin "all") := by decide +kernel
theorem boot_list : bootBuiltins "list" = some (.type "list") := by decide +kernel
theorem boot_tuple : bootBuiltins "tuple" = some (.type "tuple") := by decide +kernel
theorem boot_sorted : bootBuiltins "sorted" = some (.builtin "sorted") := by decide +kernel
@[reducible] def r2I : PyData → PyData → (Int → Int → Prop) → Prop
  | .int i, .int j, K => K i j
  | _, _, _ => False
theorem ev_max2 {p : Pos} {R : PyData → Prop} (hc : X.calm = true) (hm : X.mg "max" = none) (h : Ev X W a ρ fun d => Ev X W b ρ fun d' => r2I d d' fun i j => ∀ m : Int, i ≤ m → j ≤ m → (m = i ∨ m = j) → R (.int m)) (hg : Gl X "max" := by rfl)
    (he : starEach [a, b] X.env = (false, eval a X.env) :: starEach [b] X.env := by rfl) (he2 : starEach [b] X.env = (false, eval b X.env) :: starEach [] X.env := by rfl) (hpl : (backTo pos (starEach [b] X.env)).any (·.1) = false := by rfl) : Ev X W (.Call (.Name "max" p) [a, b] [] pos) ρ R := by
  refine ⟨fun σ H B Q L k => (pe_callB (call_max2 hc) hg hm boot_max (pa_cons pe_w (pa_cons pe_w pa_nil he2) he) (by decide) (by decide) he hpl).toZ ?_⟩
  refine h.run σ H B _ L fun v H1 B1 d s1 L1 D1 h2 => ?_
  refine h2.run σ H1 B1 _ L1 fun u H2 B2 d' s2 L2 D2 h3 => ?_
  cases d <;> cases d' <;> first | exact h3.elim | skip
  rename_i i j
  cases dp_int D1
  cases dp_int D2
  exact ⟨i, j, rfl, k _ H2 B2 _ (s1.trans s2) L2 (.int _) (h3 _ (by split <;> omega) (by split <;> omega) (by split <;> simp))⟩
theorem ev_min2 {p : Pos} {R : PyData → Prop} (hc : X.calm = true) (hm : X.mg "min" = none) (h : Ev X W a ρ fun d => Ev X W b ρ fun d' => r2I d d' fun i j => ∀ m : Int, m ≤ i → m ≤ j → (m = i ∨ m = j) → R (.int m)) (hg : Gl X "min" := by rfl)
    (he : starEach [a, b] X.env = (false, eval a X.env) :: starEach [b] X.env := by rfl) (he2 : starEach [b] X.env = (false, eval b X.env) :: starEach [] X.env := by rfl) (hpl : (backTo pos (starEach [b] X.env)).any (·.1) = false := by rfl) : Ev X W (.Call (.Name "min" p) [a, b] [] pos) ρ R := by
  refine ⟨fun σ H B Q L k => (pe_callB (call_min2 hc) hg hm boot_min (pa_cons pe_w (pa_cons pe_w pa_nil he2) he) (by decide) (by decide) he hpl).toZ ?_⟩
  refine h.run σ H B _ L fun v H1 B1 d s1 L1 D1 h2 => ?_
  refine h2.run σ H1 B1 _ L1 fun u H2 B2 d' s2 L2 D2 h3 => ?_
  cases d <;> cases d' <;> first | exact h3.elim | skip
  rename_i i j
  cases dp_int D1
  cases dp_int D2
  exact ⟨i, j, rfl, k _ H2 B2 _ (s1.trans s2) L2 (.int _) (h3 _ (by split <;> omega) (by split <;> omega) (by split <;> simp))⟩
theorem dq_ints {K : PySem.W.Frag} {B : Hp} : ∀ {ns : List Int} {vs : List V}, DqAll K B vs (ns.map PyData.int) → vs = ns.map V.int
  | [], _, h => by cases h; rfl
  | n :: ns, _, h => by
    cases h with
    | cons h1 h2 => rw [dp_int h1, dq_ints h2]; rfl
theorem dq_bools {K : PySem.W.Frag} {B : Hp} : ∀ {ns : List Bool} {vs : List V}, DqAll K B vs (ns.map PyData.bool) → vs = ns.map V.bl
  | [], _, h => by cases h; rfl
  | n :: ns, _, h => by
    cases h with
    | cons h1 h2 => rw [dp_bool h1, dq_bools h2]; rfl
theorem ints_dq {K : PySem.W.Frag} {B : Hp} : ∀ ns : List Int, DqAll K B (ns.map V.int) (ns.map PyData.int)
  | [] => .nil
  | n :: ns => .cons (.int n) (ints_dq ns)
/-- min(xs) of a list of ints -/
theorem ev_minL {p : Pos} {R : PyData → Prop} (hc : X.calm = true) (hm : X.mg "min" = none) (h : Ev X W e ρ fun d => ∃ ns : List Int, d = .list (ns.map PyData.int) ∧ 0 < ns.length ∧ ∀ m, m ∈ ns → (∀ y, y ∈ ns → m ≤ y) → R (.int m)) (hg : Gl X "min" := by rfl)
    (he : starEach [e] X.env = (false, eval e X.env) :: starEach [] X.env := by rfl) (hpl : (backTo pos (starEach [] X.env)).any (·.1) = false := by rfl) : Ev X W (.Call (.Name "min" p) [e] [] pos) ρ R := by
  refine ⟨fun σ H B Q L k => (pe_callB (cr_min hc) hg hm boot_min (pa_cons pe_w pa_nil he) (by decide) (by decide) he hpl).toZ ?_⟩
  refine h.run σ H B _ L fun v H1 B1 d s1 L1 D1 h2 => ?_
  obtain ⟨ns, rfl, h3, h4⟩ := h2
  obtain ⟨q, vs, rfl, h5, h6⟩ := dp_list D1
  cases dq_ints h6
  exact ⟨q, ns, rfl, SqL.of (L1.gr.sub _ _ h5), h3, fun m h7 h8 => k _ H1 B1 _ s1 L1 (.int m) (h4 m h7 h8)⟩
/-- all(bs) of a list of bools -/
theorem ev_all {p : Pos} {R : PyData → Prop} (hc : X.calm = true) (hm : X.mg "all" = none) (h : Ev X W e ρ fun d => ∃ bs : List Bool, d = .list (bs.map PyData.bool) ∧ R (.bool (bs.all id))) (hg : Gl X "all" := by rfl)
    (he : starEach [e] X.env = (false, eval e X.env) :: starEach [] X.env := by rfl) (hpl : (backTo pos (starEach [] X.env)).any (·.1) = false := by rfl) : Ev X W (.Call (.Name "all" p) [e] [] pos) ρ R := by
  refine ⟨fun σ H B Q L k => (pe_callB (cr_all hc) hg hm boot_all (pa_cons pe_w pa_nil he) (by decide) (by decide) he hpl).toZ ?_⟩
  refine h.run σ H B _ L fun v H1 B1 d s1 L1 D1 h2 => ?_
  obtain ⟨bs, rfl, h3⟩ := h2
  obtain ⟨q, vs, rfl, h5, h6⟩ := dp_list D1
  cases dq_bools h6
  exact ⟨q, bs, rfl, SqL.of (L1.gr.sub _ _ h5), k _ H1 B1 _ s1 L1 (.bl _) h3⟩
/-- list(xs) -/
theorem el_list {p : Pos} {R : List PyData → Prop} (hm : X.mg "list" = none) (h : Ev X W e ρ fun d => rSeq d R) (hg : Gl X "list" := by rfl)
    (he : starEach [e] X.env = (false, eval e X.env) :: starEach [] X.env := by rfl) (hpl : (backTo pos (starEach [] X.env)).any (·.1) = false := by rfl) : El X W (.Call (.Name "list" p) [e] [] pos) ρ R := by
  refine ⟨fun σ H B Q L k => (pe_callTy call_list_of hg hm boot_list (pa_cons pe_w pa_nil he) (by decide) (by decide) he hpl).toZ ?_⟩
  refine h.run σ H B _ L fun v H1 B1 d s1 L1 D1 h2 => ?_
  cases d <;> first | exact h2.elim | skip
  · rename_i ds
    obtain ⟨q, vs, rfl, h3, h4⟩ := dp_list D1
    refine ⟨q, vs, rfl, .inl (SqL.of (L1.gr.sub _ _ h3)), fun l hl => ?_⟩
    obtain ⟨L', q1, q2, q3, q4⟩ := fresh_own L1 hl ds vs h4
    exact k l vs _ B1 ds s1 L' q1 q2 q3 q4 h4 h2
  · rename_i ds
    obtain ⟨q, vs, rfl, h3, h4⟩ := dp_tup D1
    refine ⟨q, vs, rfl, .inr (seqT L1.gr.sub h3), fun l hl => ?_⟩
    obtain ⟨L', q1, q2, q3, q4⟩ := fresh_own L1 hl ds vs h4
    exact k l vs _ B1 ds s1 L' q1 q2 q3 q4 h4 h2
/-- tuple(xs) -/
theorem ev_tupleOf {p : Pos} {R : PyData → Prop} (hm : X.mg "tuple" = none) (h : Ev X W e ρ fun d => match d with | .list ds => R (.tuple ds) | .tuple ds => R (.tuple ds) | _ => False) (hg : Gl X "tuple" := by rfl)
    (he : starEach [e] X.env = (false, eval e X.env) :: starEach [] X.env := by rfl) (hpl : (backTo pos (starEach [] X.env)).any (·.1) = false := by rfl) : Ev X W (.Call (.Name "tuple" p) [e] [] pos) ρ R := by
  refine ⟨fun σ H B Q L k => (pe_callTy call_tuple_of hg hm boot_tuple (pa_cons pe_w pa_nil he) (by decide) (by decide) he hpl).toZ ?_⟩
  refine h.run σ H B _ L fun v H1 B1 d s1 L1 D1 h2 => ?_
  cases d <;> first | exact h2.elim | skip
  · rename_i ds
    obtain ⟨q, vs, rfl, h3, h4⟩ := dp_list D1
    refine ⟨q, vs, rfl, .inl ⟨SqL.of (L1.gr.sub _ _ h3), fun l hl => ?_⟩⟩
    obtain ⟨s, L'⟩ := L1.fresh hl (.tup vs)
    exact k _ _ _ _ (s1.trans s) L' (.tup (SqT.of upd_same) (dpAllMono s _ _ h4)) h2
  · rename_i ds
    obtain ⟨q, vs, rfl, h3, h4⟩ := dp_tup D1
    exact ⟨q, vs, rfl, .inr ⟨seqT L1.gr.sub h3, k _ H1 B1 _ s1 L1 D1 h2⟩⟩
end

/-! ### defs -/
def startZ (N : List Str) (ds : List PyData) : List Sl := ds.map Sl.im ++ List.replicate (N.length - ds.length) Sl.no
theorem start_im {K : PySem.W.Frag} {B : Hp} : ∀ {ds : List PyData} {vs : List V}, DqAll K B vs ds → ∀ (i : Nat) (sl : Sl), (ds.map Sl.im)[i]? = some sl → ∃ v d, sl = .im d ∧ (vs.map some)[i]? = some (some v) ∧ Dq K B v d
  | [], _, _, i, sl, e => by simp at e
  | d :: ds, _, h, i, sl, e => by
    cases h with
    | cons h1 h2 =>
      cases i with
      | zero =>
        simp at e
        exact ⟨_, d, e.symm, by simp, h1⟩
      | succ i =>
        obtain ⟨v, d', a, b, c⟩ := start_im h2 i sl (by simpa using e)
        exact ⟨v, d', a, by simpa using b, c⟩
theorem start_ow {ds : List PyData} {n i : Nat} {sl : Sl} (e : (ds.map Sl.im ++ List.replicate n Sl.no)[i]? = some sl) : sl.ow = false := by
  have h := List.mem_of_getElem? e
  rcases List.mem_append.mp h with h | h
  · obtain ⟨d, _, rfl⟩ := List.mem_map.mp h
    rfl
  · rw [(List.mem_replicate.mp h).2]
    rfl
theorem start_lay {K : PySem.W.Frag} {B H : Hp} {N : List Str} {ds : List PyData} {vs : List V} {T : Option Addr} {ns : Addr × List Int} (s : Same B H) (t : ∀ a, T = some a → Tape ns B H a) (h : DqAll K B vs ds) : Lay K ⟨T, ns, B, H⟩ B H (L2.start N vs) (startZ N ds) := by
  have hl := dpAll_len h
  refine ⟨Gr.refl s t, by simp [L2.start, startZ, hl], fun i sl e => ?_, fun i j s t _ e1 _ o1 _ => by rw [start_ow e1] at o1; cases o1⟩
  unfold startZ at e
  by_cases hi : i < ds.length
  · rw [List.getElem?_append_left (by simpa using hi)] at e
    obtain ⟨v, d, rfl, e2, Dv⟩ := start_im h i sl e
    refine ⟨v, ?_, Dv⟩
    unfold L2.start
    rw [List.getElem?_append_left (by simp; omega)]
    exact e2
  · have e3 := List.mem_of_getElem? (by rw [List.getElem?_append_right (by simpa using hi)] at e; exact e)
    rw [(List.mem_replicate.mp e3).2]
    trivial
section
variable {P : Program} {w : World} {K : PySem.W.Frag} {mg : Str → Option Value} {base : Heap}
/-- the context of a def's body -/
abbrev Bx (P : Program) (w : World) (K : PySem.W.Frag) (mg : Str → Option Value) (base : Heap) (N : List Str) (qual : Str) (sc : Scope) (f : Addr) (cdv : Value) (A : Around) (outer : List Env) (s : Shared) (H : Hp) (E : XK) : Cx := (cxOf CX0 P w K mg base N qual sc f cdv A outer s H E).nox
theorem fn_con {x qual : Str} {st : Stmt} {f : Addr} {fd : FuncData} {N ps : List Str} {k : Nat} {P' : List PyData → (PyData → Prop) → Prop} (F : Fun K x qual st f fd) (S : FnScope N ps (defScope st)) (len : ∀ ds R, P' ds R → ds.length = ps.length)
    (body : ∀ (cdv : Value) (A : Around) (outer : List Env) (s : Shared) (H : Hp) (E : XK) (W : Wd) (ds : List PyData) (R : PyData → Prop), Room k (Bx P w K mg base N qual (defScope st) f cdv A outer s H E).A → P' ds R →
      Ess (Bx P w K mg base N qual (defScope st) f cdv A outer s H E) W (defBody st) (startZ N ds) { nx := fun _ => R .none, rt := R }) : FnOk P w K mg base CX0 (k + 1) f fd ps (Con K P') := by
  refine F.ok S (fun vs H Q E h => ?_) (fun cdv A outer s H vs Q E hr h => ?_)
  · obtain ⟨B, ds, R, _, h1, h2, _⟩ := h
    rw [dpAll_len h1]
    exact len ds R h2
  · obtain ⟨B, ds, R, sB, h1, h2, q⟩ := h
    refine ⟨_, pss_w, ?_⟩
    intro pins s0 I
    have L := start_lay (N := N) (T := none) (ns := (0, [])) sB (fun _ z => by cases z) h1
    refine thn ((body cdv A outer s H E ⟨none, (0, []), B, H⟩ ds R hr h2).run _ _ _ L pins s0 I) fun fl s' hs => ?_
    cases fl with
    | next => obtain ⟨σ', H', I', B', ρ', s', L', r⟩ := hs; exact ⟨σ', H', I', q .non H' B' .none L'.gr .non r⟩
    | brk => obtain ⟨σ', H', I', B', ρ', s', L', r⟩ := hs; exact r.elim
    | cont => obtain ⟨σ', H', I', B', ρ', s', L', r⟩ := hs; exact r.elim
    | ret u => obtain ⟨v, σ', H', I', r, B', d, g, Dv, rr⟩ := hs; exact ⟨v, σ', H', I', r, q v H' B' d g Dv rr⟩
/-- .. of a def that takes the tape first -/
theorem fn_conT {x qual : Str} {st : Stmt} {f : Addr} {fd : FuncData} {N ps : List Str} {k : Nat} {P' : List PyData → (PyData → Prop) → Prop} (F : Fun K x qual st f fd) (S : FnScope N ps (defScope st)) (len : ∀ ds R, P' ds R → ds.length + 1 = ps.length)
    (body : ∀ (cdv : Value) (A : Around) (outer : List Env) (s : Shared) (H : Hp) (E : XK) (W : Wd) (ds : List PyData) (R : PyData → Prop), Room k (Bx P w K mg base N qual (defScope st) f cdv A outer s H E).A → P' ds R →
      Ess (Bx P w K mg base N qual (defScope st) f cdv A outer s H E) W (defBody st) (.tape :: startZ N.tail ds) { nx := fun _ => R .none, rt := R }) (hN : N ≠ [] := by simp) : FnOk P w K mg base CX0 (k + 1) f fd ps (ConT K P') := by
  refine F.ok S (fun vs H Q E h => ?_) (fun cdv A outer s H vs Q E hr h => ?_)
  · obtain ⟨B, ds, R, T, ns, vs', rfl, _, _, h1, h2, _⟩ := h
    rw [List.length_cons, dpAll_len h1]
    exact len ds R h2
  · obtain ⟨B, ds, R, T, ns, vs', rfl, sB, tp, h1, h2, q⟩ := h
    refine ⟨_, pss_w, ?_⟩
    intro pins s0 I
    have tt : ∀ a, some T = some a → Tape ns B H a := fun a z => by cases z; exact tp
    have L0 := start_lay (N := N.tail) (T := some T) sB tt h1
    have e1 : L2.start N (V.ref T :: vs') = some (V.ref T) :: L2.start N.tail vs' := by
      cases N with
      | nil => exact absurd rfl hN
      | cons n N => simp [L2.start]
    have L : Lay K ⟨some T, ns, B, H⟩ B H (L2.start N (V.ref T :: vs')) (.tape :: startZ N.tail ds) := by
      rw [e1]
      refine ⟨L0.gr, by simp [L0.len], fun i sl e => ?_, fun i j s t hne f1 f2 o1 o2 => ?_⟩
      · cases i with
        | zero =>
          simp at e
          subst e
          exact ⟨T, rfl, by simp⟩
        | succ i => simpa using L0.at' i sl (by simpa using e)
      · cases i with
        | zero =>
          simp at f1
          subst f1
          cases o1
        | succ i =>
          have f1' : (startZ N.tail ds)[i]? = some s := by simpa using f1
          rw [start_ow f1'] at o1
          cases o1
    refine thn ((body cdv A outer s H E ⟨some T, ns, B, H⟩ ds R hr h2).run _ _ _ L pins s0 I) fun fl s' hs => ?_
    cases fl with
    | next => obtain ⟨σ', H', I', B', ρ', s', L', r⟩ := hs; exact ⟨σ', H', I', q .non H' B' .none L'.gr .non r⟩
    | brk => obtain ⟨σ', H', I', B', ρ', s', L', r⟩ := hs; exact r.elim
    | cont => obtain ⟨σ', H', I', B', ρ', s', L', r⟩ := hs; exact r.elim
    | ret u => obtain ⟨v, σ', H', I', r, B', d, g, Dv, rr⟩ := hs; exact ⟨v, σ', H', I', r, q v H' B' d g Dv rr⟩
end
end Z

namespace Z
open PySem PySem.Spec PyProof.Rows L2
theorem zu {k : Nat} {A : Around} (hr : Room k A) : A.units + 64 < cLine := by have := hr.un; omega
theorem zu5 {k : Nat} {A : Around} (hr : Room k A) : A.units + 65 < cLine := by have := hr.un; omega
theorem zu1 {k : Nat} {A : Around} (hr : Room k A) : A.units + 1 < cLine := by have := hr.un; omega
theorem dB {p A B : Prop} [Decidable p] (h1 : p → A) (h2 : ¬ p → B) : (decide p = true → A) ∧ (decide p = false → B) := ⟨fun h => h1 (of_decide_eq_true h), fun h => h2 (of_decide_eq_false h)⟩
theorem dN {p A B : Prop} [Decidable p] (h1 : ¬ p → A) (h2 : p → B) : ((!decide p) = true → A) ∧ ((!decide p) = false → B) := ⟨fun h => h1 (by simpa using h), fun h => h2 (by simpa using h)⟩
theorem divs {i j : Int} (h : 0 < j) (h2 : j < 10 ^ 60) : CDivW i j := wide_div (b := 200) h (by omega) (by decide) (by decide)
theorem mull {i j : Int} (h : -(2 ^ 63) ≤ i) (h2 : i ≤ 2 ^ 63) : CMul i j := .inl ⟨by omega, by omega⟩
theorem mulr {i j : Int} (h : -(2 ^ 63) ≤ j) (h2 : j ≤ 2 ^ 63) : CMul i j := .inr ⟨by omega, by omega⟩
/-- an item of a written list at a place within -/
theorem pick {ds : List PyData} {n : Int} {Pr : PyData → Prop} (h0 : 0 ≤ n) (h1 : n < ds.length) (h : ∀ d ∈ ds, Pr d) : ∃ d, atI ds n = some d ∧ Pr d := by
  obtain ⟨k, rfl⟩ := Int.eq_ofNat_of_zero_le h0
  have hk : k < ds.length := by omega
  exact ⟨ds[k], atI_nat (List.getElem?_eq_getElem hk), h _ (List.getElem_mem hk)⟩
section
variable {X : Cx} {W : Wd} {ρ : List Sl} {D : Dz} {R : PyData → Prop} {pos : Pos} {a b c e : Expr} {es : List Expr} {st : Stmt} {sts body : List Stmt}
theorem ev_powc {x y m : Int} {j1 j2 p1 p2} (h : R (.int m)) (hc : CPow x y := by exact ⟨by decide, by decide, by decide⟩) (hm : x ^ y.toNat = m := by decide) : Ev X W (.BinOp (.Constant (.int x) j1 p1) .Pow (.Constant (.int y) j2 p2) pos) ρ R := by
  subst hm
  exact ev_bin oz_pow (ev_int (ev_int ⟨hc, h⟩))
theorem Es.imp {D' : Dz} (h : Es X W st ρ D) (h1 : ∀ r, D.nx r → D'.nx r) (h2 : ∀ d, D.rt d → D'.rt d) (h3 : ∀ r, D.bk r → D'.bk r) (h4 : ∀ r, D.ct r → D'.ct r) : Es X W st ρ D' := by
  refine ⟨fun σ H B L pins s I => ?_⟩
  refine thn (h.run σ H B L pins s I) fun f s' q => ?_
  cases f with
  | next => obtain ⟨σ', H', I', B', ρ', s0, L', q⟩ := q; exact ⟨σ', H', I', B', ρ', s0, L', h1 _ q⟩
  | brk => obtain ⟨σ', H', I', B', ρ', s0, L', q⟩ := q; exact ⟨σ', H', I', B', ρ', s0, L', h3 _ q⟩
  | cont => obtain ⟨σ', H', I', B', ρ', s0, L', q⟩ := q; exact ⟨σ', H', I', B', ρ', s0, L', h4 _ q⟩
  | ret u => obtain ⟨v, σ', H', I', r, B', d, g, D1, q⟩ := q; exact ⟨v, σ', H', I', r, B', d, g, D1, h2 _ q⟩
/-- the ways of a statement join -/
theorem ess_cut (Mid : List Sl → Prop) (h : Es X W st ρ { D with nx := Mid }) (h2 : ∀ r, Mid r → Ess X W sts r D) : Ess X W (st :: sts) ρ D :=
  ess_cons (h.imp h2 (fun _ q => q) (fun _ q => q) fun _ q => q)
/-- a, b, c = x, y, z of plain locals -/
theorem es_par3 (i j l : Nat) {x y z : Str} {px py pz pt : Pos} {kt k2 pt2} (h : Ea X W [a, b, c] ρ fun ds => match ds with | [d, e, f] => D.nx (((ρ.set i (.im d)).set j (.im e)).set l (.im f)) | _ => False) (hc : X.calm = true) (hN : X.N.Nodup)
    (hi : X.N[i]? = some x := by rfl) (hj : X.N[j]? = some y := by rfl) (hl : X.N[l]? = some z := by rfl) (hij : i ≠ j := by decide) (hil : i ≠ l := by decide) (hjl : j ≠ l := by decide)
    (hx : X.env.scope.names.lookup x = some .local := by rfl) (hy : X.env.scope.names.lookup y = some .local := by rfl) (hz : X.env.scope.names.lookup z = some .local := by rfl)
    (hw : swappedStores [.Tuple [.Name x px, .Name y py, .Name z pz] kt pt] (.Tuple [a, b, c] k2 pt2) X.env = pure (some [x, y, z]) := by rfl)
    (hs : swapsWithSole [.Tuple [.Name x px, .Name y py, .Name z pz] kt pt] (.Tuple [a, b, c] k2 pt2) pos.line X.env = pure false := by rfl) :
    Es X W (.Assign [.Tuple [.Name x px, .Name y py, .Name z pz] kt pt] (.Tuple [a, b, c] k2 pt2) pos) ρ D := by
  refine ⟨fun σ H B L => (ps_par3 hc hN hi hj hl hij hil hjl hx hy hz pa_w hw hs).toZ ?_⟩
  refine h.run σ H B _ L fun vs H' B' ds s L' D' r => ?_
  cases D' with
  | nil => exact r.elim
  | cons h1 h2 =>
    cases h2 with
    | nil => exact r.elim
    | cons h3 h4 =>
      cases h4 with
      | nil => exact r.elim
      | cons h5 h6 =>
        cases h6 with
        | nil => exact ⟨_, _, _, rfl, B', _, s, ((L'.put h1).put h3).put h5, r⟩
        | cons _ _ => exact r.elim

/-! ### isinstance -/
def tyD : PyData → String
  | .none => "NoneType"
  | .bool _ => "bool"
  | .int _ => "int"
  | .str _ => "str"
  | .list _ => "list"
  | .tuple _ => "tuple"
  | .dict _ => "dict"
theorem tyX_of {K : PySem.W.Frag} {B H : Hp} {v : V} {d : PyData} (s : Same B H) (h : Dq K B v d) : TyX K H v (.type (tyD d)) := by
  cases h with
  | non => exact .base .non
  | bl b => exact .base (.bl b)
  | int i => exact .base (.int i)
  | str x => exact .base (.str x)
  | lst h _ => exact .base (.lst (s _ _ h))
  | tup h _ =>
    rcases seqT s h with (h | ⟨o, h⟩) | ⟨o, its, n, hk, hc, _⟩
    · exact .base (.tup h)
    · exact .fTuple h
    · exact .kTuple hk hc
/-- is d of the class T -/
def isD (T : String) (d : PyData) : Bool := (kitB (tyD d) T).getD false
theorem boot_isinstance : bootBuiltins "isinstance" = some (.builtin "isinstance") := by decide +kernel
theorem boot_ty : bootBuiltins "int" = some (.type "int") ∧ bootBuiltins "bool" = some (.type "bool") ∧ bootBuiltins "str" = some (.type "str") := by decide +kernel
theorem ev_isi {T : Str} {n : String} {p p2 : Pos} (hm : X.mg "isinstance" = none) (hT : X.mg T = none) (hb : bootBuiltins T = some (.type n)) (h : Ev X W e ρ fun d => (kitB (tyD d) n).isSome = true ∧ R (.bool (isD n d))) (hg : Gl X "isinstance" := by rfl) (hg2 : Gl X T := by rfl)
    (he : starEach [e, .Name T p2] X.env = (false, eval e X.env) :: starEach [.Name T p2] X.env := by rfl) (he2 : starEach [.Name T p2] X.env = (false, eval (.Name T p2) X.env) :: starEach [] X.env := by rfl) (hpl : (backTo pos (starEach [.Name T p2] X.env)).any (·.1) = false := by rfl)
    (hn : T ≠ "__name__" := by decide) (hd : (T == ("__debug__" : Str)) = false := by decide) : Ev X W (.Call (.Name "isinstance" p) [e, .Name T p2] [] pos) ρ R := by
  refine ⟨fun σ H B Q L k => (pe_callB call_isi hg hm boot_isinstance (pa_cons pe_w (pa_cons (pe_bltn hg2 hT hb (v := .ty n) rfl hn hd) pa_nil he2) he) (by decide) (by decide) he hpl).toZ ?_⟩
  refine h.run σ H B _ L fun v H1 B1 d s1 L1 D1 h2 => ?_
  obtain ⟨r, hr⟩ := Option.isSome_iff_exists.mp h2.1
  refine ⟨v, .ty n, _, _, r, rfl, .ty n, tyX_of L1.gr.sub D1, kit_ty hr, ?_⟩
  have e1 : isD n d = r := by unfold isD; rw [hr]; rfl
  rw [← e1]
  exact k _ H1 B1 _ s1 L1 (.bl _) h2.2
/-- isinstance(e, (list, tuple)) -/
def isLT : PyData → Bool
  | .list _ => true
  | .tuple _ => true
  | _ => false
theorem kit_tab : ∀ t ∈ ["NoneType", "bool", "int", "str", "list", "tuple", "dict"], ∀ n ∈ ["int", "bool", "str", "list", "tuple"], kitB t n = some (t == n || (t == "bool" && n == "int")) := by decide +kernel
theorem tyD_mem (d : PyData) : tyD d ∈ ["NoneType", "bool", "int", "str", "list", "tuple", "dict"] := by
  cases d <;> simp [tyD]
theorem kit_of_tab (d : PyData) {n : String} (hn : n ∈ ["int", "bool", "str", "list", "tuple"]) : kitB (tyD d) n = some (tyD d == n || (tyD d == "bool" && n == "int")) := kit_tab _ (tyD_mem d) n hn
theorem isD_of (d : PyData) {n : String} (hn : n ∈ ["int", "bool", "str", "list", "tuple"]) : isD n d = (tyD d == n || (tyD d == "bool" && n == "int")) := by
  unfold isD
  rw [kit_of_tab d hn]
  rfl
theorem isLT_kit {K : PySem.W.Frag} (d : PyData) : PySem.W.kitAny K (.type (tyD d)) [.type "list", .type "tuple"] = some (isLT d) := by
  have q : ∀ d : PyData, kitB (tyD d) "list" = some (match d with | .list _ => true | _ => false) ∧ kitB (tyD d) "tuple" = some (match d with | .tuple _ => true | _ => false) := by
    intro d
    rw [kit_of_tab d (by simp), kit_of_tab d (by simp)]
    cases d <;> exact ⟨rfl, rfl⟩
  obtain ⟨q1, q2⟩ := q d
  refine kitAny_cons (kit_ty q1) (fun z => kitAny_cons (kit_ty q2) (fun z2 => ?_) fun z2 => ?_) fun z => ?_
  · rw [kitAny_nil]
    cases d <;> first | rfl | (simp at z; done) | (simp at z2; done)
  · cases d <;> first | rfl | (simp at z2; done)
  · cases d <;> first | rfl | (simp at z; done)
theorem ev_isiLT {p p1 p2 p3 : Pos} {x1} (hm : X.mg "isinstance" = none) (h1 : X.mg "list" = none) (h2 : X.mg "tuple" = none) (h : Ev X W e ρ fun d => R (.bool (isLT d))) (hg : Gl X "isinstance" := by rfl) (hgl : Gl X "list" := by rfl) (hgt : Gl X "tuple" := by rfl)
    (he : starEach [e, .Tuple [.Name "list" p1, .Name "tuple" p2] x1 p3] X.env = (false, eval e X.env) :: starEach [.Tuple [.Name "list" p1, .Name "tuple" p2] x1 p3] X.env := by rfl)
    (he2 : starEach [.Tuple [.Name "list" p1, .Name "tuple" p2] x1 p3] X.env = (false, eval (.Tuple [.Name "list" p1, .Name "tuple" p2] x1 p3) X.env) :: starEach [] X.env := by rfl)
    (he3 : starEach [.Name "list" p1, .Name "tuple" p2] X.env = (false, eval (.Name "list" p1) X.env) :: starEach [.Name "tuple" p2] X.env := by rfl) (he4 : starEach [.Name "tuple" p2] X.env = (false, eval (.Name "tuple" p2) X.env) :: starEach [] X.env := by rfl)
    (hpl : (backTo pos (starEach [.Tuple [.Name "list" p1, .Name "tuple" p2] x1 p3] X.env)).any (·.1) = false := by rfl) : Ev X W (.Call (.Name "isinstance" p) [e, .Tuple [.Name "list" p1, .Name "tuple" p2] x1 p3] [] pos) ρ R := by
  refine ⟨fun σ H B Q L k => (pe_callB call_isiT hg hm boot_isinstance (pa_cons pe_w (pa_cons (pe_tup (pa_cons (pe_bltn hgl h1 boot_list (v := .ty "list") rfl) (pa_cons (pe_bltn hgt h2 boot_tuple (v := .ty "tuple") rfl) pa_nil he4) he3)) pa_nil he2) he) (by decide) (by decide) he hpl).toZ ?_⟩
  refine h.run σ H B _ L fun v H1 B1 d s1 L1 D1 h2 => ?_
  refine ⟨by show 2 ≤ sizeLine; decide, fun t ht => ?_⟩
  obtain ⟨s, L'⟩ := L1.fresh ht (.tup [.ty "list", .ty "tuple"])
  exact ⟨v, t, _, _, [.type "list", .type "tuple"], isLT d, rfl, upd_same, .cons (.ty _) (.cons (.ty _) .nil), tyX_of L'.gr.sub (dpMono s _ _ D1), isLT_kit d, k _ _ _ _ (s1.trans s) L' (.bl _) h2⟩

/-! ### the law's tape -/
theorem Lay.tape {K : PySem.W.Frag} {B H : Hp} {σ : L2.St} (L : Lay K W B H σ ρ) {T : Addr} (hT : W.T = some T) {vs : List V} (t : Tape W.ns B (upd H T (.lst vs)) T) : Lay K W B (upd H T (.lst vs)) σ ρ := by
  obtain ⟨t1, t2⟩ := L.gr.tp T hT
  refine ⟨⟨same_right L.gr.sub t2.1, L.gr.base, L.gr.new, fun a o h1 h2 => ?_, fun T' h => ?_⟩, L.len, fun i sl e => (L.at' i sl e).grow (Same.refl _) fun a u g1 g2 g3 g4 g5 => ⟨g3, ?_⟩, L.dis⟩
  · have ha : a ≠ T := by
      rintro rfl
      exact h2 hT
    rw [upd_ne ha]
    exact L.gr.keep a o h1 h2
  · rw [hT] at h
    cases h
    exact ⟨t1, t⟩
  · have ha : a ≠ T := by
      rintro rfl
      exact t1 g4
    rw [upd_ne ha]
    exact g5
/-- tape[0], tape[1], tape[2] -/
theorem ev_tape0 (i : Nat) {x : Str} {px p2 : Pos} {j2} (hρ : ρ[i]? = some .tape) (h : R (.list (W.ns.2.map PyData.int))) (hN : X.N[i]? = some x := by rfl) (hv : Vis X.env.scope x := by first | exact Or.inl rfl | exact Or.inr (Or.inl rfl) | exact Or.inr (Or.inr rfl))
    (hd : (x == ("__debug__" : Str)) = false := by decide) (hcd : (x == ("__classdict__" : Str)) = false := by decide) : Ev X W (.Subscript (.Name x px) (.Constant (.int 0) j2 p2) pos) ρ R := by
  refine ⟨fun σ H B Q L k => (pe_ix ix_list (pe_var hN hv hd hcd) pe_int fun _ _ => rfl).toZ ?_⟩
  obtain ⟨T, hT, e1⟩ := L.at' i _ hρ
  obtain ⟨_, _, z, c, e, _, _, q⟩ := L.gr.tp T hT
  exact ⟨.ref T, e1, T, _, 0, .ref W.ns.1, rfl, rfl, SqL.of e, rfl, k _ H B _ (Same.refl _) L (.lst q (ints_dq _)) h⟩
theorem ev_tape1 (i : Nat) {x : Str} {px p2 : Pos} {j2} (hρ : ρ[i]? = some .tape) (h : ∀ z : Int, 0 ≤ z → R (.int z)) (hN : X.N[i]? = some x := by rfl) (hv : Vis X.env.scope x := by first | exact Or.inl rfl | exact Or.inr (Or.inl rfl) | exact Or.inr (Or.inr rfl))
    (hd : (x == ("__debug__" : Str)) = false := by decide) (hcd : (x == ("__classdict__" : Str)) = false := by decide) : Ev X W (.Subscript (.Name x px) (.Constant (.int 1) j2 p2) pos) ρ R := by
  refine ⟨fun σ H B Q L k => (pe_ix ix_list (pe_var hN hv hd hcd) pe_int fun _ _ => rfl).toZ ?_⟩
  obtain ⟨T, hT, e1⟩ := L.at' i _ hρ
  obtain ⟨_, _, z, c, e, z0, _, q⟩ := L.gr.tp T hT
  exact ⟨.ref T, e1, T, _, 1, .int z, rfl, rfl, SqL.of e, rfl, k _ H B _ (Same.refl _) L (.int z) (h z z0)⟩
theorem ev_tape2 (i : Nat) {x : Str} {px p2 : Pos} {j2} (hρ : ρ[i]? = some .tape) (h : ∀ z : Int, 0 ≤ z → R (.int z)) (hN : X.N[i]? = some x := by rfl) (hv : Vis X.env.scope x := by first | exact Or.inl rfl | exact Or.inr (Or.inl rfl) | exact Or.inr (Or.inr rfl))
    (hd : (x == ("__debug__" : Str)) = false := by decide) (hcd : (x == ("__classdict__" : Str)) = false := by decide) : Ev X W (.Subscript (.Name x px) (.Constant (.int 2) j2 p2) pos) ρ R := by
  refine ⟨fun σ H B Q L k => (pe_ix ix_list (pe_var hN hv hd hcd) pe_int fun _ _ => rfl).toZ ?_⟩
  obtain ⟨T, hT, e1⟩ := L.at' i _ hρ
  obtain ⟨_, _, z, c, e, _, c0, q⟩ := L.gr.tp T hT
  exact ⟨.ref T, e1, T, _, 2, .int c, rfl, rfl, SqL.of e, rfl, k _ H B _ (Same.refl _) L (.int c) (h c c0)⟩
/-- tape[1] = e, tape[2] = e -/
theorem es_tape (i : Nat) {x : Str} {px p2 p3 : Pos} {j : Int} {j2} (hj : j = 1 ∨ j = 2) (hρ : ρ[i]? = some .tape) (h : Ev X W e ρ fun d => match d with | .int z => 0 ≤ z ∧ D.nx ρ | _ => False) (hN : X.N[i]? = some x := by rfl)
    (hv : Vis X.env.scope x := by first | exact Or.inl rfl | exact Or.inr (Or.inl rfl) | exact Or.inr (Or.inr rfl)) (hd : (x == ("__debug__" : Str)) = false := by decide) (hcd : (x == ("__classdict__" : Str)) = false := by decide)
    (ha : ∀ v, assign (.Subscript (.Name x px) (.Constant (.int j) j2 p3) p2) X.env v = (do
      let ov ← holding [v] (eval (.Name x px) X.env)
      let iv ← holding [v, ov] (eval (.Constant (.int j) j2 p3) X.env)
      standAt p2
      holding [v, ov, iv] (setItem ov iv v)
      release [v, ov, iv] []) := by intro _; rfl) (hs : swapsWithSole [.Subscript (.Name x px) (.Constant (.int j) j2 p3) p2] e pos.line X.env = pure false := by rfl) (hw : swappedStores [.Subscript (.Name x px) (.Constant (.int j) j2 p3) p2] e X.env = pure none := by rfl)
    (h1 : (assignEach [.Subscript (.Name x px) (.Constant (.int j) j2 p3) p2] X.env).map (·.2) = [assign (.Subscript (.Name x px) (.Constant (.int j) j2 p3) p2) X.env] := by rfl) : Es X W (.Assign [.Subscript (.Name x px) (.Constant (.int j) j2 p3) p2] e pos) ρ D := by
  refine ⟨fun σ H B L => (ps_asg pe_w (pg_sub (pe_var hN hv hd hcd) pe_int set_list ha) hs hw h1).toZ ?_⟩
  refine h.run σ H B _ L fun v H1 B1 d s1 L1 D1 h2 => ?_
  cases d <;> first | exact h2.elim | skip
  rename_i z
  cases dp_int D1
  obtain ⟨T, hT, e1⟩ := L1.at' i _ hρ
  obtain ⟨_, t1, z0, c, e, hz0, hc0, q⟩ := L1.gr.tp T hT
  rcases hj with rfl | rfl
  · exact ⟨.ref T, e1, T, _, 1, 1, rfl, rfl, e, rfl, B1, ρ, s1, L1.tape hT ⟨t1, z, c, upd_same, h2.1, hc0, q⟩, h2.2⟩
  · exact ⟨.ref T, e1, T, _, 2, 2, rfl, rfl, e, rfl, B1, ρ, s1, L1.tape hT ⟨t1, z0, z, upd_same, hz0, h2.1, q⟩, h2.2⟩
end
/-- the law's promise -/
def spLaw (K : PySem.W.Frag) : Sp := fun vs H Q _ => ∃ (a : Addr) (ns : List Int), vs = [.ref a] ∧ SqL K H a (ns.map V.int) ∧ ns.length ≤ 63 ∧ ∀ H', Q (.bl true) H'
section
variable {P : Program} {w : World} {K : PySem.W.Frag} {mg : Str → Option Value} {base : Heap}
theorem lay_start {K : PySem.W.Frag} {W : Wd} {B H : Hp} (g : Gr K W B H) {T : Addr} (hT : W.T = some T) {σ : L2.St} (i : Nat) (e : σ[i]? = some (some (.ref T))) : Lay K W B H σ ((List.replicate σ.length Sl.no).set i .tape) := by
  refine ⟨g, by simp, fun j sl q => ?_, fun j k s t hne q1 q2 o1 o2 => ?_⟩
  · by_cases hj : i = j
    · subst hj
      have hl := (List.getElem?_eq_some_iff.mp e).1
      rw [List.getElem?_set_self (by simpa using hl)] at q
      cases q
      exact ⟨T, hT, e⟩
    · rw [List.getElem?_set_ne hj] at q
      have := List.mem_of_getElem? q
      rw [(List.mem_replicate.mp this).2]
      trivial
  · by_cases hj : i = j
    · subst hj
      have hl := (List.getElem?_eq_some_iff.mp e).1
      rw [List.getElem?_set_self (by simpa using hl)] at q1
      cases q1
      cases o1
    · rw [List.getElem?_set_ne hj] at q1
      have := List.mem_of_getElem? q1
      rw [(List.mem_replicate.mp this).2] at o1
      cases o1
/-- the law: tape = [list(script), 0, 0], then the rest over the tape -/
theorem fn_law {st : Stmt} {f : Addr} {fd : FuncData} {N : List Str} {k : Nat} (i : Nat) (F : Fun K "law" "law" st f fd) (S : FnScope N ["script"] (defScope st)) (nl : mg "list" = none) {p1 p2 p3 p4 p5 p6 p7 p8 : Pos} {k1 k2} {rest : List Stmt}
    (hb : defBody st = .Assign [.Name "tape" p1] (.List [.Call (.Name "list" p2) [.Name "script" p3] [] p4, .Constant (.int 0) k1 p5, .Constant (.int 0) k2 p6] p7) p8 :: rest)
    (hi : N[i]? = some ("tape" : Str)) (h0 : N[0]? = some ("script" : Str)) (hx : Loc (defScope st) "tape") (hv : Vis (defScope st) "script") (hg : (defScope st).names.lookup ("list" : Str) = some .globalImplicit) (hi0 : i ≠ 0)
    (body : ∀ (cdv : Value) (A : Around) (outer : List Env) (s : Shared) (H : Hp) (E : XK) (W : Wd), Room k (Bx P w K mg base N "law" (defScope st) f cdv A outer s H E).A → W.ns.2.length ≤ 63 →
      Ess (Bx P w K mg base N "law" (defScope st) f cdv A outer s H E) W rest ((List.replicate N.length Sl.no).set i .tape) { nx := fun _ => False, rt := fun d => d = .bool true }) : FnOk P w K mg base CX0 (k + 1) f fd ["script"] (spLaw K) := by
  refine F.ok S (fun vs H Q E h => ?_) (fun cdv A outer s H vs Q E hr h => ?_)
  · obtain ⟨a, ns, rfl, _⟩ := h
    rfl
  · obtain ⟨a, ns, rfl, hS, hlen, q⟩ := h
    rw [hb]
    refine ⟨_, pss_cons (ps_set (i := i) S.nd hi hx (pe_lst (pa_cons (pe_callTy call_list_of hg nl boot_list (pa_cons (pe_var (i := 0) h0 hv) pa_nil)) (pa_cons pe_int (pa_cons pe_int pa_nil)))) (by rfl) (.inl rfl)) pss_w, ?_⟩
    have e0 : (L2.start N [V.ref a])[0]? = some (some (.ref a)) := by simp [L2.start]
    refine ⟨.ref a, e0, a, _, rfl, .inl hS, fun l hl => ⟨by show 3 ≤ sizeLine; decide, fun t ht => ?_⟩⟩
    intro pins s0 I
    have hlt : t ≠ l := by
      rintro rfl
      rw [upd_same] at ht
      cases ht
    have s1 : Same (upd H l (.lst (ns.map V.int))) (upd (upd H l (.lst (ns.map V.int))) t (.lst [.ref l, .int 0, .int 0])) := same_new ht
    have tp : ∀ x, some t = some x → Tape (l, ns) (upd H l (.lst (ns.map V.int))) (upd (upd H l (.lst (ns.map V.int))) t (.lst [.ref l, .int 0, .int 0])) x := fun x z => by
      cases z
      exact ⟨ht, 0, 0, upd_same, by decide, by decide, upd_same⟩
    have hl2 : i < (L2.start N [V.ref a]).length := by
      have := (List.getElem?_eq_some_iff.mp hi).1
      simp [L2.start]
      omega
    have L := lay_start (K := K) (Gr.refl s1 tp) (T := t) rfl (σ := (L2.start N [V.ref a]).set i (some (.ref t))) i (by rw [List.getElem?_set_self hl2])
    have el : ((L2.start N [V.ref a]).set i (some (.ref t))).length = N.length := by
      have := (List.getElem?_eq_some_iff.mp h0).1
      simp [L2.start]
      omega
    rw [el] at L
    refine thn ((body cdv A outer s H E ⟨some t, (l, ns), _, _⟩ hr hlen).run _ _ _ L pins s0 I) fun fl s' hs => ?_
    cases fl with
    | next => obtain ⟨σ', H', I', B', ρ', s', L', r⟩ := hs; exact r.elim
    | brk => obtain ⟨σ', H', I', B', ρ', s', L', r⟩ := hs; exact r.elim
    | cont => obtain ⟨σ', H', I', B', ρ', s', L', r⟩ := hs; exact r.elim
    | ret u =>
      obtain ⟨v, σ', H', I', r, B', d, g, Dv, rr⟩ := hs
      subst rr
      cases dp_bool Dv
      exact ⟨.bl true, σ', H', I', r, q H'⟩
end
end Z

namespace Z
open PySem PySem.Spec PyProof.Rows L2
def isIntD : PyData → Bool | .int _ => true | .bool _ => true | _ => false
def isBoolD : PyData → Bool | .bool _ => true | _ => false
def isListD : PyData → Bool | .list _ => true | _ => false
def isTupD : PyData → Bool | .tuple _ => true | _ => false
def isStrD : PyData → Bool | .str _ => true | _ => false
theorem boot_int' : bootBuiltins "int" = some (.type "int") := by decide +kernel
theorem boot_bool' : bootBuiltins "bool" = some (.type "bool") := by decide +kernel
theorem boot_str' : bootBuiltins "str" = some (.type "str") := by decide +kernel
theorem isD_int (d : PyData) : isD "int" d = isIntD d := by rw [isD_of d (by simp)]; cases d <;> rfl
theorem isD_bool (d : PyData) : isD "bool" d = isBoolD d := by rw [isD_of d (by simp)]; cases d <;> rfl
theorem isD_list (d : PyData) : isD "list" d = isListD d := by rw [isD_of d (by simp)]; cases d <;> rfl
theorem isD_tuple (d : PyData) : isD "tuple" d = isTupD d := by rw [isD_of d (by simp)]; cases d <;> rfl
theorem isD_str (d : PyData) : isD "str" d = isStrD d := by rw [isD_of d (by simp)]; cases d <;> rfl
section
variable {X : Cx} {W : Wd} {ρ : List Sl} {D : Dz} {R : PyData → Prop} {pos : Pos} {a b c e : Expr} {es : List Expr} {st : Stmt} {sts body : List Stmt}
theorem ev_isInt {p p2 : Pos} (hm : X.mg "isinstance" = none) (hT : X.mg "int" = none) (h : Ev X W e ρ fun d => R (.bool (isIntD d))) (hg : Gl X "isinstance" := by rfl) (hg2 : Gl X "int" := by rfl)
    (he : starEach [e, .Name "int" p2] X.env = (false, eval e X.env) :: starEach [.Name "int" p2] X.env := by rfl) (he2 : starEach [.Name "int" p2] X.env = (false, eval (.Name "int" p2) X.env) :: starEach [] X.env := by rfl) (hpl : (backTo pos (starEach [.Name "int" p2] X.env)).any (·.1) = false := by rfl) :
    Ev X W (.Call (.Name "isinstance" p) [e, .Name "int" p2] [] pos) ρ R :=
  ev_isi hm hT boot_int' (h.imp fun d q => ⟨by rw [kit_of_tab d (by simp)]; rfl, by rw [isD_int]; exact q⟩) hg hg2 he he2 hpl
theorem ev_isBool {p p2 : Pos} (hm : X.mg "isinstance" = none) (hT : X.mg "bool" = none) (h : Ev X W e ρ fun d => R (.bool (isBoolD d))) (hg : Gl X "isinstance" := by rfl) (hg2 : Gl X "bool" := by rfl)
    (he : starEach [e, .Name "bool" p2] X.env = (false, eval e X.env) :: starEach [.Name "bool" p2] X.env := by rfl) (he2 : starEach [.Name "bool" p2] X.env = (false, eval (.Name "bool" p2) X.env) :: starEach [] X.env := by rfl) (hpl : (backTo pos (starEach [.Name "bool" p2] X.env)).any (·.1) = false := by rfl) :
    Ev X W (.Call (.Name "isinstance" p) [e, .Name "bool" p2] [] pos) ρ R :=
  ev_isi hm hT boot_bool' (h.imp fun d q => ⟨by rw [kit_of_tab d (by simp)]; rfl, by rw [isD_bool]; exact q⟩) hg hg2 he he2 hpl
theorem ev_isList {p p2 : Pos} (hm : X.mg "isinstance" = none) (hT : X.mg "list" = none) (h : Ev X W e ρ fun d => R (.bool (isListD d))) (hg : Gl X "isinstance" := by rfl) (hg2 : Gl X "list" := by rfl)
    (he : starEach [e, .Name "list" p2] X.env = (false, eval e X.env) :: starEach [.Name "list" p2] X.env := by rfl) (he2 : starEach [.Name "list" p2] X.env = (false, eval (.Name "list" p2) X.env) :: starEach [] X.env := by rfl) (hpl : (backTo pos (starEach [.Name "list" p2] X.env)).any (·.1) = false := by rfl) :
    Ev X W (.Call (.Name "isinstance" p) [e, .Name "list" p2] [] pos) ρ R :=
  ev_isi hm hT boot_list (h.imp fun d q => ⟨by rw [kit_of_tab d (by simp)]; rfl, by rw [isD_list]; exact q⟩) hg hg2 he he2 hpl
theorem ev_isTup {p p2 : Pos} (hm : X.mg "isinstance" = none) (hT : X.mg "tuple" = none) (h : Ev X W e ρ fun d => R (.bool (isTupD d))) (hg : Gl X "isinstance" := by rfl) (hg2 : Gl X "tuple" := by rfl)
    (he : starEach [e, .Name "tuple" p2] X.env = (false, eval e X.env) :: starEach [.Name "tuple" p2] X.env := by rfl) (he2 : starEach [.Name "tuple" p2] X.env = (false, eval (.Name "tuple" p2) X.env) :: starEach [] X.env := by rfl) (hpl : (backTo pos (starEach [.Name "tuple" p2] X.env)).any (·.1) = false := by rfl) :
    Ev X W (.Call (.Name "isinstance" p) [e, .Name "tuple" p2] [] pos) ρ R :=
  ev_isi hm hT boot_tuple (h.imp fun d q => ⟨by rw [kit_of_tab d (by simp)]; rfl, by rw [isD_tuple]; exact q⟩) hg hg2 he he2 hpl
theorem ev_isStr {p p2 : Pos} (hm : X.mg "isinstance" = none) (hT : X.mg "str" = none) (h : Ev X W e ρ fun d => R (.bool (isStrD d))) (hg : Gl X "isinstance" := by rfl) (hg2 : Gl X "str" := by rfl)
    (he : starEach [e, .Name "str" p2] X.env = (false, eval e X.env) :: starEach [.Name "str" p2] X.env := by rfl) (he2 : starEach [.Name "str" p2] X.env = (false, eval (.Name "str" p2) X.env) :: starEach [] X.env := by rfl) (hpl : (backTo pos (starEach [.Name "str" p2] X.env)).any (·.1) = false := by rfl) :
    Ev X W (.Call (.Name "isinstance" p) [e, .Name "str" p2] [] pos) ρ R :=
  ev_isi hm hT boot_str' (h.imp fun d q => ⟨by rw [kit_of_tab d (by simp)]; rfl, by rw [isD_str]; exact q⟩) hg hg2 he he2 hpl
/-- == of two bools -/
theorem oz_eqB : OpZ X (compareOp .Eq) (fun x y R => match x, y with | .bool i, .bool j => R (.bool (decide (i = j))) | _, _ => False) := by
  refine ⟨_, op_eq, fun W σ ρ H B v u d e R Q L D1 D2 r k => ?_⟩
  cases d <;> cases e <;> first | exact r.elim | skip
  rename_i i j
  cases dp_bool D1
  cases dp_bool D2
  refine ⟨rfl, ?_⟩
  have e1 : decide (V.bl i = V.bl j) = decide (i = j) := by
    by_cases h : i = j
    · subst h; simp
    · rw [decide_eq_false h, decide_eq_false fun q => h (V.bl.inj q)]
  rw [e1]
  exact k _ H B _ (Same.refl _) L (.bl _) r
theorem oz_neB : OpZ X (compareOp .NotEq) (fun x y R => match x, y with | .bool i, .bool j => R (.bool (!decide (i = j))) | _, _ => False) := by
  refine ⟨_, op_ne, fun W σ ρ H B v u d e R Q L D1 D2 r k => ?_⟩
  cases d <;> cases e <;> first | exact r.elim | skip
  rename_i i j
  cases dp_bool D1
  cases dp_bool D2
  refine ⟨rfl, ?_⟩
  have e1 : decide (V.bl i = V.bl j) = decide (i = j) := by
    by_cases h : i = j
    · subst h; simp
    · rw [decide_eq_false h, decide_eq_false fun q => h (V.bl.inj q)]
  rw [e1]
  exact k _ H B _ (Same.refl _) L (.bl _) r
end
end Z

namespace Z
open PySem PySem.Spec PyProof.Rows L2
theorem noF {A B : Prop} (h : B) : (false = true → A) ∧ (false = false → B) := ⟨fun z => (by cases z), fun _ => h⟩
theorem yesT {A B : Prop} (h : A) : (true = true → A) ∧ (true = false → B) := ⟨fun _ => h, fun z => (by cases z)⟩
section
variable {X : Cx} {W : Wd} {ρ : List Sl} {D : Dz} {R : PyData → Prop} {pos : Pos} {a b c e : Expr} {es : List Expr} {st : Stmt} {sts body : List Stmt}
/-- is not True, of a bool -/
theorem et_notTrue {R : Bool → Prop} {j p2} (h : Ev X W e ρ (tst fun k => R (!k))) : Et X W (.Compare e [.IsNot] [.Constant (.bool true) j p2] pos) ρ R := by
  refine ⟨fun σ H B Q L k => (pt_cmpR op_isnot_bl pe_w pe_bl (nomark _)).toZ ?_⟩
  refine h.run σ H B _ L fun v H1 B1 d s1 L1 D1 h2 => ?_
  cases d <;> first | exact h2.elim | skip
  rename_i kk
  refine ⟨kk, true, dp_bool D1, rfl, _, rfl, ?_⟩
  have e1 : (!decide (kk = true)) = !kk := by cases kk <;> rfl
  rw [e1]
  exact k _ H1 B1 s1 L1 h2
/-- is True, of a bool -/
theorem ev_isTrue {j p2} (h : Ev X W e ρ (tst fun k => R (.bool k))) : Ev X W (.Compare e [.Is] [.Constant (.bool true) j p2] pos) ρ R := by
  refine ⟨fun σ H B Q L k => (pe_cmpR op_is_bl pe_w pe_bl (nomark _)).toZ ?_⟩
  refine h.run σ H B _ L fun v H1 B1 d s1 L1 D1 h2 => ?_
  cases d <;> first | exact h2.elim | skip
  rename_i kk
  refine ⟨kk, true, dp_bool D1, rfl, ?_⟩
  have e1 : (decide (kk = true)) = kk := by cases kk <;> rfl
  rw [e1]
  exact k _ H1 B1 _ s1 L1 (.bl _) h2
/-! ### slices -/
def cutD (xs : List PyData) (lo hi : Option Int) : List PyData := (xs.drop (HT.sIx xs.length 0 lo)).take (HT.sIx xs.length xs.length hi - HT.sIx xs.length 0 lo)
theorem cut_dq {K : PySem.W.Frag} {B : Hp} {ds : List PyData} {vs : List V} (h : DqAll K B vs ds) (lo hi : Option Int) : DqAll K B (cutV vs lo hi) (cutD ds lo hi) := by
  unfold cutV cutD
  rw [dpAll_len h]
  exact dpAll_take _ (dpAll_drop _ h)
def tWo (X : Cx) (o : Option Expr) : TO := match o with
  | none => tNoPart
  | some e => tPart (tW X e)
theorem po_w {o : Option Expr} : PO X o (tWo X o) := match o with
  | none => po_none
  | some _ => po_some pe_w
structure Eo (X : Cx) (W : Wd) (o : Option Expr) (ρ : List Sl) (R : Option Int → Prop) : Prop where
  run : ∀ (σ : L2.St) (H B : Hp) (Q : Option Int → Hp → Prop), Lay X.K W B H σ ρ → (∀ v H' B', Same B B' → Lay X.K W B' H' σ ρ → R v → Q v H') → tWo X o σ H Q
theorem eo_none {R : Option Int → Prop} (h : R none) : Eo X W none ρ R := ⟨fun σ H B Q L k => k none H B (Same.refl _) L h⟩
@[reducible] def rInt : PyData → (Int → Prop) → Prop
  | .int i, R => R i
  | _, _ => False
theorem eo_some {R : Option Int → Prop} (h : Ev X W e ρ fun d => rInt d fun i => R (some i)) : Eo X W (some e) ρ R := by
  refine ⟨fun σ H B Q L k => ?_⟩
  refine h.run σ H B _ L fun v H1 B1 d s1 L1 D1 h2 => ?_
  cases d <;> first | exact h2.elim | skip
  exact ⟨_, dp_int D1, k _ H1 B1 s1 L1 h2⟩
/-- t[lo:hi] of a tuple -/
theorem ev_slT {lo hi : Option Expr} {p2 : Pos} (h : Ev X W e ρ fun d => Eo X W lo ρ fun l => Eo X W hi ρ fun u => match d with | .tuple ds => R (.tuple (cutD ds l u)) | _ => False) : Ev X W (.Subscript e (.Slice lo hi none p2) pos) ρ R := by
  refine ⟨fun σ H B Q L k => (pe_slice sl_tupA pe_w po_w po_w).toZ ?_⟩
  refine h.run σ H B _ L fun v H1 B1 d s1 L1 D1 h2 => ?_
  refine h2.run σ H1 B1 _ L1 fun l H2 B2 s2 L2 h3 => ?_
  refine h3.run σ H2 B2 _ L2 fun u H3 B3 s3 L3 h4 => ?_
  cases d <;> first | exact h4.elim | skip
  rename_i ds
  obtain ⟨q, vs, rfl, h5, h6⟩ := dp_tup D1
  have h7 := dpAllMono (s2.trans s3) _ _ h6
  refine ⟨q, vs, rfl, seqT ((s2.trans s3).trans L3.gr.sub) h5, fun hw => ?_, fun _ p hp => ?_⟩
  · have e1 : cutD ds l u = ds := by
      unfold cutD
      rw [dpAll_len h6] at hw
      rw [hw.1, hw.2]
      simp
    have h4' : R (.tuple (cutD ds l u)) := h4
    rw [e1] at h4'
    exact k _ H3 B3 _ ((s1.trans s2).trans s3) L3 (dpMono (s2.trans s3) _ _ D1) h4'
  · obtain ⟨s, L'⟩ := L3.fresh hp (.tup (cutV vs l u))
    exact k _ _ _ _ (((s1.trans s2).trans s3).trans s) L' (.tup (SqT.of upd_same) (dpAllMono s _ _ (cut_dq h7 l u))) h4
/-- xs[lo:hi] of a list -/
theorem el_sl {lo hi : Option Expr} {p2 : Pos} {R : List PyData → Prop} (h : Ev X W e ρ fun d => Eo X W lo ρ fun l => Eo X W hi ρ fun u => match d with | .list ds => R (cutD ds l u) | _ => False) : El X W (.Subscript e (.Slice lo hi none p2) pos) ρ R := by
  refine ⟨fun σ H B Q L k => (pe_slice sl_list pe_w po_w po_w).toZ ?_⟩
  refine h.run σ H B _ L fun v H1 B1 d s1 L1 D1 h2 => ?_
  refine h2.run σ H1 B1 _ L1 fun l H2 B2 s2 L2 h3 => ?_
  refine h3.run σ H2 B2 _ L2 fun u H3 B3 s3 L3 h4 => ?_
  cases d <;> first | exact h4.elim | skip
  rename_i ds
  obtain ⟨q, vs, rfl, h5, h6⟩ := dp_list D1
  have h7 := cut_dq (dpAllMono (s2.trans s3) _ _ h6) l u
  refine ⟨q, vs, rfl, SqL.of (L3.gr.sub _ _ ((s2.trans s3) _ _ h5)), fun p hp => ?_⟩
  obtain ⟨L', q1, q2, q3, q4⟩ := fresh_own L3 hp (cutD ds l u) (cutV vs l u) h7
  exact k p _ _ B3 _ ((s1.trans s2).trans s3) L' q1 q2 q3 q4 h7 h4
end
end Z
namespace Z
open PySem PySem.Spec PyProof.Rows L2
section
variable {X : Cx} {W : Wd} {ρ : List Sl} {D : Dz} {pos : Pos} {a b c e : Expr} {es : List Expr} {st : Stmt} {sts body : List Stmt}
/-! ### an own list lent to a test -/
theorem Lay.lend (L : Lay X.K W B H σ ρ) {i : Nat} {ds : List PyData} (hρ : ρ[i]? = some (.own ds)) (ho : ∀ (j : Nat) (sl : Sl), j ≠ i → ρ[j]? = some sl → sl.ow = false) :
    ∃ B1, Same B B1 ∧ Lay X.K W B1 H σ (ρ.set i (.im (.list ds))) ∧ ∀ B' H', Same B1 B' → Lay X.K W B' H' σ (ρ.set i (.im (.list ds))) → ∃ B'', Same B B'' ∧ Lay X.K W B'' H' σ ρ := by
  obtain ⟨p, vs, e1, e2, e3, e4, e5⟩ := L.at' i _ hρ
  have hl : i < ρ.length := (List.getElem?_eq_some_iff.mp hρ).1
  obtain ⟨B1, s1, L1⟩ := L.frz hρ
  obtain ⟨v, q1, q2⟩ := L1.at' i (.im (.list ds)) (by rw [List.getElem?_set_self hl])
  rw [e1] at q1
  cases q1
  obtain ⟨p', us, h1, h2, h3⟩ := dp_list q2
  cases h1
  have hus : us = vs := by
    have := L1.gr.sub _ _ h2
    rw [e4] at this
    cases this
    rfl
  subst hus
  refine ⟨B1, s1, L1, fun B' H' s' L' => ?_⟩
  have hb : B' p = some (.lst us) := s' _ _ h2
  have hT : ∀ T, W.T = some T → T ≠ p := fun T h q => by
    subst q
    exact (L.gr.tp T h).1 e3
  have sB : Same B (fun x => if x = p then none else B' x) := fun x o q => by
    have hx : x ≠ p := by
      rintro rfl
      rw [e2] at q
      cases q
    show (if x = p then none else B' x) = some o
    rw [if_neg hx]
    exact s' _ _ (s1 _ _ q)
  refine ⟨fun x => if x = p then none else B' x, sB, ⟨⟨fun x o q => ?_, L.gr.base.trans sB, fun x q1 q2 => ?_, L'.gr.keep, fun T q => ?_⟩, L.len, fun j sl q => ?_, L.dis⟩⟩
  · have q : (if x = p then none else B' x) = some o := q
    by_cases hx : x = p
    · rw [if_pos hx] at q
      cases q
    · rw [if_neg hx] at q
      exact L'.gr.sub _ _ q
  · show (if x = p then none else B' x) = none
    by_cases hx : x = p
    · rw [if_pos hx]
    · rw [if_neg hx]
      exact L'.gr.new x q1 q2
  · obtain ⟨t1, t2, z, k, t3, t4, t5, t6⟩ := L'.gr.tp T q
    obtain ⟨_, _, z0, k0, u3, u4, u5, u6⟩ := L.gr.tp T q
    refine ⟨t1, ?_, z, k, t3, t4, t5, ?_⟩
    · show (if T = p then none else B' T) = none
      rw [if_neg (hT T q)]
      exact t2
    · exact sB _ _ u6
  · by_cases hj : j = i
    · subst hj
      rw [hρ] at q
      cases q
      refine ⟨p, us, e1, ?_, e3, L'.gr.sub _ _ hb, dpAllMono sB _ _ e5⟩
      show (if p = p then none else B' p) = none
      rw [if_pos rfl]
    · have hw := ho j sl hj q
      cases sl with
      | no => trivial
      | im d => obtain ⟨v, g1, g2⟩ := L.at' j _ q; exact ⟨v, g1, dpMono sB _ _ g2⟩
      | own _ => cases hw
      | dic _ => cases hw
      | dct _ => cases hw
      | dcf _ => obtain ⟨a, o, ws, g1, g2, g5⟩ := L.at' j _ q; exact ⟨a, o, ws, g1, sB _ _ g2, dctMono sB g5⟩
      | tape => exact L.at' j _ q
      | obj _ _ _ _ => cases hw
      | obk _ _ _ _ => obtain ⟨fv, g1, g2, g5⟩ := L.at' j _ q; exact ⟨fv, g1, g2.mono sB, fsMono sB g5⟩
      | ptr _ => exact L.at' j _ q
theorem et_lend (i : Nat) {ds : List PyData} {R : Bool → Prop} (hρ : ρ[i]? = some (.own ds)) (ho : ∀ (j : Nat) (sl : Sl), j ≠ i → ρ[j]? = some sl → sl.ow = false) (h : Et X W e (ρ.set i (.im (.list ds))) R) : Et X W e ρ R := by
  refine ⟨fun σ H B Q L k => ?_⟩
  obtain ⟨B1, s1, L1, back⟩ := L.lend hρ ho
  refine h.run σ H B1 _ L1 fun b H' B' s' L' r => ?_
  obtain ⟨B'', s'', L''⟩ := back B' H' s' L'
  exact k b H' B'' s'' L'' r
/-- a def that hands back a fresh list -/
def ConL (K : PySem.W.Frag) (P : List PyData → (List PyData → Prop) → Prop) : Sp := fun vs H Q _ => ∃ B ds R, Same B H ∧ DqAll K B vs ds ∧ P ds R ∧ ∀ a us H' B' xs, Gr K ⟨none, (0, []), B, H⟩ B' H' → B' a = none → H a = none → H' a = some (.lst us) → DqAll K B' us xs → R xs → Q (.ref a) H'
theorem el_callL {f : Addr} {fd : FuncData} {ps : List Str} {k : Nat} {x : Str} {p : Pos} {R : List PyData → Prop} {P : List PyData → (List PyData → Prop) → Prop} (F : FnOk X.prog X.w X.K X.mg X.base CX0 k f fd ps (ConL X.K P)) (hr : Room k X.A) (hm : X.mg x = some (.ref f))
    (hk : PySem.W.keepIn X.K (.ref f) = true) (hb : Binds X.K fd ps []) (h : Ea X W (e :: es) ρ fun ds => P ds R) (hg : Gl X x := by rfl)
    (hs : starEach (e :: es) X.env = (false, eval e X.env) :: starEach es X.env := by rfl) (hpl : (backTo pos (starEach es X.env)).any (·.1) = false := by rfl) (hdb : (x == ("__debug__" : Str)) = false := by decide) : El X W (.Call (.Name x p) (e :: es) [] pos) ρ R := by
  refine ⟨fun σ H B Q L k => PE.toZ (t := tCall (ConL X.K P) [] E0 (tWa X (e :: es))) (pe_call F hr hg hm hk hb .nil pass0 pa_w hdb hs hpl) ?_⟩
  refine h.run σ H B _ L fun vs H1 B1 ds s1 L1 D1 h2 => ?_
  rw [List.append_nil]
  refine ⟨B1, ds, R, L1.gr.sub, D1, h2, fun a us H' B' xs g b1 b2 b3 b4 r => ?_⟩
  obtain ⟨s, L'⟩ := L1.called (.inl rfl) g
  refine k a us H' B' xs (s1.trans s) L' b1 ?_ ?_ b3 b4 r
  · cases q : W.H0 a with
    | none => rfl
    | some o =>
      by_cases ht : W.T = some a
      · obtain ⟨_, _, z, c, e, _⟩ := L1.gr.tp a ht
        rw [e] at b2
        cases b2
      · have := L1.gr.keep a o q ht
        rw [b2] at this
        cases this
  · intro j sl q1 q2 q3
    obtain ⟨a', o, g1, g2, g3, g4, _⟩ := (L1.at' j sl q1).owner q2
    rw [q3] at g1
    cases g1
    rw [b2] at g4
    cases g4
end
section
variable {P : Program} {w : World} {K : PySem.W.Frag} {mg : Str → Option Value} {base : Heap}
/-- .. whose body is one return -/
theorem fn_conL {x qual : Str} {st : Stmt} {f : Addr} {fd : FuncData} {N ps : List Str} {k : Nat} {P' : List PyData → (List PyData → Prop) → Prop} (F : Fun K x qual st f fd) (S : FnScope N ps (defScope st)) (len : ∀ ds R, P' ds R → ds.length = ps.length) {e : Expr} {pos : Pos} (hb : defBody st = [.Return (some e) pos])
    (body : ∀ (cdv : Value) (A : Around) (outer : List Env) (s : Shared) (H : Hp) (E : XK) (W : Wd) (ds : List PyData) (R : List PyData → Prop), Room k (Bx P w K mg base N qual (defScope st) f cdv A outer s H E).A → P' ds R →
      El (Bx P w K mg base N qual (defScope st) f cdv A outer s H E) W e (startZ N ds) R) : FnOk P w K mg base CX0 (k + 1) f fd ps (ConL K P') := by
  refine F.ok S (fun vs H Q E h => ?_) (fun cdv A outer s H vs Q E hr h => ?_)
  · obtain ⟨B, ds, R, _, h1, h2, _⟩ := h
    rw [dpAll_len h1]
    exact len ds R h2
  · obtain ⟨B, ds, R, sB, h1, h2, q⟩ := h
    rw [hb]
    refine ⟨_, pss_one (ps_ret pe_w), ?_⟩
    have L := start_lay (N := N) (T := none) (ns := (0, [])) sB (fun _ z => by cases z) h1
    exact (body cdv A outer s H E ⟨none, (0, []), B, H⟩ ds R hr h2).run _ _ _ _ L fun a us H' B' xs s' L' q1 q2 q3 q4 q5 r => q a us H' B' xs L'.gr q1 q2 q4 q5 r
end
end Z
namespace Z
open PySem PySem.Spec PyProof.Rows L2
/-- slots forgotten -/
inductive Wk : List Sl → List Sl → Prop
  | nil : Wk [] []
  | eq {x : Sl} {a b : List Sl} : Wk a b → Wk (x :: a) (x :: b)
  | no {x : Sl} {a b : List Sl} : Wk a b → Wk (.no :: a) (x :: b)
theorem Wk.len : ∀ {a b : List Sl}, Wk a b → a.length = b.length
  | _, _, .nil => rfl
  | _, _, .eq h => by simp [h.len]
  | _, _, .no h => by simp [h.len]
theorem Wk.at' : ∀ {a b : List Sl}, Wk a b → ∀ (i : Nat) (sl : Sl), a[i]? = some sl → sl = .no ∨ b[i]? = some sl
  | _, _, .nil, i, sl, e => by simp at e
  | _, _, .eq h, 0, sl, e => .inr e
  | _, _, .eq h, i + 1, sl, e => by simpa using h.at' i sl (by simpa using e)
  | _, _, .no h, 0, sl, e => by simp at e; exact .inl e.symm
  | _, _, .no h, i + 1, sl, e => by simpa using h.at' i sl (by simpa using e)
section
variable {X : Cx} {W : Wd} {ρ : List Sl} {D : Dz} {sts : List Stmt} {st : Stmt}
theorem Lay.weak {K : PySem.W.Frag} {B H : Hp} {σ : L2.St} (L : Lay K W B H σ ρ) {ρ' : List Sl} (w : Wk ρ' ρ) : Lay K W B H σ ρ' := by
  refine ⟨L.gr, by rw [w.len]; exact L.len, fun i sl e => ?_, fun i j s t hne e1 e2 o1 o2 => ?_⟩
  · rcases w.at' i sl e with q | q
    · subst q
      trivial
    · exact L.at' i sl q
  · rcases w.at' i s e1 with q | q
    · subst q
      cases o1
    · rcases w.at' j t e2 with q2 | q2
      · subst q2
        cases o2
      · exact L.dis i j s t hne q q2 o1 o2
theorem ess_weak (ρ' : List Sl) (w : Wk ρ' ρ) (h : Ess X W sts ρ' D) : Ess X W sts ρ D := ⟨fun σ H B L => h.run σ H B (L.weak w)⟩
theorem es_weak (ρ' : List Sl) (w : Wk ρ' ρ) (h : Es X W st ρ' D) : Es X W st ρ D := ⟨fun σ H B L => h.run σ H B (L.weak w)⟩
end
/-- no other slot is an owner -/
inductive No1 : Nat → List Sl → Prop
  | here {x : Sl} {a : List Sl} : (∀ sl ∈ a, sl.ow = false) → No1 0 (x :: a)
  | next {x : Sl} {i : Nat} {a : List Sl} : x.ow = false → No1 i a → No1 (i + 1) (x :: a)
theorem No1.at' : ∀ {i : Nat} {a : List Sl}, No1 i a → ∀ (j : Nat) (sl : Sl), j ≠ i → a[j]? = some sl → sl.ow = false
  | _, _, .here h, 0, sl, hj, e => absurd rfl hj
  | _, _, .here h, j + 1, sl, hj, e => h sl (List.mem_of_getElem? (by simpa using e))
  | _, _, .next h1 h2, 0, sl, hj, e => by simp at e; rw [← e]; exact h1
  | _, _, .next h1 h2, j + 1, sl, hj, e => h2.at' j sl (by omega) (by simpa using e)
end Z
namespace Z
open PySem PySem.Spec PyProof.Rows L2
section
variable {X : Cx} {W : Wd} {ρ : List Sl} {D : Dz} {R : PyData → Prop} {pos : Pos} {a b c e o : Expr} {es : List Expr}
/-- xs.index(e): the first place of an int -/
theorem ev_index {pa : Pos} (h : Ev X W o ρ fun d => ∃ ns : List Int, d = .list (ns.map PyData.int) ∧ Ev X W e ρ fun x => ∃ (m : Int) (j : Nat), x = .int m ∧ ns[j]? = some m ∧ (∀ k : Nat, k < j → ns[k]? ≠ some m) ∧ R (.int (j : Int)))
    (hbase : attributeBase o "index" X.env (eval o X.env) = eval o X.env := by rfl)
    (hfew : ((backTo pos (starEach [e] X.env)).all (fun x => !x.1) && (backToKw pos (keywordEach [] X.env)).all (fun x => x.1.isSome) && decide (([e] : List Expr).length + ([] : List Keyword).length + (if ([] : List Keyword).isEmpty then 0 else 1) < 30)) = true := by rfl)
    (hline : (pa.endLine == pos.line) = true := by rfl) (hse : starEach [e] X.env = (false, eval e X.env) :: starEach [] X.env := by rfl) (hpl : (backTo pos (starEach [] X.env)).any (·.1) = false := by rfl) :
    Ev X W (.Call (.Attribute o "index" pa) [e] [] pos) ρ R := by
  refine ⟨fun σ H B Q L k => (pe_bm PySem.F.plainAttrs_list PySem.F.slot_list_index PySem.F.type_list_index mt_index pe_w (pa_cons pe_w pa_nil hse) hbase hfew hline hse hpl).toZ ?_⟩
  refine h.run σ H B _ L fun v H1 B1 d s1 L1 D1 h2 => ?_
  obtain ⟨ns, rfl, h2⟩ := h2
  obtain ⟨p, vs, rfl, h3, h4⟩ := dp_list D1
  refine ⟨.inl ⟨rfl, vs, SqL.of (L1.gr.sub _ _ h3)⟩, ?_⟩
  refine h2.run σ H1 B1 _ L1 fun u H2 B2 d' s2 L2 D2 h5 => ?_
  obtain ⟨m, j, e2, e3, e4, e5⟩ := h5
  subst e2
  cases dp_int D2
  cases dq_ints h4
  refine ⟨p, ns.map V.int, .int m, j, .int m, rfl, rfl, SqL.of (L2.gr.sub _ _ (s2 _ _ h3)), rfl, ?_, ?_, ?_, fun q z hq hz => ?_, k _ H2 B2 _ (s1.trans s2) L2 (.int _) e5⟩
  · rw [List.all_eq_true]
    intro x hx
    obtain ⟨i, _, rfl⟩ := List.mem_map.mp hx
    rfl
  · rw [List.getElem?_map, e3]
    rfl
  · show (m == m) = true
    exact beq_self_eq_true m
  · rw [List.getElem?_map] at hz
    cases hq2 : ns[q]? with
    | none => rw [hq2] at hz; cases hz
    | some i =>
      rw [hq2] at hz
      cases hz
      have := e4 q hq
      rw [hq2] at this
      show (i == m) = false
      exact beq_eq_false_iff_ne.mpr fun e => this (by rw [e])
end
end Z

namespace Z
open PySem PySem.Spec PyProof.Rows L2
section
variable {X : Cx} {W : Wd} {ρ : List Sl} {D : Dz} {R : PyData → Prop} {pos : Pos} {a b c e : Expr} {es : List Expr} {st : Stmt} {sts body : List Stmt} {B H : Hp} {σ : L2.St}
/-! ### dicts with int keys -/
theorem fresh_any {K : PySem.W.Frag} {B H : Hp} {σ : L2.St} (L : Lay K W B H σ ρ) {p : Addr} (hp : H p = none) (o0 : HO) :
    Lay K W B (upd H p o0) σ ρ ∧ B p = none ∧ W.H0 p = none ∧ (∀ (j : Nat) (sl : Sl), ρ[j]? = some sl → sl.ow = true → σ[j]? ≠ some (some (.ref p))) ∧ (upd H p o0) p = some o0 := by
  have bp : B p = none := Same.free L.gr.sub hp
  have h0 : W.H0 p = none := by
    cases q : W.H0 p with
    | none => rfl
    | some u =>
      by_cases ht : W.T = some p
      · obtain ⟨_, t⟩ := L.gr.tp p ht
        obtain ⟨_, i, c, e, _⟩ := t
        rw [e] at hp
        cases hp
      · have := L.gr.keep p u q ht
        rw [hp] at this
        cases this
  have np : ∀ a u, H a = some u → a ≠ p := fun a u e => ne_of_none e hp
  refine ⟨⟨⟨same_right L.gr.sub bp, L.gr.base, L.gr.new, fun a o h1 h2 => ?_, fun T h => ?_⟩, L.len, fun i sl e => (L.at' i sl e).grow (Same.refl _) fun a u _ _ h2 _ h4 => ?_, L.dis⟩, bp, h0, fun j sl e1 e2 q => ?_, upd_same⟩
  · have := L.gr.keep a o h1 h2
    rw [upd_ne (np a o this)]
    exact this
  · obtain ⟨t1, t2⟩ := L.gr.tp T h
    obtain ⟨_, i, c, e, _⟩ := id t2
    exact ⟨t1, t2.mono (Same.refl _) t2.1 fun o ho => by rw [upd_ne (np T _ e)]; exact ho⟩
  · rw [upd_ne (np a u h4)]
    exact ⟨h2, h4⟩
  · obtain ⟨a, o, g1, g2, g3, g4, _⟩ := (L.at' j sl e1).owner e2
    rw [q] at g1
    cases g1
    rw [hp] at g4
    cases g4

theorem Lay.ownD (L : Lay X.K W B H σ ρ) {i : Nat} {p : Addr} {ws : List (Key × V)} {kvs : List (Key × PyData)} (h1 : B p = none) (h2 : W.H0 p = none) (h3 : ∀ (j : Nat) (sl : Sl), ρ[j]? = some sl → sl.ow = true → σ[j]? ≠ some (some (.ref p))) (h4 : H p = some (.dK ws)) (h5 : KvD X.K B ws kvs) :
    Lay X.K W B H (σ.set i (some (.ref p))) (ρ.set i (.dic kvs)) := by
  refine ⟨L.gr, by simp [L.len], fun j sl e => ?_, fun j k s t hne e1 e2 o1 o2 => ?_⟩
  · by_cases hj : i = j
    · subst hj
      have hl : i < ρ.length := by
        have := (List.getElem?_eq_some_iff.mp e).1
        simpa using this
      rw [List.getElem?_set_self hl] at e
      cases e
      rw [List.getElem?_set_self (by rw [L.len]; exact hl)]
      exact ⟨p, ws, rfl, h1, h2, h4, h5⟩
    · rw [List.getElem?_set_ne hj] at e ⊢
      exact L.at' j sl e
  · by_cases hj : i = j
    · subst hj
      have hl : i < ρ.length := by
        have := (List.getElem?_eq_some_iff.mp e1).1
        simpa using this
      rw [List.getElem?_set_self (by rw [L.len]; exact hl)]
      rw [List.getElem?_set_ne hne] at e2 ⊢
      exact fun q => h3 k t e2 o2 q.symm
    · by_cases hk : i = k
      · subst hk
        have hl : i < ρ.length := by
          have := (List.getElem?_eq_some_iff.mp e2).1
          simpa using this
        rw [List.getElem?_set_self (by rw [L.len]; exact hl)]
        rw [List.getElem?_set_ne hj] at e1 ⊢
        exact h3 j s e1 o1
      · rw [List.getElem?_set_ne hj] at e1 ⊢
        rw [List.getElem?_set_ne hk] at e2 ⊢
        exact L.dis j k s t hne e1 e2 o1 o2

theorem Lay.chgD (L : Lay X.K W B H σ ρ) {i : Nat} {p : Addr} {ws : List (Key × V)} {kvs kvs0 : List (Key × PyData)} (hρ : ρ[i]? = some (.dic kvs0)) (hσ : σ[i]? = some (some (.ref p))) (h5 : KvD X.K B ws kvs) : Lay X.K W B (upd H p (.dK ws)) σ (ρ.set i (.dic kvs)) := by
  obtain ⟨p', vs0, e1, e2, e3, e4, e5⟩ := L.at' i _ hρ
  rw [hσ] at e1
  cases e1
  have hl : i < ρ.length := (List.getElem?_eq_some_iff.mp hρ).1
  have hT : ∀ T, W.T = some T → T ≠ p := fun T h q => by
    subst q
    exact (L.gr.tp T h).1 e3
  refine ⟨⟨same_right L.gr.sub e2, L.gr.base, L.gr.new, fun a o h1 h2 => ?_, fun T h => ?_⟩, by simp [L.len], fun j sl e => ?_, fun j k s t hne f1 f2 o1 o2 => ?_⟩
  · have ha : a ≠ p := by
      rintro rfl
      rw [e3] at h1
      cases h1
    rw [upd_ne ha]
    exact L.gr.keep a o h1 h2
  · obtain ⟨t1, t2⟩ := L.gr.tp T h
    exact ⟨t1, t2.mono (Same.refl _) t2.1 fun o ho => by rw [upd_ne (hT T h)]; exact ho⟩
  · by_cases hj : i = j
    · subst hj
      rw [List.getElem?_set_self hl] at e
      cases e
      exact ⟨p, ws, hσ, e2, e3, upd_same, h5⟩
    · rw [List.getElem?_set_ne hj] at e
      refine (L.at' j sl e).grow (Same.refl _) fun a o g1 g2 g3 _ g5 => ⟨g3, ?_⟩
      have ha : a ≠ p := by
        rintro rfl
        exact L.dis i j _ sl hj hρ e rfl g2 (hσ.trans g1.symm)
      rw [upd_ne ha]
      exact g5
  · have q1 : ∃ s', ρ[j]? = some s' ∧ s'.ow = true := by
      by_cases hj : i = j
      · subst hj
        exact ⟨_, hρ, rfl⟩
      · rw [List.getElem?_set_ne hj] at f1
        exact ⟨s, f1, o1⟩
    have q2 : ∃ s', ρ[k]? = some s' ∧ s'.ow = true := by
      by_cases hj : i = k
      · subst hj
        exact ⟨_, hρ, rfl⟩
      · rw [List.getElem?_set_ne hj] at f2
        exact ⟨t, f2, o2⟩
    obtain ⟨s', g1, g2⟩ := q1
    obtain ⟨t', g3, g4⟩ := q2
    exact L.dis j k s' t' hne g1 g3 g2 g4

/-! what a dict holds, as data -/
def gtD (kvs : List (Key × PyData)) (k : Key) : Option PyData := (kvs.find? fun kv => decide (kv.1 = k)).map (·.2)
def ptD (kvs : List (Key × PyData)) (k : Key) (d : PyData) : List (Key × PyData) := if (gtD kvs k).isSome = true then kvs.map fun kv => if kv.1 = k then (kv.1, d) else kv else kvs ++ [(k, d)]
theorem gtD_nil {k : Key} : gtD [] k = none := rfl
theorem gtD_pos {p : Key × PyData} {r : List (Key × PyData)} {k : Key} (e : p.1 = k) : gtD (p :: r) k = some p.2 := by simp [gtD, List.find?_cons, e]
theorem gtD_neg {p : Key × PyData} {r : List (Key × PyData)} {k : Key} (e : ¬ p.1 = k) : gtD (p :: r) k = gtD r k := by simp [gtD, List.find?_cons, e]
theorem gtD_map (k j : Key) (y : PyData) : ∀ kvs : List (Key × PyData), gtD (kvs.map fun kv => if kv.1 = k then (kv.1, y) else kv) j = (gtD kvs j).map fun x => if j = k then y else x
  | [] => rfl
  | p :: r => by
    rw [List.map_cons]
    by_cases e : p.1 = k
    · rw [if_pos e]
      by_cases q : p.1 = j
      · rw [gtD_pos (p := (p.1, y)) q, gtD_pos q, Option.map_some, if_pos (q.symm.trans e)]
      · rw [gtD_neg (p := (p.1, y)) q, gtD_neg q, gtD_map]
    · rw [if_neg e]
      by_cases q : p.1 = j
      · rw [gtD_pos q, gtD_pos q, Option.map_some, if_neg (fun z => e (q.trans z))]
      · rw [gtD_neg q, gtD_neg q, gtD_map]
theorem gtD_snoc (k j : Key) (y : PyData) : ∀ kvs : List (Key × PyData), gtD kvs k = none → gtD (kvs ++ [(k, y)]) j = if j = k then some y else gtD kvs j
  | [], _ => by
    by_cases e : j = k
    · rw [if_pos e]
      exact gtD_pos e.symm
    · rw [if_neg e]
      exact gtD_neg fun z => e z.symm
  | p :: r, h => by
    by_cases e : p.1 = k
    · rw [gtD_pos e] at h
      cases h
    · rw [gtD_neg e] at h
      rw [List.cons_append]
      by_cases q : p.1 = j
      · rw [gtD_pos q, gtD_pos q, if_neg (fun z => e (q.trans z))]
      · rw [gtD_neg q, gtD_neg q, gtD_snoc k j y r h]
theorem gtD_put (kvs : List (Key × PyData)) (k j : Key) (y : PyData) : gtD (ptD kvs k y) j = if j = k then some y else gtD kvs j := by
  unfold ptD
  by_cases a : (gtD kvs k).isSome = true
  · rw [if_pos a, gtD_map]
    by_cases e : j = k
    · obtain ⟨x, hx⟩ := Option.isSome_iff_exists.mp a
      rw [if_pos e, e, hx, Option.map_some, if_pos rfl]
    · rw [if_neg e]
      cases gtD kvs j with
      | none => rfl
      | some x => rw [Option.map_some, if_neg e]
  · rw [if_neg a]
    refine gtD_snoc k j y kvs ?_
    cases q : gtD kvs k with
    | none => rfl
    | some x => rw [q] at a; exact (a rfl).elim
theorem ptD_len (kvs : List (Key × PyData)) (k : Key) (v : PyData) : (ptD kvs k v).length ≤ kvs.length + 1 := by
  unfold ptD
  split
  · rw [List.length_map]; omega
  · rw [List.length_append, List.length_cons, List.length_nil]; omega
theorem kv_val {K : PySem.W.Frag} {ws : List (Key × V)} {kvs : List (Key × PyData)} (h : KvD K B ws kvs) (k : Key) : (valV ws k = none ∧ gtD kvs k = none) ∨ ∃ v d, valV ws k = some v ∧ gtD kvs k = some d ∧ Dq K B v d := by
  unfold KvD at h
  induction h with
  | nil => exact .inl ⟨rfl, rfl⟩
  | @cons p q ps qs h t ih =>
    obtain ⟨h1, h2⟩ := h
    by_cases e : p.1 = k
    · exact .inr ⟨p.2, q.2, valV_pos e, gtD_pos (h1.symm.trans e), h2⟩
    · rw [valV_neg e, gtD_neg (fun z => e (h1.trans z))]
      exact ih
theorem kv_some {K : PySem.W.Frag} {ws : List (Key × V)} {kvs : List (Key × PyData)} (h : KvD K B ws kvs) (k : Key) : (valV ws k).isSome = (gtD kvs k).isSome := by
  rcases kv_val h k with ⟨e1, e2⟩ | ⟨v, d, e1, e2, _⟩ <;> rw [e1, e2] <;> rfl
theorem kv_put {K : PySem.W.Frag} {ws : List (Key × V)} {kvs : List (Key × PyData)} (h : KvD K B ws kvs) (k : Key) {v : V} {d : PyData} (hd : Dq K B v d) : KvD K B (putK ws k v) (ptD kvs k d) := by
  have hs := kv_some h k
  unfold putK ptD
  rw [valV_any, hs]
  by_cases q : (gtD kvs k).isSome = true
  · rw [if_pos q, if_pos q]
    unfold KvD at h ⊢
    clear q hs
    induction h with
    | nil => exact .nil
    | @cons p q ps qs h t ih =>
      rw [List.map_cons, List.map_cons]
      refine .cons ?_ ih
      obtain ⟨h1, h2⟩ := h
      by_cases e : p.1 = k
      · rw [if_pos e, if_pos (h1.symm.trans e)]; exact ⟨h1, hd⟩
      · rw [if_neg e, if_neg (fun z => e (h1.trans z))]; exact ⟨h1, h2⟩
  · rw [if_neg q, if_neg q]
    exact Paired.snoc h ⟨rfl, hd⟩
theorem kv_len {K : PySem.W.Frag} {ws : List (Key × V)} {kvs : List (Key × PyData)} (h : KvD K B ws kvs) : ws.length = kvs.length := Paired.length h
/-- a fresh, empty dict comes to a slot -/
theorem Lay.newD (L : Lay X.K W B H σ ρ) (i : Nat) {p : Addr} (hp : H p = none) : Lay X.K W B (upd H p (.dK [])) (σ.set i (some (.ref p))) (ρ.set i (.dic [])) := by
  obtain ⟨L', h1, h2, h3, h4⟩ := fresh_any L hp (.dK [])
  exact L'.ownD h1 h2 h3 h4 .nil
theorem no_put {p : Addr} {i : Nat} {v : V} {d : PyData} (h : ∀ (j : Nat) (sl : Sl), ρ[j]? = some sl → sl.ow = true → σ[j]? ≠ some (some (.ref p))) : ∀ (j : Nat) (sl : Sl), (ρ.set i (.im d))[j]? = some sl → sl.ow = true → (σ.set i (some v))[j]? ≠ some (some (.ref p)) := fun j sl e1 e2 => by
  by_cases hj : i = j
  · subst hj
    have hl : i < ρ.length := by
      have := (List.getElem?_eq_some_iff.mp e1).1
      simpa using this
    rw [List.getElem?_set_self hl] at e1
    cases e1
    cases e2
  · rw [List.getElem?_set_ne hj] at e1 ⊢
    exact h j sl e1 e2
/-- x = {} -/
theorem es_dic (i : Nat) {x : Str} {pos' dp : Pos} (h : D.nx (ρ.set i (.dic []))) (hN : X.N.Nodup) (hi : X.N[i]? = some x := by rfl) (hx : Loc X.env.scope x := by first | exact .inl rfl | exact .inr rfl) (hs : swapsWith (.Dict [] [] dp) (some (.Name x pos')) pos.line X.env = pure false := by rfl)
    (hf : X.fn x = true ∨ X.env.scope.names.lookup x = some .local := by first | exact .inl rfl | exact .inr rfl | assumption) : Es X W (.Assign [.Name x pos'] (.Dict [] [] dp) pos) ρ D :=
  ⟨fun σ H B L => (ps_set hN hi hx pe_dnewK hs hf).toZ fun p hp => ⟨B, _, Same.refl _, L.newD i hp, h⟩⟩
/-- x, y, z = {}, m, n -/
theorem es_par3D (i j l : Nat) {m n : Int} {x y z : Str} {px py pz pt dp p1 p2 : Pos} {kt k2 pt2 j1 j2} (h : D.nx (((ρ.set i (.dic [])).set j (.im (.int m))).set l (.im (.int n)))) (hc : X.calm = true) (hN : X.N.Nodup)
    (hi : X.N[i]? = some x := by rfl) (hj : X.N[j]? = some y := by rfl) (hl : X.N[l]? = some z := by rfl) (hij : i ≠ j := by decide) (hil : i ≠ l := by decide) (hjl : j ≠ l := by decide)
    (hx : X.env.scope.names.lookup x = some .local := by rfl) (hy : X.env.scope.names.lookup y = some .local := by rfl) (hz : X.env.scope.names.lookup z = some .local := by rfl)
    (hw : swappedStores [.Tuple [.Name x px, .Name y py, .Name z pz] kt pt] (.Tuple [.Dict [] [] dp, .Constant (.int m) j1 p1, .Constant (.int n) j2 p2] k2 pt2) X.env = pure (some [x, y, z]) := by rfl)
    (hs : swapsWithSole [.Tuple [.Name x px, .Name y py, .Name z pz] kt pt] (.Tuple [.Dict [] [] dp, .Constant (.int m) j1 p1, .Constant (.int n) j2 p2] k2 pt2) pos.line X.env = pure false := by rfl) :
    Es X W (.Assign [.Tuple [.Name x px, .Name y py, .Name z pz] kt pt] (.Tuple [.Dict [] [] dp, .Constant (.int m) j1 p1, .Constant (.int n) j2 p2] k2 pt2) pos) ρ D := by
  refine ⟨fun σ H B L => (ps_par3 hc hN hi hj hl hij hil hjl hx hy hz (pa_cons pe_dnewK (pa_cons pe_int (pa_cons pe_int pa_nil rfl) rfl) rfl) hw hs).toZ ?_⟩
  intro p hp
  exact ⟨_, _, _, rfl, B, _, Same.refl _, ((L.newD i hp).put (.int m)).put (.int n), h⟩
/-- x, y, z, t = a, m, n, {} -/
theorem es_par4D (i j l o : Nat) {m n : Int} {x y z t : Str} {px py pz pq pt dp p1 p2 : Pos} {kt k2 pt2 j1 j2} (h : Ev X W a ρ fun d => D.nx ((((ρ.set i (.im d)).set j (.im (.int m))).set l (.im (.int n))).set o (.dic []))) (hc : X.calm = true) (hN : X.N.Nodup)
    (hi : X.N[i]? = some x := by rfl) (hj : X.N[j]? = some y := by rfl) (hl : X.N[l]? = some z := by rfl) (ho : X.N[o]? = some t := by rfl)
    (hx : X.env.scope.names.lookup x = some .local := by rfl) (hy : X.env.scope.names.lookup y = some .local := by rfl) (hz : X.env.scope.names.lookup z = some .local := by rfl) (ht : X.env.scope.names.lookup t = some .local := by rfl)
    (hx' : Loc X.env.scope x := by first | exact .inl rfl | exact .inr rfl) (hy' : Loc X.env.scope y := by first | exact .inl rfl | exact .inr rfl) (hz' : Loc X.env.scope z := by first | exact .inl rfl | exact .inr rfl) (ht' : Loc X.env.scope t := by first | exact .inl rfl | exact .inr rfl)
    (n1 : (assignEach [.Name x px, .Name y py, .Name z pz, .Name t pq] X.env).map (·.2) = assign (.Name x px) X.env :: (assignEach [.Name y py, .Name z pz, .Name t pq] X.env).map (·.2) := by rfl)
    (n2 : (assignEach [.Name y py, .Name z pz, .Name t pq] X.env).map (·.2) = assign (.Name y py) X.env :: (assignEach [.Name z pz, .Name t pq] X.env).map (·.2) := by rfl)
    (n3 : (assignEach [.Name z pz, .Name t pq] X.env).map (·.2) = assign (.Name z pz) X.env :: (assignEach [.Name t pq] X.env).map (·.2) := by rfl)
    (n4 : (assignEach [.Name t pq] X.env).map (·.2) = assign (.Name t pq) X.env :: (assignEach [] X.env).map (·.2) := by rfl)
    (n5 : (assignEach [.Name x px, .Name y py, .Name z pz, .Name t pq] X.env).length = 4 := by rfl) (n6 : (assignEach [.Name x px, .Name y py, .Name z pz, .Name t pq] X.env).findIdx? (·.1) = none := by rfl)
    (hse : starEach [a, .Constant (.int m) j1 p1, .Constant (.int n) j2 p2, .Dict [] [] dp] X.env = (false, eval a X.env) :: starEach [.Constant (.int m) j1 p1, .Constant (.int n) j2 p2, .Dict [] [] dp] X.env := by rfl)
    (hs : swapsWithSole [.Tuple [.Name x px, .Name y py, .Name z pz, .Name t pq] kt pt] (.Tuple [a, .Constant (.int m) j1 p1, .Constant (.int n) j2 p2, .Dict [] [] dp] k2 pt2) pos.line X.env = pure false := by rfl)
    (hw : swappedStores [.Tuple [.Name x px, .Name y py, .Name z pz, .Name t pq] kt pt] (.Tuple [a, .Constant (.int m) j1 p1, .Constant (.int n) j2 p2, .Dict [] [] dp] k2 pt2) X.env = pure none := by rfl)
    (h1 : (assignEach [.Tuple [.Name x px, .Name y py, .Name z pz, .Name t pq] kt pt] X.env).map (·.2) = [assign (.Tuple [.Name x px, .Name y py, .Name z pz, .Name t pq] kt pt) X.env] := by rfl) :
    Es X W (.Assign [.Tuple [.Name x px, .Name y py, .Name z pz, .Name t pq] kt pt] (.Tuple [a, .Constant (.int m) j1 p1, .Constant (.int n) j2 p2, .Dict [] [] dp] k2 pt2) pos) ρ D := by
  refine ⟨fun σ H B L => (ps_asg (pe_tup (pa_cons pe_w (pa_cons pe_int (pa_cons pe_int (pa_cons pe_dnewK pa_nil rfl) rfl) rfl) hse))
    (pg_tup hc (pgs_cons (pg_name hN hi hx' (.inr hx)) (pgs_cons (pg_name hN hj hy' (.inr hy)) (pgs_cons (pg_name hN hl hz' (.inr hz)) (pgs_cons (pg_name hN ho ht' (.inr ht)) pgs_nil n4) n3) n2) n1) n5 n6) hs hw h1).toZ ?_⟩
  refine h.run σ H B _ L fun v H1 B1 d s1 L1 D1 h2 => ?_
  intro p hp
  refine ⟨by rw [sizeLine_eq]; exact (by decide : 4 ≤ 16777216), fun q hq => ?_⟩
  obtain ⟨L2, g1, g2, g3, g4⟩ := fresh_any L1 hp (.dK [])
  obtain ⟨L3, _⟩ := fresh_any L2 hq (.tup [v, .int m, .int n, .ref p])
  have hpq : p ≠ q := ne_of_none g4 hq
  have g5 : (upd (upd H1 p (.dK [])) q (.tup [v, .int m, .int n, .ref p])) p = some (.dK []) := by
    rw [upd_ne hpq]
    exact g4
  refine ⟨q, _, rfl, SqT.of upd_same, rfl, _, _, rfl, _, _, rfl, _, _, rfl, _, _, rfl, rfl, B1, _, s1, ?_, h2⟩
  refine Lay.ownD (((L3.put D1).put (.int m)).put (.int n)) g1 g2 (no_put (no_put (no_put g3))) g5 .nil
/-- e in d -/
theorem et_inD (i : Nat) {x : Str} {px : Pos} {kvs : List (Key × PyData)} {R : Bool → Prop} (hρ : ρ[i]? = some (.dic kvs)) (hu : X.A.units + 1 < cLine) (h : Ev X W a ρ fun y => match y with | .int z => R (gtD kvs (.inl z)).isSome | _ => False) (hN : X.N[i]? = some x := by rfl)
    (hv : Vis X.env.scope x := by first | exact Or.inl rfl | exact Or.inr (Or.inl rfl) | exact Or.inr (Or.inr rfl)) (hd : (x == ("__debug__" : Str)) = false := by decide) (hcd : (x == ("__classdict__" : Str)) = false := by decide) : Et X W (.Compare a [.In] [.Name x px] pos) ρ R := by
  refine ⟨fun σ H B Q L k => (pt_cmp (pc_din hu pe_w (pe_var hN hv hd hcd))).toZ ?_⟩
  refine h.run σ H B _ L fun v H1 B1 y s1 L1 D1 h2 => ?_
  cases y <;> first | exact h2.elim | skip
  rename_i z
  obtain ⟨p, ws, e1, e2, e3, e4, e5⟩ := L1.at' i _ hρ
  cases dp_int D1
  refine ⟨.ref p, e1, p, _, rfl, DGet.k (k := .inl z) e4, ?_⟩
  rw [kv_some e5]
  exact ⟨_, rfl, k _ H1 B1 s1 L1 h2⟩
theorem et_notInD (i : Nat) {x : Str} {px : Pos} {kvs : List (Key × PyData)} {R : Bool → Prop} (hρ : ρ[i]? = some (.dic kvs)) (hu : X.A.units + 1 < cLine) (h : Ev X W a ρ fun y => match y with | .int z => R (!(gtD kvs (.inl z)).isSome) | _ => False) (hN : X.N[i]? = some x := by rfl)
    (hv : Vis X.env.scope x := by first | exact Or.inl rfl | exact Or.inr (Or.inl rfl) | exact Or.inr (Or.inr rfl)) (hd : (x == ("__debug__" : Str)) = false := by decide) (hcd : (x == ("__classdict__" : Str)) = false := by decide) : Et X W (.Compare a [.NotIn] [.Name x px] pos) ρ R := by
  refine ⟨fun σ H B Q L k => (pt_cmp (pc_dnotin hu pe_w (pe_var hN hv hd hcd))).toZ ?_⟩
  refine h.run σ H B _ L fun v H1 B1 y s1 L1 D1 h2 => ?_
  cases y <;> first | exact h2.elim | skip
  rename_i z
  obtain ⟨p, ws, e1, e2, e3, e4, e5⟩ := L1.at' i _ hρ
  cases dp_int D1
  refine ⟨.ref p, e1, p, _, rfl, DGet.k (k := .inl z) e4, ?_⟩
  rw [kv_some e5]
  exact ⟨_, rfl, k _ H1 B1 s1 L1 h2⟩
/-- d[e] -/
theorem ev_ixD (i : Nat) {x : Str} {px : Pos} {kvs : List (Key × PyData)} (hρ : ρ[i]? = some (.dic kvs)) (hu : X.A.units + 1 < cLine) (h : Ev X W b ρ fun y => match y with | .int z => ∃ d, gtD kvs (.inl z) = some d ∧ R d | _ => False) (hN : X.N[i]? = some x := by rfl)
    (hs : NoSl b := by exact fun _ _ => rfl) (hv : Vis X.env.scope x := by first | exact Or.inl rfl | exact Or.inr (Or.inl rfl) | exact Or.inr (Or.inr rfl)) (hd : (x == ("__debug__" : Str)) = false := by decide) (hcd : (x == ("__classdict__" : Str)) = false := by decide) : Ev X W (.Subscript (.Name x px) b pos) ρ R := by
  refine ⟨fun σ H B Q L k => (pe_dget hu (pe_var hN hv hd hcd) pe_w hs).toZ ?_⟩
  obtain ⟨p, vs, e1, e2, e3, e4, e5⟩ := L.at' i _ hρ
  refine ⟨.ref p, e1, ?_⟩
  refine h.run σ H B _ L fun u H2 B2 y s2 L2 D2 h3 => ?_
  cases y <;> first | exact h3.elim | skip
  rename_i z
  obtain ⟨d, hd, r⟩ := h3
  obtain ⟨p', vs', f1, f2, f3, f4, f5⟩ := L2.at' i _ hρ
  rw [e1] at f1
  cases f1
  cases dp_int D2
  rcases kv_val f5 (.inl z) with ⟨q1, q2⟩ | ⟨v, d', q1, q2, q3⟩
  · rw [q2] at hd
    cases hd
  · rw [q2] at hd
    cases hd
    refine ⟨p, v, rfl, ?_, k v H2 B2 _ s2 L2 q3 r⟩
    rw [← q1]
    exact DGet.k (k := .inl z) f4
/-- d[b] = e -/
theorem es_putD (i : Nat) {x : Str} {px p2 : Pos} {kvs : List (Key × PyData)} (hρ : ρ[i]? = some (.dic kvs)) (hu : X.A.units + 1 < cLine) (h : Ev X W e ρ fun d => Ev X W b ρ fun y => match y with | .int z => kvs.length < sizeLine ∧ D.nx (ρ.set i (.dic (ptD kvs (.inl z) d))) | _ => False) (hN : X.N[i]? = some x := by rfl)
    (hv : Vis X.env.scope x := by first | exact Or.inl rfl | exact Or.inr (Or.inl rfl) | exact Or.inr (Or.inr rfl)) (hd : (x == ("__debug__" : Str)) = false := by decide) (hcd : (x == ("__classdict__" : Str)) = false := by decide)
    (hs : swapsWith e (some (.Subscript (.Name x px) b p2)) pos.line X.env = pure false := by rfl) : Es X W (.Assign [.Subscript (.Name x px) b p2] e pos) ρ D := by
  refine ⟨fun σ H B L => (ps_dput hu (pe_var hN hv hd hcd) pe_w pe_w hs).toZ ?_⟩
  refine h.run σ H B _ L fun v H1 B1 d s1 L1 D1 h2 => ?_
  obtain ⟨p, vs, e1, e2, e3, e4, e5⟩ := L1.at' i _ hρ
  refine ⟨.ref p, e1, ?_⟩
  refine h2.run σ H1 B1 _ L1 fun u H2 B2 y s2 L2 D2 h3 => ?_
  cases y <;> first | exact h3.elim | skip
  rename_i z
  obtain ⟨hl, hn⟩ := h3
  obtain ⟨p', vs', f1, f2, f3, f4, f5⟩ := L2.at' i _ hρ
  rw [e1] at f1
  cases f1
  cases dp_int D2
  exact ⟨p, _, rfl, DPut.k (k := .inl z) f4 (by rw [kv_len f5]; exact hl), B2, _, s1.trans s2, L2.chgD hρ e1 (kv_put f5 (.inl z) (dpMono s2 _ _ D1)), hn⟩
/-! ### len(set(xs)) -/
def tLenSetL (K : PySem.W.Frag) (ta : TE) : TE := fun σ H Q => ta σ H fun x H1 => ∃ (l : Addr) (ns : List Int), x = .ref l ∧ SqL K H1 l (ns.map V.int) ∧ ns.length ≤ 4000 ∧ Q (.int ((PyProof.Rows.firstMet (fun i => ns.getD i 0) ns.length).length : Nat)) H1
theorem pe_lenSetL {p p2 q : Pos} {ta : TE} (hg : Gl X "len") (hm : X.mg "len" = none) (hg2 : Gl X "set") (hm2 : X.mg "set" = none) (ha : PE X a ta) (hc : X.calm = true)
    (na : starEach [a] X.env = (false, eval a X.env) :: starEach [] X.env) (n2 : (starEach [.Call (.Name "set" p2) [a] [] q] X.env) = (false, eval (.Call (.Name "set" p2) [a] [] q) X.env) :: starEach [] X.env) : PE X (.Call (.Name "len" p) [.Call (.Name "set" p2) [a] [] q] [] pos) (tLenSetL X.K ta) := by
  refine ⟨fun pins s σ H Q I h => ?_⟩
  refine Call_ (ld_blt I hg hm boot_len ?_)
  refine PyProof.Rows.callWith_builtin1 (PyProof.Rows.args_cons ?_ n2) n2 rfl
  refine Call_ (ld_blt I hg2 hm2 boot_set ?_)
  refine PyProof.Rows.callWith_type1 (PyProof.Rows.args_cons (thn (ha.run pins s σ H _ I h) fun v s1 ⟨x, H1, I1, r1, q1⟩ => PyProof.Rows.args_nil ?_) na) na rfl
  obtain ⟨l, ns, rfl, hq, hl, q1⟩ := q1
  cases r1
  obtain ⟨its, r, pl, hz⟩ := I1.list hq
  have hlen : its.toArray.size = ns.length := by rw [List.size_toArray, ← r.length, List.length_map]
  refine call_set_list (I1.ok.hd hc) pl.isList (by simpa using RZ.intsAre_vals r) (by rw [hlen]; unfold scanBound; omega) fun h' tk hS hk => ?_
  refine PyProof.Rows.args_nil ?_
  rw [hlen] at hS
  obtain ⟨o, es, ep, t, ho, hex, hd, _, _, _, hf, hn⟩ := hS
  have I2 : Inv X pins σ H1 { s1 with heap := h', toks := tk } := I1.kept fun b o e => hk b o (Heap.lt_size e) e
  have hb := PyProof.Rows.firstMet_length_le (fun i => ns.getD i 0) ns.length
  exact call_len_set ho hex hd hf (by rw [hn] <;> omega) ⟨.int (PyProof.Rows.firstMet (fun i => ns.getD i 0) ns.length).length, H1, I2.tok _, ⟨_, by rw [hn]⟩, q1⟩
theorem ev_lenSetL {p p2 q : Pos} (hc : X.calm = true) (hm : X.mg "len" = none) (hm2 : X.mg "set" = none) (h : Ev X W a ρ fun d => ∃ ns : List Int, d = .list (ns.map PyData.int) ∧ ns.length ≤ 4000 ∧ R (.int ((PyProof.Rows.firstMet (fun i => ns.getD i 0) ns.length).length : Nat)))
    (hg : Gl X "len" := by rfl) (hg2 : Gl X "set" := by rfl) (na : starEach [a] X.env = (false, eval a X.env) :: starEach [] X.env := by rfl) (n2 : (starEach [.Call (.Name "set" p2) [a] [] q] X.env) = (false, eval (.Call (.Name "set" p2) [a] [] q) X.env) :: starEach [] X.env := by rfl) :
    Ev X W (.Call (.Name "len" p) [.Call (.Name "set" p2) [a] [] q] [] pos) ρ R := by
  refine ⟨fun σ H B Q L k => (pe_lenSetL hg hm hg2 hm2 pe_w hc na n2).toZ ?_⟩
  refine h.run σ H B _ L fun v H1 B1 d s1 L1 D1 h2 => ?_
  obtain ⟨ns, rfl, h3, h4⟩ := h2
  obtain ⟨q, vs, rfl, h5, h6⟩ := dp_list D1
  cases dq_ints h6
  exact ⟨q, ns, rfl, SqL.of (L1.gr.sub _ _ h5), h3, k _ H1 B1 _ s1 L1 (.int _) h4⟩
theorem setR_count {w : World} {h : Heap} {a : Addr} {ns : List Int} {c : Nat} (R : SetR w h a (fun j => decide (j ∈ ns)) c) (hn : ns.Nodup) : c = ns.length := by
  obtain ⟨o, es, ep, t, ho, hex, hd, _, hnd, hmem, _, _, hsz, _⟩ := R
  have hp : (es.toList.map keyOf).Perm ns := by
    refine (List.perm_ext_iff_of_nodup hnd hn).mpr fun k => ?_
    rw [← hmem k]
    simp
  have := hp.length_eq
  rw [List.length_map, Array.length_toList] at this
  omega
def tLenSetT (K : PySem.W.Frag) (ta : TE) : TE := fun σ H Q => ta σ H fun x H1 => ∃ (l : Addr) (ns : List Int), x = .ref l ∧ SqT K H1 l (ns.map V.int) ∧ ns.Nodup ∧ ns.length ≤ 4000 ∧ Q (.int (ns.length : Nat)) H1
theorem pe_lenSetT {p p2 q : Pos} {ta : TE} (hg : Gl X "len") (hm : X.mg "len" = none) (hg2 : Gl X "set") (hm2 : X.mg "set" = none) (ha : PE X a ta) (hc : X.calm = true)
    (na : starEach [a] X.env = (false, eval a X.env) :: starEach [] X.env) (n2 : (starEach [.Call (.Name "set" p2) [a] [] q] X.env) = (false, eval (.Call (.Name "set" p2) [a] [] q) X.env) :: starEach [] X.env) : PE X (.Call (.Name "len" p) [.Call (.Name "set" p2) [a] [] q] [] pos) (tLenSetT X.K ta) := by
  refine ⟨fun pins s σ H Q I h => ?_⟩
  refine Call_ (ld_blt I hg hm boot_len ?_)
  refine PyProof.Rows.callWith_builtin1 (PyProof.Rows.args_cons ?_ n2) n2 rfl
  refine Call_ (ld_blt I hg2 hm2 boot_set ?_)
  refine PyProof.Rows.callWith_type1 (PyProof.Rows.args_cons (thn (ha.run pins s σ H _ I h) fun v s1 ⟨x, H1, I1, r1, q1⟩ => PyProof.Rows.args_nil ?_) na) na rfl
  obtain ⟨l, ns, rfl, hq, hnd, hl, q1⟩ := q1
  cases r1
  obtain ⟨its, r, pl, hz⟩ := I1.tuple hq
  refine call_set_tupI ns (I1.ok.hd hc) pl (by simpa using RZ.intsAre_vals r) (by unfold scanBound; omega) fun h' tk c hS hc hk => ?_
  refine PyProof.Rows.args_nil ?_
  obtain rfl := setR_count hS hnd
  obtain ⟨o, es, ep, t, ho, hex, hd, _, _, _, _, hf, hn, _⟩ := hS
  have I2 : Inv X pins σ H1 { s1 with heap := h', toks := tk } := I1.kept fun b o e => hk b o e
  exact call_len_set ho hex hd hf (by rw [hn] <;> omega) ⟨.int ns.length, H1, I2.tok _, ⟨_, by rw [hn]⟩, q1⟩
theorem ev_lenSetT {p p2 q : Pos} (hc : X.calm = true) (hm : X.mg "len" = none) (hm2 : X.mg "set" = none) (h : Ev X W a ρ fun d => ∃ ns : List Int, d = .tuple (ns.map PyData.int) ∧ ns.Nodup ∧ ns.length ≤ 4000 ∧ R (.int (ns.length : Nat)))
    (hg : Gl X "len" := by rfl) (hg2 : Gl X "set" := by rfl) (na : starEach [a] X.env = (false, eval a X.env) :: starEach [] X.env := by rfl) (n2 : (starEach [.Call (.Name "set" p2) [a] [] q] X.env) = (false, eval (.Call (.Name "set" p2) [a] [] q) X.env) :: starEach [] X.env := by rfl) :
    Ev X W (.Call (.Name "len" p) [.Call (.Name "set" p2) [a] [] q] [] pos) ρ R := by
  refine ⟨fun σ H B Q L k => (pe_lenSetT hg hm hg2 hm2 pe_w hc na n2).toZ ?_⟩
  refine h.run σ H B _ L fun v H1 B1 d s1 L1 D1 h2 => ?_
  obtain ⟨ns, rfl, h3, h3', h4⟩ := h2
  obtain ⟨q, vs, rfl, h5, h6⟩ := dp_tup D1
  cases dq_ints h6
  exact ⟨q, ns, rfl, seqT L1.gr.sub h5, h3, h3', k _ H1 B1 _ s1 L1 (.int _) h4⟩
/-! ### zip of two lists -/
def zipD : List PyData → List PyData → List PyData
  | x :: xs, y :: ys => .tuple [x, y] :: zipD xs ys
  | _, _ => []
theorem zipD_len : ∀ xs ys : List PyData, (zipD xs ys).length = min xs.length ys.length
  | [], _ => by simp [zipD]
  | _ :: _, [] => by simp [zipD]
  | _ :: xs, _ :: ys => by simp [zipD, zipD_len xs ys]
theorem zipD_get : ∀ (xs ys : List PyData) (i : Nat) {x y : PyData}, xs[i]? = some x → ys[i]? = some y → (zipD xs ys)[i]? = some (.tuple [x, y])
  | [], _, i, _, _, h, _ => by simp at h
  | _ :: _, [], i, _, _, _, h => by simp at h
  | x :: xs, y :: ys, 0, _, _, h1, h2 => by
    simp at h1 h2
    simp [zipD, h1, h2]
  | x :: xs, y :: ys, i + 1, _, _, h1, h2 => by
    simp only [zipD, List.getElem?_cons_succ] at h1 h2 ⊢
    exact zipD_get xs ys i h1 h2
theorem walk_zip {K : PySem.W.Frag} {p q : Addr} {vs us : List V} {ds es : List PyData} {B : Hp} (h : B p = some (.lst vs)) (hd : DqAll K B vs ds) (h' : B q = some (.lst us)) (he : DqAll K B us es) : WalkZ K (Itz K p q) (zipD ds es) B where
  go := fun i B' H' s s' hi => by
    rw [zipD_len, ← dpAll_len hd, ← dpAll_len he] at hi
    have i1 : i < vs.length := by omega
    have i2 : i < us.length := by omega
    exact ⟨vs, us, vs[i], us[i], SqL.of (s' _ _ (s _ _ h)), SqL.of (s' _ _ (s _ _ h')), by simp [i1], by simp [i2]⟩
  stop := fun B' H' s s' => by
    refine ⟨vs, us, SqL.of (s' _ _ (s _ _ h)), SqL.of (s' _ _ (s _ _ h')), ?_⟩
    rw [zipD_len, ← dpAll_len hd, ← dpAll_len he]
    omega
  yld := fun i B' H' x H'' W σ ρ s L hy hi => by
    obtain ⟨T, x1, y1, rfl, hT, rfl, hx, hy⟩ := hy
    rw [zipD_len] at hi
    have hx := hx vs (SqL.of (L.gr.sub _ _ (s _ _ h)))
    have hy := hy us (SqL.of (L.gr.sub _ _ (s _ _ h')))
    have i1 : i < ds.length := by omega
    have i2 : i < es.length := by omega
    obtain ⟨v, h1, h2⟩ := dpAll_get hd (List.getElem?_eq_getElem i1)
    obtain ⟨u, h3, h4⟩ := dpAll_get he (List.getElem?_eq_getElem i2)
    rw [hx] at h1
    rw [hy] at h3
    cases h1
    cases h3
    obtain ⟨sB, L'⟩ := L.fresh hT (.tup [x1, y1])
    refine ⟨_, _, zipD_get ds es i (List.getElem?_eq_getElem i1) (List.getElem?_eq_getElem i2), sB, L', .tup (SqT.of upd_same) (.cons (dpMono (s.trans sB) _ _ h2) (.cons (dpMono (s.trans sB) _ _ h4) .nil)), fun b o q => ?_, fun b o q1 q2 => ?_⟩
    · rw [upd_ne (ne_of_none q hT)]
      exact q
    · rw [upd_ne (ne_of_none q1 hT)]
      exact q2
theorem ei_zip {p tpos : Pos} {elts : List Expr} {kk : Nat} {R : List PyData → Prop} (hm : X.mg "zip" = none) (h : Ev X W a ρ fun d => Ev X W b ρ fun d' => match d, d' with | .list xs, .list ys => R (zipD xs ys) | _, _ => False) (hg : Gl X "zip" := by rfl)
    (hs : starEach [a, b] X.env = (false, eval a X.env) :: starEach [b] X.env := by rfl) (hs2 : starEach [b] X.env = (false, eval b X.env) :: starEach [] X.env := by rfl) (hpl : (backTo pos (starEach [b] X.env)).any (·.1) = false := by rfl) : Ei X W (.Tuple elts kk tpos) (.Call (.Name "zip" p) [a, b] [] pos) ρ R := by
  refine ⟨fun σ H B Q L k => (RZ.pi_zipA hg hm (pa_cons pe_w (pa_cons pe_w pa_nil hs2) hs) hs hpl).toZ ?_⟩
  refine h.run σ H B _ L fun v H1 B1 d s1 L1 D1 h2 => ?_
  refine h2.run σ H1 B1 _ L1 fun u H2 B2 d' s2 L2 D2 h3 => ?_
  cases d <;> first | exact h3.elim | skip
  cases d' <;> first | exact h3.elim | skip
  obtain ⟨p, vs, rfl, h4, h5⟩ := dp_list D1
  obtain ⟨q, us, rfl, h6, h7⟩ := dp_list D2
  have h4' := s2 _ _ h4
  refine ⟨p, q, vs, us, rfl, .inl ⟨SqL.of (L2.gr.sub _ _ h4'), SqL.of (L2.gr.sub _ _ h6), k _ H2 B2 _ (s1.trans s2) L2 (walk_zip h4' (dpAllMono s2 _ _ h5) h6 h7) h3⟩⟩
/-! ### min of a list of pairs -/
def prZ (p : Int × Int) : PyData := .tuple [.int p.1, .int p.2]
def prLe (p q : Int × Int) : Prop := p.1 < q.1 ∨ (p.1 = q.1 ∧ p.2 ≤ q.2)
theorem prZ_lt (p q : Int × Int) : PySem.W.dataLt (prZ p) (prZ q) = decide (p.1 < q.1 ∨ (p.1 = q.1 ∧ p.2 < q.2)) := PySem.W.dataLt_ii _ _ _ _
theorem minD_pr (p : Int × Int) (ps : List (Int × Int)) : ∃ m, m ∈ p :: ps ∧ (∀ y ∈ p :: ps, prLe m y) ∧ PySem.W.minD (prZ p) (ps.map prZ) = prZ m := by
  unfold PySem.W.minD
  induction ps generalizing p with
  | nil => exact ⟨p, by simp, fun y hy => by simp at hy; subst hy; exact .inr ⟨rfl, Int.le_refl _⟩, rfl⟩
  | cons q qs ih =>
    rw [List.map_cons, List.foldl_cons, prZ_lt]
    by_cases h : q.1 < p.1 ∨ (q.1 = p.1 ∧ q.2 < p.2)
    · rw [decide_eq_true h, if_pos rfl]
      obtain ⟨m, h1, h2, h3⟩ := ih q
      refine ⟨m, List.mem_cons_of_mem _ h1, fun y hy => ?_, h3⟩
      rcases List.mem_cons.mp hy with rfl | hy
      · have := h2 q List.mem_cons_self
        unfold prLe at this ⊢
        omega
      · exact h2 y hy
    · rw [decide_eq_false h, if_neg (by decide)]
      obtain ⟨m, h1, h2, h3⟩ := ih p
      refine ⟨m, ?_, fun y hy => ?_, h3⟩
      · rcases List.mem_cons.mp h1 with rfl | h1
        · exact List.mem_cons_self
        · exact List.mem_cons_of_mem _ (List.mem_cons_of_mem _ h1)
      · rcases List.mem_cons.mp hy with rfl | hy
        · exact h2 y List.mem_cons_self
        · rcases List.mem_cons.mp hy with rfl | hy
          · have := h2 p List.mem_cons_self
            unfold prLe at this ⊢
            omega
          · exact h2 y (List.mem_cons_of_mem _ hy)
def rMinPr (K : PySem.W.Frag) : List V → Hp → VK → Prop := fun vs H Q => ∃ (a : Addr) (us : List V) (p : Int × Int) (ps : List (Int × Int)), vs = [V.ref a] ∧ SqL K H a us ∧ DpAll K H us ((p :: ps).map prZ) ∧ ∀ (i : Nat) m u, us[i]? = some u → ((p :: ps).map prZ)[i]? = some (prZ m) → (∀ y ∈ p :: ps, prLe m y) → Q u H
theorem prZ_inj {p q : Int × Int} (h : prZ p = prZ q) : p = q := by
  unfold prZ at h
  injection h with h
  injection h with h1 h
  injection h with h2 h
  injection h1 with h1
  injection h2 with h2
  exact Prod.ext h1 h2
theorem prZ_alike (p q : Int × Int) : PySem.W.alike (prZ p) (prZ q) = true := by
  unfold prZ
  first | rfl | decide | simp [PySem.W.alike, PySem.W.alikeAll]
theorem prZ_depth : ∀ ps : List (Int × Int), PyData.depthAll (ps.map prZ) ≤ 3
  | [] => by simp [PyData.depthAll]
  | p :: ps => by
    have h := prZ_depth ps
    rw [List.map_cons]
    simp only [PyData.depthAll, prZ, PyData.depth]
    omega
theorem prZ_alikeAll (ps : List (Int × Int)) : PySem.W.AlikeAll (ps.map prZ) := by
  refine ⟨fun x hx y hy => ?_, fun x hx => ?_⟩
  · obtain ⟨p, _, rfl⟩ := List.mem_map.mp hx
    obtain ⟨q, _, rfl⟩ := List.mem_map.mp hy
    exact prZ_alike p q
  · obtain ⟨p, _, rfl⟩ := List.mem_map.mp hx
    exact fun z => nomatch z
theorem cr_minPr (hc : X.calm = true) (hu : X.A.units + 64 < cLine) : CallR X (.builtin "min") (rMinPr X.K) := by
  intro pins s σ H vs us Q I r h
  obtain ⟨a, xs, p, ps, rfl, hs, hd, q⟩ := h
  obtain ⟨its, rv, hl, _⟩ := I.list hs
  rw [Vals.ref1 r]
  obtain ⟨as, rd⟩ := Dp.readsAll I _ _ _ hd rv
  have hdep := prZ_depth (p :: ps)
  rw [List.map_cons] at rd hdep
  refine PySem.W.min_list_data (I.ok.hd hc) hl.isList (by simpa using rd) (by rw [← List.map_cons]; exact prZ_alikeAll (p :: ps)) (by omega) fun i v h' tk bs hi r' hk => ?_
  obtain ⟨m, m1, m2, m3⟩ := minD_pr p ps
  rw [m3] at r'
  have hi' : its[i]? = some v := by simpa using hi
  obtain ⟨cs, rc, il, _⟩ := PySem.W.readsAll_at rd i v hi'
  have hln : i < xs.length := by
    have := (List.getElem?_eq_some_iff.mp hi').1
    rw [← rv.length] at this
    exact this
  obtain ⟨v', e1, e2⟩ := Vals.get rv (List.getElem?_eq_getElem hln)
  rw [hi'] at e1
  cases e1
  obtain ⟨e3, _⟩ := Reads.unique (Reads.keeps hk rc) _ _ r'
  refine ⟨xs[i], H, I.kept hk, e2, q i m _ (List.getElem?_eq_getElem hln) ?_ m2⟩
  rw [← e3, List.map_cons, List.getD_eq_getElem?_getD, List.getElem?_eq_getElem il]
  rfl
theorem ev_minPr {p : Pos} (hc : X.calm = true) (hu : X.A.units + 64 < cLine) (hm : X.mg "min" = none) (h : Ev X W e ρ fun d => ∃ (q : Int × Int) (ps : List (Int × Int)), d = .list ((q :: ps).map prZ) ∧ ∀ m ∈ q :: ps, (∀ y ∈ q :: ps, prLe m y) → R (prZ m)) (hg : Gl X "min" := by rfl)
    (he : starEach [e] X.env = (false, eval e X.env) :: starEach [] X.env := by rfl) (hpl : (backTo pos (starEach [] X.env)).any (·.1) = false := by rfl) : Ev X W (.Call (.Name "min" p) [e] [] pos) ρ R := by
  refine ⟨fun σ H B Q L k => (pe_callB (cr_minPr hc hu) hg hm boot_min (pa_cons pe_w pa_nil he) (by decide) (by decide) he hpl).toZ ?_⟩
  refine h.run σ H B _ L fun v H1 B1 d s1 L1 D1 h2 => ?_
  obtain ⟨m0, ps, rfl, h3⟩ := h2
  obtain ⟨q, vs, rfl, h5, h6⟩ := dp_list D1
  refine ⟨q, vs, m0, ps, rfl, SqL.of (L1.gr.sub _ _ h5), dqDpAll _ _ (dpAllMono L1.gr.sub _ _ h6), fun i m u hu hd hle => ?_⟩
  obtain ⟨v, e1, e2⟩ := dpAll_get h6 hd
  rw [hu] at e1
  cases e1
  have hm : m ∈ m0 :: ps := by
    obtain ⟨m', h1, h2⟩ := List.mem_map.mp (List.mem_of_getElem? hd)
    rw [← prZ_inj h2]
    exact h1
  exact k _ H1 B1 _ s1 L1 e2 (h3 m hm hle)
/-- x.extend(e), e a list -/
theorem es_extend (i : Nat) {x : Str} {px pa cp : Pos} {ds : List PyData} (hρ : ρ[i]? = some (.own ds)) (h : Ev X W e ρ fun d => match d with | .list ys => ds.length + ys.length ≤ sizeLine ∧ D.nx (ρ.set i (.own (ds ++ ys))) | _ => False) (hN : X.N[i]? = some x := by rfl) (hv : Vis X.env.scope x := by first | exact Or.inl rfl | exact Or.inr (Or.inl rfl) | exact Or.inr (Or.inr rfl))
    (hs : swapsWith (.Call (.Attribute (.Name x px) "extend" pa) [e] [] cp) none pos.line X.env = pure false := by rfl) (hd : (x == ("__debug__" : Str)) = false := by decide) (hcd : (x == ("__classdict__" : Str)) = false := by decide)
    (hbase : attributeBase (.Name x px) "extend" X.env (eval (.Name x px) X.env) = eval (.Name x px) X.env := by rfl)
    (hfew : ((backTo cp (starEach [e] X.env)).all (fun x => !x.1) && (backToKw cp (keywordEach [] X.env)).all (fun x => x.1.isSome) && decide (([e] : List Expr).length + ([] : List Keyword).length + (if ([] : List Keyword).isEmpty then 0 else 1) < 30)) = true := by rfl)
    (hline : (pa.endLine == cp.line) = true := by rfl) (hse : starEach [e] X.env = (false, eval e X.env) :: starEach [] X.env := by rfl) (hpl : (backTo cp (starEach [] X.env)).any (·.1) = false := by rfl) :
    Es X W (.Expr (.Call (.Attribute (.Name x px) "extend" pa) [e] [] cp) pos) ρ D := by
  refine ⟨fun σ H B L => (ps_expr (pe_bm PySem.F.plainAttrs_list PySem.F.slot_list_extend PySem.F.type_list_extend mt_extend (pe_var hN hv hd hcd) (pa_cons pe_w pa_nil hse) hbase hfew hline hse hpl) hs).toZ ?_⟩
  obtain ⟨p, vs, e1, e2, e3, e4, e5⟩ := L.at' i _ hρ
  refine ⟨.ref p, e1, .inl ⟨rfl, vs, SqL.of e4⟩, ?_⟩
  refine h.run σ H B _ L fun v H2 B2 d s2 L2 D2 h3 => ?_
  cases d <;> first | exact h3.elim | skip
  rename_i ys
  obtain ⟨p', vs', f1, f2, f3, f4, f5⟩ := L2.at' i _ hρ
  rw [e1] at f1
  cases f1
  obtain ⟨q, us, rfl, g1, g2⟩ := dp_list D2
  exact ⟨p, q, vs', us, rfl, rfl, f4, L2.gr.sub _ _ g1, by rw [dpAll_len f5, dpAll_len g2]; exact h3.1, B2, _, s2, L2.chg hρ e1 (dpAll_app f5 g2), h3.2⟩
/-- x, y = [], n -/
theorem es_parL (i j : Nat) {n : Int} {x y : Str} {px py pt p1 p2 : Pos} {kt k2 pt2 j2} (h : D.nx ((ρ.set i (.own [])).set j (.im (.int n)))) (hc : X.calm = true) (hN : X.N.Nodup) (hi : X.N[i]? = some x := by rfl) (hj : X.N[j]? = some y := by rfl) (hij : i ≠ j := by decide)
    (hx : X.env.scope.names.lookup x = some .local := by rfl) (hy : X.env.scope.names.lookup y = some .local := by rfl)
    (hw : swappedStores [.Tuple [.Name x px, .Name y py] kt pt] (.Tuple [.List [] p1, .Constant (.int n) j2 p2] k2 pt2) X.env = pure (some [x, y]) := by rfl)
    (hs : swapsWithSole [.Tuple [.Name x px, .Name y py] kt pt] (.Tuple [.List [] p1, .Constant (.int n) j2 p2] k2 pt2) pos.line X.env = pure false := by rfl) :
    Es X W (.Assign [.Tuple [.Name x px, .Name y py] kt pt] (.Tuple [.List [] p1, .Constant (.int n) j2 p2] k2 pt2) pos) ρ D := by
  refine ⟨fun σ H B L => (ps_par hc hN hi hj hij hx hy (pa_cons (pe_lst pa_nil) (pa_cons pe_int pa_nil rfl) rfl) hw hs).toZ ?_⟩
  refine ⟨Nat.zero_le _, fun p hp => ?_⟩
  obtain ⟨L', q1, q2, q3, q4⟩ := fresh_own L hp [] [] .nil
  exact ⟨_, _, rfl, B, _, Same.refl _, (L'.own q1 q2 q3 q4 .nil).put (.int n), h⟩
/-- lo, lo + k, .. -/
def rng3D (i k : Int) (n : Nat) : List PyData := (List.range n).map fun j => PyData.int (i + (j : Nat) * k)
theorem rng3D_len {i k : Int} {n : Nat} : (rng3D i k n).length = n := by simp [rng3D]
theorem rng3D_get {i k : Int} {n j : Nat} (h : j < n) : (rng3D i k n)[j]? = some (.int (i + (j : Nat) * k)) := by simp [rng3D, h]
theorem rgC_up {i j k : Int} (hi : 0 ≤ i) (hi2 : i ≤ 2 ^ 40) (hj : 0 ≤ j) (hj2 : j ≤ 2 ^ 40) (hk : 0 < k) (hk2 : k ≤ 1000000) : RgC i j k (if i < j then (j - i - 1) / k + 1 else 0).toNat := by
  have h0 : 0 ≤ (if i < j then (j - i - 1) / k + 1 else 0) ∧ (if i < j then (j - i - 1) / k + 1 else 0) ≤ 2 ^ 40 := by
    split
    · have h1 := Int.ediv_nonneg (a := j - i - 1) (b := k) (by omega) (by omega)
      have h2 := Int.ediv_le_self k (show (0 : Int) ≤ j - i - 1 by omega)
      omega
    · omega
  have hs : Builtin.Range.rangeSize i j k = (if i < j then (j - i - 1) / k + 1 else 0) := by
    unfold Builtin.Range.rangeSize
    rw [if_pos hk]
  refine ⟨by omega, by omega, ?_, by rw [hs]; omega⟩
  unfold Builtin.Range.small
  rw [hs]
  simp only [Builtin.Range.rangeFitsLong, Bool.and_eq_true, Bool.or_eq_true, decide_eq_true_eq, beq_iff_eq]
  rw [if_pos hk]
  generalize (if i < j then (j - i - 1) / k + 1 else 0) = n at h0
  refine ⟨⟨⟨⟨by omega, by omega⟩, by omega⟩, by omega⟩, .inr ?_⟩
  rw [Bool.and_eq_true, decide_eq_true_eq, decide_eq_true_eq]
  omega
theorem walk_rng3 {K : PySem.W.Frag} {lo k : Int} {n : Nat} {B : Hp} : WalkZ K (Itc lo k n) (rng3D lo k n) B where
  go := fun i B' H' s s' hi => by
    rw [rng3D_len] at hi
    exact hi
  stop := fun B' H' s s' => by
    show n ≤ (rng3D lo k n).length
    rw [rng3D_len]
    exact Nat.le_refl _
  yld := fun i B' H' x H'' W σ ρ s L hy hi => by
    obtain ⟨e, hx⟩ := hy
    subst e
    rw [rng3D_len] at hi
    exact ⟨_, B', rng3D_get hi, Same.refl _, L, by rw [hx]; exact .int _, fun _ _ q => q, fun _ _ _ q => q⟩
/-- the size of a range up -/
def rgN (i j k : Int) : Nat := (if i < j then (j - i - 1) / k + 1 else 0).toNat
theorem ei_range3 {tg : Expr} {p : Pos} {R : List PyData → Prop} (hm : X.mg "range" = none)
    (h : Ea X W [a, b, c] ρ fun ds => match ds with | [.int i, .int j, .int k] => (0 ≤ i ∧ i ≤ 2 ^ 40 ∧ 0 ≤ j ∧ j ≤ 2 ^ 40 ∧ 0 < k ∧ k ≤ 1000000) ∧ R (rng3D i k (rgN i j k)) | _ => False) (hg : Gl X "range" := by rfl)
    (hs : starEach [a, b, c] X.env = (false, eval a X.env) :: starEach [b, c] X.env := by rfl) (hpl : (backTo pos (starEach [b, c] X.env)).any (·.1) = false := by rfl) : Ei X W tg (.Call (.Name "range" p) [a, b, c] [] pos) ρ R := by
  refine ⟨fun σ H B Q L k => (pi_range3 hg hm pa_w hs hpl).toZ ?_⟩
  refine h.run σ H B _ L fun vs H1 B1 ds s1 L1 D1 h2 => ?_
  match ds, D1, h2 with
  | [.int i, .int j, .int l], .cons d1 (.cons d2 (.cons d3 .nil)), ⟨⟨h1, h2, h3, h4, h5, h6⟩, h7⟩ =>
    cases dp_int d1
    cases dp_int d2
    cases dp_int d3
    exact ⟨i, j, l, _, rfl, rgC_up h1 h2 h3 h4 h5 h6, k _ H1 B1 _ s1 L1 walk_rng3 h7⟩
/-- list(range(a, b, c)) -/
def rng3V (i k : Int) (n : Nat) : List V := (List.range n).map fun j => V.int (i + (j : Nat) * k)
theorem rng3_dq {K : PySem.W.Frag} {B : Hp} (i k : Int) (n : Nat) : DqAll K B (rng3V i k n) (rng3D i k n) := by
  have e1 : rng3V i k n = ((List.range n).map fun j => i + ((j : Nat) : Int) * k).map V.int := by rw [List.map_map]; rfl
  have e2 : rng3D i k n = ((List.range n).map fun j => i + ((j : Nat) : Int) * k).map PyData.int := by rw [List.map_map]; rfl
  rw [e1, e2]
  exact ints_dq _
theorem vals_rg3 {a k : Int} {n : Nat} {acc : Array Value} (h : ItemsOf (fun i v => ∃ t, v = .int (a + i * k) t) acc n) : Vals (rng3V a k n) acc.toList := by
  have e : acc.toList.length = n := by rw [Array.length_toList]; exact h.1
  unfold rng3V
  rw [← e]
  refine vals_of_get acc.toList _ fun j u hj => ?_
  obtain ⟨t, rfl⟩ := h.2 j u (by rw [← hj, Array.getElem?_toList])
  exact ⟨t, rfl⟩
def tListR3 (ta : TA) : TE := fun σ H Q => ta σ H fun vs H1 => ∃ (i j k : Int) (n : Nat), vs = [.int i, .int j, .int k] ∧ RgC i j k n ∧ n ≤ 2 ^ 24 ∧ ∀ q, H1 q = none → Q (.ref q) (upd H1 q (.lst (rng3V i k n)))
theorem pe_listR3 {p p2 q : Pos} {ta : TA} (hg : Gl X "list") (hm : X.mg "list" = none) (hg2 : Gl X "range") (hm2 : X.mg "range" = none) (ha : PA X [a, b, c] ta) (hc : X.calm = true)
    (hs : starEach [a, b, c] X.env = (false, eval a X.env) :: starEach [b, c] X.env) (hpl : (backTo q (starEach [b, c] X.env)).any (·.1) = false)
    (n2 : (starEach [.Call (.Name "range" p2) [a, b, c] [] q] X.env) = (false, eval (.Call (.Name "range" p2) [a, b, c] [] q) X.env) :: starEach [] X.env) : PE X (.Call (.Name "list" p) [.Call (.Name "range" p2) [a, b, c] [] q] [] pos) (tListR3 ta) := by
  refine ⟨fun pins s σ H Q I h => ?_⟩
  refine Call_ (ld_blt I hg hm boot_list ?_)
  refine PyProof.Rows.callWith_type1 (PyProof.Rows.args_cons ?_ n2) n2 rfl
  refine Call_ (ld_blt I hg2 hm2 boot_range (PyProof.Rows.callWith_type1 (thn (ha.run q pins s σ H _ I h) fun us s1 ⟨vs, H1, I1, r1, q1⟩ => ?_) hs hpl))
  obtain ⟨i, j, k, n, e, ⟨c0, c1, c2, c3⟩, hn, q1⟩ := q1
  subst e
  cases r1 with
  | cons r rr =>
  cases rr with
  | cons r' rr =>
  cases rr with
  | cons r'' rr =>
    cases rr
    obtain ⟨t1, rfl⟩ := r
    obtain ⟨t2, rfl⟩ := r'
    obtain ⟨t3, rfl⟩ := r''
    refine call_range_3 c0 ?_ (.inl (PyProof.noPylong_small c1))
    refine PyProof.Rows.args_nil ?_
    obtain ⟨s2, e2⟩ : ∃ s2 : Shared, s2 = { s1 with heap := s1.heap.push { cls := .type "range", data := .fields #[.int i t1, .int j t2, .int k t3] } } := ⟨_, rfl⟩
    have I2 : Inv X pins σ H1 s2 := by
      rw [e2]
      exact I1.kept (t' := s1.toks) fun b o e => Heap.get?_push_of_some _ e
    have hr : IsRange s2.heap s1.heap.objs.size i j k t1 t2 t3 := by
      rw [e2]
      exact IsRange.new ..
    rw [← e2]
    refine call_list_range (n := n) (I2.ok.hd hc) hr c2 c3 hn fun h' tk acc c' hk e' hi => ?_
    have hlen : (rng3V i k n).length = n := by simp [rng3V]
    refine ⟨.ref s2.heap.objs.size, upd H1 s2.heap.objs.size (.lst (rng3V i k n)), I2.laid hk (Nat.le_refl _) (show ObjOk X.prog X.w _ _ _ (.lst (rng3V i k n)) from ⟨?_, acc.toList, c', vals_rg3 hi, ?_⟩), rfl, q1 _ (I2.hok.fresh (Nat.le_refl _))⟩
    · rw [hlen, sizeLine_eq]
      omega
    · rw [Array.toArray_toList]; exact e'
theorem el_listR3 {p p2 q : Pos} {R : List PyData → Prop} (hc : X.calm = true) (hm : X.mg "list" = none) (hm2 : X.mg "range" = none)
    (h : Ea X W [a, b, c] ρ fun ds => match ds with | [.int i, .int j, .int k] => (0 ≤ i ∧ i ≤ 2 ^ 40 ∧ 0 ≤ j ∧ j ≤ 2 ^ 40 ∧ 0 < k ∧ k ≤ 1000000) ∧ rgN i j k ≤ 1000000 ∧ R (rng3D i k (rgN i j k)) | _ => False) (hg : Gl X "list" := by rfl) (hg2 : Gl X "range" := by rfl)
    (hs : starEach [a, b, c] X.env = (false, eval a X.env) :: starEach [b, c] X.env := by rfl) (hpl : (backTo q (starEach [b, c] X.env)).any (·.1) = false := by rfl)
    (n2 : (starEach [.Call (.Name "range" p2) [a, b, c] [] q] X.env) = (false, eval (.Call (.Name "range" p2) [a, b, c] [] q) X.env) :: starEach [] X.env := by rfl) :
    El X W (.Call (.Name "list" p) [.Call (.Name "range" p2) [a, b, c] [] q] [] pos) ρ R := by
  refine ⟨fun σ H B Q L k => (pe_listR3 hg hm hg2 hm2 pa_w hc hs hpl n2).toZ ?_⟩
  refine h.run σ H B _ L fun vs H1 B1 ds s1 L1 D1 h2 => ?_
  match ds, D1, h2 with
  | [.int i, .int j, .int l], .cons d1 (.cons d2 (.cons d3 .nil)), ⟨⟨h1, h2, h3, h4, h5, h6⟩, h7, h8⟩ =>
    cases dp_int d1
    cases dp_int d2
    cases dp_int d3
    refine ⟨i, j, l, _, rfl, rgC_up h1 h2 h3 h4 h5 h6, Nat.le_trans h7 (by decide), fun p hp => ?_⟩
    obtain ⟨L', q1, q2, q3, q4⟩ := fresh_own L1 hp (rng3D i l (rgN i j l)) (rng3V i l (rgN i j l)) (rng3_dq _ _ _)
    exact k p _ _ B1 _ s1 L' q1 q2 q3 q4 (rng3_dq _ _ _) h8
section
variable {X : Cx} {W : Wd} {ρ : List Sl} {D : Dz} {R : PyData → Prop} {pos : Pos} {a b c e : Expr} {es : List Expr} {st : Stmt} {sts body : List Stmt}
theorem dpAll_eraseIdx {K : PySem.W.Frag} {B : Hp} : ∀ {vs : List V} {ds : List PyData} (k : Nat), DqAll K B vs ds → DqAll K B (vs.eraseIdx k) (ds.eraseIdx k)
  | _, _, _, .nil => .nil
  | _, _, 0, .cons _ t => t
  | _, _, k + 1, .cons h t => .cons h (dpAll_eraseIdx k t)
theorem dpAll_rev {K : PySem.W.Frag} {B : Hp} : ∀ {vs : List V} {ds : List PyData}, DqAll K B vs ds → DqAll K B vs.reverse ds.reverse
  | _, _, .nil => .nil
  | _, _, .cons h t => by
    rw [List.reverse_cons, List.reverse_cons]
    exact dpAll_app (dpAll_rev t) (.cons h .nil)
/-- x.pop(e), its value thrown away -/
theorem es_popAt (i : Nat) {x : Str} {px pa cp : Pos} {ds : List PyData} (hρ : ρ[i]? = some (.own ds)) (h : Ev X W e ρ fun d => match d with | .int k => (0 ≤ k ∧ k < ds.length ∧ ds.length ≤ 1000000) ∧ D.nx (ρ.set i (.own (ds.eraseIdx k.toNat))) | _ => False) (hN : X.N[i]? = some x := by rfl) (hv : Vis X.env.scope x := by first | exact Or.inl rfl | exact Or.inr (Or.inl rfl) | exact Or.inr (Or.inr rfl))
    (hs : swapsWith (.Call (.Attribute (.Name x px) "pop" pa) [e] [] cp) none pos.line X.env = pure false := by rfl) (hd : (x == ("__debug__" : Str)) = false := by decide) (hcd : (x == ("__classdict__" : Str)) = false := by decide)
    (hbase : attributeBase (.Name x px) "pop" X.env (eval (.Name x px) X.env) = eval (.Name x px) X.env := by rfl)
    (hfew : ((backTo cp (starEach [e] X.env)).all (fun x => !x.1) && (backToKw cp (keywordEach [] X.env)).all (fun x => x.1.isSome) && decide (([e] : List Expr).length + ([] : List Keyword).length + (if ([] : List Keyword).isEmpty then 0 else 1) < 30)) = true := by rfl)
    (hline : (pa.endLine == cp.line) = true := by rfl) (hse : starEach [e] X.env = (false, eval e X.env) :: starEach [] X.env := by rfl) (hpl : (backTo cp (starEach [] X.env)).any (·.1) = false := by rfl) :
    Es X W (.Expr (.Call (.Attribute (.Name x px) "pop" pa) [e] [] cp) pos) ρ D := by
  refine ⟨fun σ H B L => (ps_expr (pe_bm PySem.F.plainAttrs_list PySem.F.slot_list_pop PySem.F.type_list_pop mt_popAt (pe_var hN hv hd hcd) (pa_cons pe_w pa_nil hse) hbase hfew hline hse hpl) hs).toZ ?_⟩
  obtain ⟨p, vs, e1, e2, e3, e4, e5⟩ := L.at' i _ hρ
  refine ⟨.ref p, e1, .inl ⟨rfl, vs, SqL.of e4⟩, ?_⟩
  refine h.run σ H B _ L fun v H2 B2 d s2 L2 D2 h3 => ?_
  cases d <;> first | exact h3.elim | skip
  rename_i k
  obtain ⟨⟨k0, k1, k2⟩, h4⟩ := h3
  obtain ⟨p', vs', f1, f2, f3, f4, f5⟩ := L2.at' i _ hρ
  rw [e1] at f1
  cases f1
  cases dp_int D2
  have hl := dpAll_len f5
  have hk : k.toNat < vs'.length := by omega
  exact ⟨p, vs', k, k.toNat, vs'[k.toNat], rfl, rfl, f4, by omega, by omega, seqIndex_of k0 (by omega), List.getElem?_eq_getElem hk, B2, _, s2, L2.chg hρ e1 (dpAll_eraseIdx _ f5), h4⟩
/-- x.insert(b, e) -/
theorem es_insert (i : Nat) {x : Str} {px pa cp : Pos} {ds : List PyData} (hρ : ρ[i]? = some (.own ds)) (h : Ea X W [b, e] ρ fun us => match us with | [.int k, d] => (0 ≤ k ∧ k < 2 ^ 63 ∧ ds.length < sizeLine) ∧ D.nx (ρ.set i (.own (ds.take k.toNat ++ [d] ++ ds.drop k.toNat))) | _ => False) (hN : X.N[i]? = some x := by rfl) (hv : Vis X.env.scope x := by first | exact Or.inl rfl | exact Or.inr (Or.inl rfl) | exact Or.inr (Or.inr rfl))
    (hs : swapsWith (.Call (.Attribute (.Name x px) "insert" pa) [b, e] [] cp) none pos.line X.env = pure false := by rfl) (hd : (x == ("__debug__" : Str)) = false := by decide) (hcd : (x == ("__classdict__" : Str)) = false := by decide)
    (hbase : attributeBase (.Name x px) "insert" X.env (eval (.Name x px) X.env) = eval (.Name x px) X.env := by rfl)
    (hfew : ((backTo cp (starEach [b, e] X.env)).all (fun x => !x.1) && (backToKw cp (keywordEach [] X.env)).all (fun x => x.1.isSome) && decide (([b, e] : List Expr).length + ([] : List Keyword).length + (if ([] : List Keyword).isEmpty then 0 else 1) < 30)) = true := by rfl)
    (hline : (pa.endLine == cp.line) = true := by rfl) (hse : starEach [b, e] X.env = (false, eval b X.env) :: starEach [e] X.env := by rfl) (hpl : (backTo cp (starEach [e] X.env)).any (·.1) = false := by rfl) :
    Es X W (.Expr (.Call (.Attribute (.Name x px) "insert" pa) [b, e] [] cp) pos) ρ D := by
  refine ⟨fun σ H B L => (ps_expr (pe_bm PySem.F.plainAttrs_list PySem.F.slot_list_insert PySem.F.type_list_insert mt_insert (pe_var hN hv hd hcd) pa_w hbase hfew hline hse hpl) hs).toZ ?_⟩
  obtain ⟨p, vs, e1, e2, e3, e4, e5⟩ := L.at' i _ hρ
  refine ⟨.ref p, e1, .inl ⟨rfl, vs, SqL.of e4⟩, ?_⟩
  refine h.run σ H B _ L fun us H2 B2 ds2 s2 L2 D2 h3 => ?_
  match ds2, D2, h3 with
  | [.int k, d], .cons d1 (.cons d2 .nil), ⟨⟨k0, k1, k2⟩, h4⟩ =>
    obtain ⟨p', vs', f1, f2, f3, f4, f5⟩ := L2.at' i _ hρ
    rw [e1] at f1
    cases f1
    cases dp_int d1
    have hl := dpAll_len f5
    exact ⟨p, vs', k, _, rfl, rfl, f4, by omega, k0, k1, B2, _, s2, L2.chg hρ e1 (dpAll_app (dpAll_app (dpAll_take _ f5) (.cons d2 .nil)) (dpAll_drop _ f5)), h4⟩
/-- x[::-1] of an own list -/
theorem el_revOwn (i : Nat) {x : Str} {ds : List PyData} {px p1 p2 p3 : Pos} {kk : Nat} {R : List PyData → Prop} (hρ : ρ[i]? = some (.own ds)) (h : R ds.reverse) (hN : X.N[i]? = some x := by rfl) (hv : Vis X.env.scope x := by first | exact Or.inl rfl | exact Or.inr (Or.inl rfl) | exact Or.inr (Or.inr rfl))
    (hd : (x == ("__debug__" : Str)) = false := by decide) (hcd : (x == ("__classdict__" : Str)) = false := by decide) : El X W (.Subscript (.Name x px) (.Slice none none (some (.UnaryOp .USub (.Constant (.int 1) kk p1) p2)) p3) pos) ρ R := by
  refine ⟨fun σ H B Q L k => (pe_revL (pe_var hN hv hd hcd)).toZ ?_⟩
  obtain ⟨p, vs, e1, e2, e3, e4, e5⟩ := L.at' i _ hρ
  refine ⟨.ref p, e1, p, vs, rfl, SqL.of e4, fun q hq => ?_⟩
  obtain ⟨L', q1, q2, q3, q4⟩ := fresh_own L hq ds.reverse vs.reverse (dpAll_rev e5)
  exact k q _ _ B _ (Same.refl _) L' q1 q2 q3 q4 (dpAll_rev e5) h
/-- z[lo:hi] of a text -/
theorem ev_slS {lo hi : Option Expr} {p2 : Pos} (h : Ev X W e ρ fun d => Eo X W lo ρ fun l => Eo X W hi ρ fun u => match d with | .str z => z.length ≤ sizeLine ∧ R (.str (cutS z l u)) | _ => False) : Ev X W (.Subscript e (.Slice lo hi none p2) pos) ρ R := by
  refine ⟨fun σ H B Q L k => (pe_slice sl_str pe_w po_w po_w).toZ ?_⟩
  refine h.run σ H B _ L fun v H1 B1 d s1 L1 D1 h2 => ?_
  refine h2.run σ H1 B1 _ L1 fun l H2 B2 s2 L2 h3 => ?_
  refine h3.run σ H2 B2 _ L2 fun u H3 B3 s3 L3 h4 => ?_
  cases d <;> first | exact h4.elim | skip
  rename_i z
  cases dp_str D1
  exact ⟨z, rfl, h4.1, k _ H3 B3 _ ((s1.trans s2).trans s3) L3 (.str _) h4.2⟩
theorem isTL_kit {K : PySem.W.Frag} (d : PyData) : PySem.W.kitAny K (.type (tyD d)) [.type "tuple", .type "list"] = some (isLT d) := by
  have q : ∀ d : PyData, kitB (tyD d) "list" = some (match d with | .list _ => true | _ => false) ∧ kitB (tyD d) "tuple" = some (match d with | .tuple _ => true | _ => false) := by
    intro d
    rw [kit_of_tab d (by simp), kit_of_tab d (by simp)]
    cases d <;> exact ⟨rfl, rfl⟩
  obtain ⟨q1, q2⟩ := q d
  refine kitAny_cons (kit_ty q2) (fun z => kitAny_cons (kit_ty q1) (fun z2 => ?_) fun z2 => ?_) fun z => ?_
  · rw [kitAny_nil]
    cases d <;> first | rfl | (simp at z; done) | (simp at z2; done)
  · cases d <;> first | rfl | (simp at z2; done)
  · cases d <;> first | rfl | (simp at z; done)
/-- isinstance(e, (tuple, list)) -/
theorem ev_isiTL {p p1 p2 p3 : Pos} {x1} (hm : X.mg "isinstance" = none) (h1 : X.mg "list" = none) (h2 : X.mg "tuple" = none) (h : Ev X W e ρ fun d => R (.bool (isLT d))) (hg : Gl X "isinstance" := by rfl) (hgl : Gl X "list" := by rfl) (hgt : Gl X "tuple" := by rfl)
    (he : starEach [e, .Tuple [.Name "tuple" p1, .Name "list" p2] x1 p3] X.env = (false, eval e X.env) :: starEach [.Tuple [.Name "tuple" p1, .Name "list" p2] x1 p3] X.env := by rfl)
    (he2 : starEach [.Tuple [.Name "tuple" p1, .Name "list" p2] x1 p3] X.env = (false, eval (.Tuple [.Name "tuple" p1, .Name "list" p2] x1 p3) X.env) :: starEach [] X.env := by rfl)
    (he3 : starEach [.Name "tuple" p1, .Name "list" p2] X.env = (false, eval (.Name "tuple" p1) X.env) :: starEach [.Name "list" p2] X.env := by rfl) (he4 : starEach [.Name "list" p2] X.env = (false, eval (.Name "list" p2) X.env) :: starEach [] X.env := by rfl)
    (hpl : (backTo pos (starEach [.Tuple [.Name "tuple" p1, .Name "list" p2] x1 p3] X.env)).any (·.1) = false := by rfl) : Ev X W (.Call (.Name "isinstance" p) [e, .Tuple [.Name "tuple" p1, .Name "list" p2] x1 p3] [] pos) ρ R := by
  refine ⟨fun σ H B Q L k => (pe_callB call_isiT hg hm boot_isinstance (pa_cons pe_w (pa_cons (pe_tup (pa_cons (pe_bltn hgt h2 boot_tuple (v := .ty "tuple") rfl) (pa_cons (pe_bltn hgl h1 boot_list (v := .ty "list") rfl) pa_nil he4) he3)) pa_nil he2) he) (by decide) (by decide) he hpl).toZ ?_⟩
  refine h.run σ H B _ L fun v H1 B1 d s1 L1 D1 h2 => ?_
  refine ⟨by show 2 ≤ sizeLine; decide, fun t ht => ?_⟩
  obtain ⟨s, L'⟩ := L1.fresh ht (.tup [.ty "tuple", .ty "list"])
  exact ⟨v, t, _, _, [.type "tuple", .type "list"], isLT d, rfl, upd_same, .cons (.ty _) (.cons (.ty _) .nil), tyX_of L'.gr.sub (dpMono s _ _ D1), isTL_kit d, k _ _ _ _ (s1.trans s) L' (.bl _) h2⟩
end
/-- len(z) of a text -/
theorem ev_lenS {X : Cx} {W : Wd} {ρ : List Sl} {pos : Pos} {e : Expr} {p : Pos} {R : PyData → Prop} (hm : X.mg "len" = none) (h : Ev X W e ρ fun d => match d with | .str z => z.length ≤ sizeLine ∧ R (.int (z.length : Int)) | _ => False) (hg : Gl X "len" := by rfl)
    (he : starEach [e] X.env = (false, eval e X.env) :: starEach [] X.env := by rfl) (hpl : (backTo pos (starEach [] X.env)).any (·.1) = false := by rfl) : Ev X W (.Call (.Name "len" p) [e] [] pos) ρ R := by
  refine ⟨fun σ H B Q L k => (pe_callB call_len_str hg hm PySem.boot_len (pa_cons pe_w pa_nil he) (by decide) (by decide) he hpl).toZ ?_⟩
  refine h.run σ H B _ L fun v H1 B1 d s1 L1 D1 h2 => ?_
  cases d <;> first | exact h2.elim | skip
  rename_i z
  cases dp_str D1
  exact ⟨z, rfl, h2.1, k _ H1 B1 _ s1 L1 (.int _) h2.2⟩
/-- a + b of two lists, a fresh one -/
theorem el_add {X : Cx} {W : Wd} {ρ : List Sl} {pos : Pos} {a b : Expr} {R : List PyData → Prop} (h : Ev X W a ρ fun d => Ev X W b ρ fun d' => match d, d' with | .list xs, .list ys => xs.length + ys.length ≤ sizeLine ∧ R (xs ++ ys) | _, _ => False) : El X W (.BinOp a .Add b pos) ρ R := by
  refine ⟨fun σ H B Q L k => (pe_op op_cat pe_w pe_w).toZ ?_⟩
  refine h.run σ H B _ L fun v H1 B1 d s1 L1 D1 h2 => ?_
  refine h2.run σ H1 B1 _ L1 fun u H2 B2 d' s2 L2 D2 h3 => ?_
  cases d <;> first | exact h3.elim | skip
  cases d' <;> first | exact h3.elim | skip
  rename_i xs ys
  obtain ⟨p, vs, rfl, g1, g2⟩ := dp_list D1
  obtain ⟨q, us, rfl, g3, g4⟩ := dp_list D2
  have g2' := dpAllMono s2 _ _ g2
  refine ⟨p, q, vs, us, rfl, rfl, L2.gr.sub _ _ (s2 _ _ g1), L2.gr.sub _ _ g3, by rw [dpAll_len g2, dpAll_len g4]; exact h3.1, fun t ht => ?_⟩
  obtain ⟨L', q1, q2, q3, q4⟩ := fresh_own L2 ht (xs ++ ys) (vs ++ us) (dpAll_app g2' g4)
  exact k t _ _ B2 _ (s1.trans s2) L' q1 q2 q3 q4 (dpAll_app g2' g4) h3.2
/-! ### tuples backwards -/
theorem sliceApplied_rev {prog : Program} {w : World} {A : Around} {E : Value → Shared → Prop} {s : Shared} {sl : Addr} {vs : Value} {n : Nat} {Q : Int × Int × Nat → Shared → Prop} (hs : s.heap.IsSliceOf sl .none .none vs) (ps : IsPart vs (some (-1)))
    (h : Q ((n : Int) - 1, -1, n) s) : wpAny (model prog w) A (Builtin.Slice.sliceApplied (.ref sl) (pure (n : Int))) Q E s := by
  obtain ⟨os, hos, hcs, hds⟩ := id hs
  unfold Builtin.Slice.sliceApplied Builtin.Slice.sliceFields
  refine wpAny_bind (wpAny_bind (wpAny_field hos hds (x := .none) rfl (wpAny_bind (wpAny_field hos hds (x := .none) rfl (wpAny_bind (wpAny_field hos hds (x := vs) rfl (wpAny_pure ?_)))))))
  refine wpAny_bind (HT.slicePart_ ps ?_)
  show wpAny _ _ (if ((-1 : Int) == 0) = true then _ else _) _ _ s
  rw [if_neg (by decide)]
  refine wpAny_bind (HT.slicePart_ .none (wpAny_bind (HT.slicePart_ .none (wpAny_bind (wpAny_pure ?_)))))
  have e1 : Builtin.Slice.sliceAdjust none none (-1) (n : Int) = ((n : Int) - 1, -1) := by
    unfold Builtin.Slice.sliceAdjust
    simp
  have e2 : Builtin.Slice.slicePlaces ((n : Int) - 1) (-1) (-1) = n := by
    unfold Builtin.Slice.slicePlaces
    simp
    omega
  show wpAny _ _ (match Builtin.Slice.sliceAdjust none none (-1) (n : Int) with | (lo, hi) => pure (lo, (-1 : Int), Builtin.Slice.slicePlaces lo hi (-1))) _ _ s
  rw [e1]
  show wpAny _ _ (pure ((n : Int) - 1, (-1 : Int), Builtin.Slice.slicePlaces ((n : Int) - 1) (-1) (-1))) _ _ s
  rw [e2]
  exact wpAny_pure h
theorem pick_rev (xs : Array Value) : ((List.range xs.size).filterMap fun (m : Nat) => xs[(((xs.size : Int) - 1) + (m : Int) * (-1)).toNat]?).toArray = xs.toList.reverse.toArray := by
  have e : (fun (m : Nat) => xs[(((xs.size : Int) - 1) + (m : Int) * (-1)).toNat]?) = fun m => xs[xs.size - 1 - m]? := by
    funext m
    have : (((xs.size : Int) - 1) + (m : Int) * (-1)).toNat = xs.size - 1 - m := by omega
    rw [this]
  rw [e]
  have h := PySem.W.krv_all xs
  have h2 : (List.range xs.size).filterMap (fun m => xs[xs.size - 1 - m]?) = ((List.range xs.size).map (fun k => xs.size - 1 - k)).filterMap (xs[·]?) := by
    rw [List.filterMap_map]
    rfl
  rw [h2, PySem.W.krv_range, List.filterMap_reverse, h]
theorem getItem_tuple_rev {prog : Program} {w : World} {A : Around} {E : Value → Shared → Prop} {s : Shared} {t sl : Addr} {items : Array Value} {vs : Value} {Q : Value → Shared → Prop} (ht : IsTup s.heap t items) (hs : s.heap.IsSliceOf sl .none .none vs) (ps : IsPart vs (some (-1)))
    (h : Q (.ref s.heap.objs.size) { s with heap := s.heap.push { cls := .type "tuple", data := .seq items.toList.reverse.toArray } }) (hsz : items.size ≤ sizeLine) : wpAny (model prog w) A (getItem (.ref t) (.ref sl)) Q E s := by
  have htake : sizeOk (.seq items.toList.reverse.toArray) := by
    show items.toList.reverse.toArray.size ≤ sizeLine
    rw [List.size_toArray, List.length_reverse, Array.length_toList]
    exact hsz
  obtain ⟨os, hos, hcs, hds⟩ := id hs
  have hTs : s.TypeIs (.ref sl) "slice" := ⟨os, hos, hcs⟩
  unfold getItem
  try with_reducible refine wpAny_holding ?_
  first | refine wpAny_bind (wpAny_pure ?_) | skip
  refine wpAny_bind (wpAny_sequenceKey ht.typeIs (by decide) ?_)
  refine wpAny_bind (wpAny_callSpecial?_slot (name := Str.ofString "__getitem__") ht.typeIs PyProof.Rows.slot_tuple_getitem
    (wpAny_call_entry PyProof.Rows.slot_tuple_getitem ht.typeIs entry_tuple_getitem ?_ (args_tuple_getitem _ _)))
  show wpAny _ _ (Builtin.Tuple.tupleItemsOf (.ref t) >>= _) _ _ s
  refine wpAny_bind (tupleItemsOf_ ht ?_)
  refine wpAny_bind (wpAny_typeOf hTs ?_)
  rw [if_pos (by decide)]
  refine wpAny_bind (sliceApplied_rev hs ps ?_)
  have hno : ¬ ((((items.size : Int) - 1) == 0 && (-1 : Int) == 1 && items.size == items.size) = true) := by
    intro q
    rw [Bool.and_eq_true, Bool.and_eq_true] at q
    exact absurd q.1.2 (by decide)
  show wpAny _ _ (if (((items.size : Int) - 1) == 0 && (-1 : Int) == 1 && items.size == items.size) = true then _ else _) _ _ s
  rw [if_neg hno, pick_rev]
  first
    | exact wpAny_bind (m := Builtin.Tuple.tupleExact _) (wpAny_newObj_type (wpAny_pure ⟨_, rfl, wpAny_pure h⟩) htake)
    | exact wpAny_bind (m := Builtin.Tuple.tupleExact _) (wpAny_newObj_type (wpAny_bind (wpAny_pure (wpAny_pure ⟨_, rfl, wpAny_pure h⟩))) htake)
    | exact wpAny_bind (wpAny_bind (m := Builtin.Tuple.tupleExact _) (wpAny_newObj_type (wpAny_pure (wpAny_pure ⟨_, rfl, wpAny_pure h⟩)) htake))
    | exact wpAny_bind (wpAny_bind (m := Builtin.Tuple.tupleExact _) (wpAny_newObj_type (wpAny_pure ⟨_, rfl, wpAny_pure h⟩) htake))
section
variable {X : Cx} {W : Wd} {ρ : List Sl} {D : Dz} {R : PyData → Prop} {pos : Pos} {a b c e : Expr} {es : List Expr}
/-- t[::-1] -/
def tRevT (K : PySem.W.Frag) (te : TE) : TE := fun σ H Q => te σ H fun x H1 => ∃ a xs, x = .ref a ∧ SqT K H1 a xs ∧ ∀ p, H1 p = none → Q (.ref p) (upd H1 p (.tup xs.reverse))
theorem pe_revT {te : TE} {k : Nat} {p1 p2 p3 : Pos} (he : PE X e te) : PE X (.Subscript e (.Slice none none (some (.UnaryOp .USub (.Constant (.int 1) k p1) p2)) p3) pos) (tRevT X.K te) := by
  refine ⟨fun pins s σ H Q I h => ?_⟩
  refine Subscript_ (thn (he.run pins s σ H _ I h) fun v s1 ⟨x, H1, I1, r1, q1⟩ => ?_)
  obtain ⟨a, xs, ex, hx, q⟩ := q1
  subst ex
  cases r1
  have hst : PO X (some (.UnaryOp .USub (.Constant (.int 1) k p1) p2)) (tPart (tUn (rU fun i => .int (-i)) (tC (.int 1)))) := po_some (pe_un un_neg pe_int)
  refine wpAny_Slice (thn (po_none.run pins s1 σ H1 (fun o H2 => o = none ∧ H2 = H1) I1 ⟨rfl, rfl⟩) fun vl s2 ⟨l, H2, I2, pl, el, e2⟩ => ?_)
  subst el e2
  refine thn (po_none.run pins s2 σ H2 (fun o H3 => o = none ∧ H3 = H2) I2 ⟨rfl, rfl⟩) fun vu s3 ⟨u, H3, I3, pu, eu, e3⟩ => ?_
  subst eu e3
  refine thn (hst.run pins s3 σ H3 (fun o H4 => o = some (-1) ∧ H4 = H3) I3 ⟨1, rfl, -1, rfl, rfl, rfl⟩) fun vs s4 ⟨o, H4, I4, ps, eo, e4⟩ => ?_
  subst eo e4
  have hvl : vl = .none := by cases pl; rfl
  have hvu : vu = .none := by cases pu; rfl
  subst hvl hvu
  have I5 : Inv X pins σ H4 { s4 with heap := s4.heap.push { cls := .type "slice", data := .fields #[.none, .none, vs] } } := I4.kept (t' := s4.toks) fun b ob q => Heap.get?_push_of_some _ q
  obtain ⟨its, r, ht, hz⟩ := I5.tuple hx
  show wpAny (model X.prog X.w) X.A (subscriptTail e (.Slice none none (some (.UnaryOp .USub (.Constant (.int 1) k p1) p2)) p3) (.ref a) (.ref s4.heap.objs.size)) (EP X pins σ Q) X.xe { s4 with heap := s4.heap.push { cls := .type "slice", data := .fields #[.none, .none, vs] } }
  refine tail_any (ops := [.ref a, .ref s4.heap.objs.size]) ht.typeIs (PyProof.Rows.slot_tuple_getitem.lookup) ?_ (by with_unfolding_all rfl)
  refine getItem_tuple_rev ht (Heap.IsSliceOf.new _ .none .none vs) ps ?_ (by rw [List.size_toArray, ← r.length]; exact hz)
  refine ⟨.ref _, _, I5.laid (t' := s4.toks) (o := .tup xs.reverse) (fun b ob q => Heap.get?_push_of_some _ q) (Nat.le_refl _) ?_, rfl, q _ (I5.hok.fresh (Nat.le_refl _))⟩
  exact ⟨by rw [List.length_reverse]; exact hz, _, r.reverse, IsTup.new _ _⟩
theorem ev_revT {p1 p2 p3 : Pos} {kk : Nat} (h : Ev X W e ρ fun d => match d with | .tuple ds => R (.tuple ds.reverse) | _ => False) : Ev X W (.Subscript e (.Slice none none (some (.UnaryOp .USub (.Constant (.int 1) kk p1) p2)) p3) pos) ρ R := by
  refine ⟨fun σ H B Q L k => (pe_revT pe_w).toZ ?_⟩
  refine h.run σ H B _ L fun v H1 B1 d s1 L1 D1 h2 => ?_
  cases d <;> first | exact h2.elim | skip
  rename_i ds
  obtain ⟨q, vs, rfl, h5, h6⟩ := dp_tup D1
  refine ⟨q, vs, rfl, seqT L1.gr.sub h5, fun p hp => ?_⟩
  obtain ⟨s, L'⟩ := L1.fresh hp (.tup vs.reverse)
  exact k _ _ _ _ (s1.trans s) L' (.tup (SqT.of upd_same) (dpAllMono s _ _ (dpAll_rev h6))) h2
/-- list(range(n)) -/
theorem rgV_dq {K : PySem.W.Frag} {B : Hp} (i j : Int) : DqAll K B (rgV i j) (rngD i (j - i).toNat) := by
  have e1 : rgV i j = ((List.range (j - i).toNat).map fun k => i + ((k : Nat) : Int)).map V.int := by unfold rgV; rw [List.map_map]; rfl
  have e2 : rngD i (j - i).toNat = ((List.range (j - i).toNat).map fun k => i + ((k : Nat) : Int)).map PyData.int := by unfold rngD; rw [List.map_map]; rfl
  rw [e1, e2]
  exact ints_dq _
theorem el_listR1 {p p2 q : Pos} {R : List PyData → Prop} (hc : X.calm = true) (hm : X.mg "list" = none) (hm2 : X.mg "range" = none)
    (h : Ev X W a ρ fun d => match d with | .int n => (0 ≤ n ∧ n ≤ 1000000) ∧ R (rngD 0 n.toNat) | _ => False) (hg : Gl X "list" := by rfl) (hg2 : Gl X "range" := by rfl)
    (na : starEach [a] X.env = (false, eval a X.env) :: starEach [] X.env := by rfl)
    (n2 : (starEach [.Call (.Name "range" p2) [a] [] q] X.env) = (false, eval (.Call (.Name "range" p2) [a] [] q) X.env) :: starEach [] X.env := by rfl) :
    El X W (.Call (.Name "list" p) [.Call (.Name "range" p2) [a] [] q] [] pos) ρ R := by
  refine ⟨fun σ H B Q L k => (pe_listRg hc hg hm (prg_1 hg2 hm2 pe_w na) n2).toZ ?_⟩
  refine h.run σ H B _ L fun v H1 B1 d s1 L1 D1 h2 => ?_
  cases d <;> first | exact h2.elim | skip
  rename_i n
  cases dp_int D1
  obtain ⟨⟨n0, n1⟩, h3⟩ := h2
  refine ⟨n, rfl, ⟨by decide, by decide, by omega, by omega, by omega⟩, fun p hp => ?_⟩
  have hd : DqAll X.K B1 (rgV 0 n) (rngD 0 n.toNat) := by
    have := rgV_dq (K := X.K) (B := B1) 0 n
    rw [Int.sub_zero] at this
    exact this
  obtain ⟨L', q1, q2, q3, q4⟩ := fresh_own L1 hp (rngD 0 n.toNat) (rgV 0 n) hd
  exact k p _ _ B1 _ s1 L' q1 q2 q3 q4 hd h3
/-- sorted(xs), xs a list of ints -/
theorem el_sorted {p : Pos} {R : List PyData → Prop} (hm : X.mg "sorted" = none) (h : Ev X W a ρ fun d => ∃ ns : List Int, d = .list (ns.map PyData.int) ∧ ∀ ms : List Int, ms.Perm ns → ms.Pairwise (· ≤ ·) → R (ms.map PyData.int)) (hg : Gl X "sorted" := by rfl)
    (he : starEach [a] X.env = (false, eval a X.env) :: starEach [] X.env := by rfl) (hpl : (backTo pos (starEach [] X.env)).any (·.1) = false := by rfl) : El X W (.Call (.Name "sorted" p) [a] [] pos) ρ R := by
  refine ⟨fun σ H B Q L k => (pe_callB cr_sortedI hg hm boot_sorted (pa_cons pe_w pa_nil he) (by decide) (by decide) he hpl).toZ ?_⟩
  refine h.run σ H B _ L fun v H1 B1 d s1 L1 D1 h2 => ?_
  obtain ⟨ns, rfl, h3⟩ := h2
  obtain ⟨q, vs, rfl, h5, h6⟩ := dp_list D1
  cases dq_ints h6
  refine ⟨q, ns, rfl, SqL.of (L1.gr.sub _ _ h5), fun ms t h7 h8 ht => ?_⟩
  obtain ⟨L', q1, q2, q3, q4⟩ := fresh_own L1 ht (ms.map PyData.int) (ms.map V.int) (ints_dq ms)
  exact k t _ _ B1 _ s1 L' q1 q2 q3 q4 (ints_dq ms) (h3 ms h7 h8)
end
/-! ### x.extend(t), t a tuple -/
open AutoSeq1 in
theorem list_extend_tup (l : Addr) (items : Array Value) (n : Nat) (b : Addr) (items2 : Array Value) (n2 : Nat) (dd : Option Addr) (sl : Array (Option Value)) (hs0 : ¬(!items.isEmpty && Builtin.List.listTooLong (items.size + items2.size)) = true) (hs1 : items.size ≤ sizeLine) (hs2 : items.size + items2.size ≤ sizeLine + 1) :
    Meets (Builtin.«list.extend» ⟨[.ref l, .ref b], []⟩) (fun _ R s => s.heap.get? l = some { cls := .type "list", dict := none, data := .seq items n, slots := #[] } ∧ s.heap.get? b = some { cls := .type "tuple", dict := dd, data := .seq items2 n2, slots := sl } ∧ R (.ok (.ret Value.none)) { s with heap := s.heap.update l (Obj.mapSeq fun x => x ++ items2), toks := s.toks }) :=
  .of_wp fun prog w A R s h => by
    obtain ⟨hp, g, d, tk, os⟩ := s
    obtain ⟨hl, hb, h⟩ := h
    have f1 := idx_int
    have f2 := F.sub_tuple_tuple
    have f3 := F.sub_list_list
    have f4 := F.sub_tuple_list
    have f5 := F.sub_list_tuple
    have hz' : (items ++ items2).size ≤ sizeLine + 1 := by rw [Array.size_append]; exact hs2
    wp_walk using (wpAny_updateSeq hl rfl (hz := hs1) (_hz' := hz')), wpAny_loadPart' hl, wpAny_loadPart' hb
    exact ⟨_, rfl, h⟩
def rExtendT (K : PySem.W.Frag) : V → List V → Hp → VK → Prop := fun x vs H Q => ∃ l b xs zs, x = .ref l ∧ vs = [.ref b] ∧ H l = some (.lst xs) ∧ SqT K H b zs ∧ xs.length + zs.length ≤ sizeLine ∧ Q .non (upd H l (.lst (xs ++ zs)))
theorem mt_extendT {X : Cx} : MtM X "list.extend" (rExtendT X.K) := by
  intro pins s σ H x vs v us Q I rx rv h
  obtain ⟨l, b, xs, zs, rfl, rfl, hH, hB, hz, q⟩ := h
  cases rx
  obtain ⟨u, rfl, ru⟩ := rv.one
  cases ru
  obtain ⟨z, its, n, r, hl, e⟩ := I.lstM hH
  obtain ⟨its2, r2, ⟨⟨ocls, dd, odata, sl⟩, ho, hc, n2, hd⟩, _⟩ := I.tuple hB
  simp only at hc hd
  subst hc hd
  have hl2 := r2.length
  have hsz : its.toArray.size + its2.toArray.size ≤ sizeLine := by rw [List.size_toArray, List.size_toArray]; omega
  have hlong : ¬ (!its.toArray.isEmpty && Builtin.List.listTooLong (its.toArray.size + its2.toArray.size)) = true := by
    rw [notLongL hsz, Bool.and_false]
    exact Bool.false_ne_true
  refine call_meets F.slot_list_extend ⟨_, e, rfl⟩ F.entry_list_extend (F.args_list_extend_2 _ _)
    (list_extend_tup l its.toArray n b its2.toArray n2 dd sl hlong (by rw [List.size_toArray]; omega) (by omega)) ⟨e, ho, ?_⟩
  refine ⟨.non, _, I.lset (its' := its ++ its2) hH e (by simp) (r.append r2) ?_, rfl, q⟩
  rw [List.length_append]
  omega
theorem es_extendT {X : Cx} {W : Wd} {ρ : List Sl} {D : Dz} {pos : Pos} {e : Expr} (i : Nat) {x : Str} {px pa cp : Pos} {ds : List PyData} (hρ : ρ[i]? = some (.own ds)) (h : Ev X W e ρ fun d => match d with | .tuple ys => ds.length + ys.length ≤ sizeLine ∧ D.nx (ρ.set i (.own (ds ++ ys))) | _ => False) (hN : X.N[i]? = some x := by rfl) (hv : Vis X.env.scope x := by first | exact Or.inl rfl | exact Or.inr (Or.inl rfl) | exact Or.inr (Or.inr rfl))
    (hs : swapsWith (.Call (.Attribute (.Name x px) "extend" pa) [e] [] cp) none pos.line X.env = pure false := by rfl) (hd : (x == ("__debug__" : Str)) = false := by decide) (hcd : (x == ("__classdict__" : Str)) = false := by decide)
    (hbase : attributeBase (.Name x px) "extend" X.env (eval (.Name x px) X.env) = eval (.Name x px) X.env := by rfl)
    (hfew : ((backTo cp (starEach [e] X.env)).all (fun x => !x.1) && (backToKw cp (keywordEach [] X.env)).all (fun x => x.1.isSome) && decide (([e] : List Expr).length + ([] : List Keyword).length + (if ([] : List Keyword).isEmpty then 0 else 1) < 30)) = true := by rfl)
    (hline : (pa.endLine == cp.line) = true := by rfl) (hse : starEach [e] X.env = (false, eval e X.env) :: starEach [] X.env := by rfl) (hpl : (backTo cp (starEach [] X.env)).any (·.1) = false := by rfl) :
    Es X W (.Expr (.Call (.Attribute (.Name x px) "extend" pa) [e] [] cp) pos) ρ D := by
  refine ⟨fun σ H B L => (ps_expr (pe_bm PySem.F.plainAttrs_list PySem.F.slot_list_extend PySem.F.type_list_extend mt_extendT (pe_var hN hv hd hcd) (pa_cons pe_w pa_nil hse) hbase hfew hline hse hpl) hs).toZ ?_⟩
  obtain ⟨p, vs, e1, e2, e3, e4, e5⟩ := L.at' i _ hρ
  refine ⟨.ref p, e1, .inl ⟨rfl, vs, SqL.of e4⟩, ?_⟩
  refine h.run σ H B _ L fun v H2 B2 d s2 L2 D2 h3 => ?_
  cases d <;> first | exact h3.elim | skip
  rename_i ys
  obtain ⟨p', vs', f1, f2, f3, f4, f5⟩ := L2.at' i _ hρ
  rw [e1] at f1
  cases f1
  obtain ⟨q, us, rfl, g1, g2⟩ := dp_tup D2
  exact ⟨p, q, vs', us, rfl, rfl, f4, seqT L2.gr.sub g1, by rw [dpAll_len f5, dpAll_len g2]; exact h3.1, B2, _, s2, L2.chg hρ e1 (dpAll_app f5 g2), h3.2⟩
/-- x + b of an own list and another, a fresh one -/
theorem el_addOwn {X : Cx} {W : Wd} {ρ : List Sl} {pos : Pos} {b : Expr} (i : Nat) {x : Str} {px : Pos} {ds : List PyData} {R : List PyData → Prop} (hρ : ρ[i]? = some (.own ds)) (h : Ev X W b ρ fun d' => match d' with | .list ys => ds.length + ys.length ≤ sizeLine ∧ R (ds ++ ys) | _ => False) (hN : X.N[i]? = some x := by rfl) (hv : Vis X.env.scope x := by first | exact Or.inl rfl | exact Or.inr (Or.inl rfl) | exact Or.inr (Or.inr rfl))
    (hd : (x == ("__debug__" : Str)) = false := by decide) (hcd : (x == ("__classdict__" : Str)) = false := by decide) : El X W (.BinOp (.Name x px) .Add b pos) ρ R := by
  refine ⟨fun σ H B Q L k => (pe_op op_cat (pe_var hN hv hd hcd) pe_w).toZ ?_⟩
  obtain ⟨p, vs, e1, e2, e3, e4, e5⟩ := L.at' i _ hρ
  refine ⟨.ref p, e1, ?_⟩
  refine h.run σ H B _ L fun u H2 B2 d' s2 L2 D2 h3 => ?_
  cases d' <;> first | exact h3.elim | skip
  rename_i ys
  obtain ⟨p', vs', f1, f2, f3, f4, f5⟩ := L2.at' i _ hρ
  rw [e1] at f1
  cases f1
  obtain ⟨q, us, rfl, g3, g4⟩ := dp_list D2
  refine ⟨p, q, vs', us, rfl, rfl, f4, L2.gr.sub _ _ g3, by rw [dpAll_len f5, dpAll_len g4]; exact h3.1, fun t ht => ?_⟩
  obtain ⟨L', q1, q2, q3, q4⟩ := fresh_own L2 ht (ds ++ ys) (vs' ++ us) (dpAll_app f5 g4)
  exact k t _ _ B2 _ s2 L' q1 q2 q3 q4 (dpAll_app f5 g4) h3.2
end
section
variable {X : Cx} {W : Wd} {ρ : List Sl} {tg e : Expr}
/-! ### for x in xs, xs a list or a tuple -/
def iSeq (K : PySem.W.Frag) (tl : TE) : TI := fun σ H R => tl σ H fun x H1 => ∃ a, x = V.ref a ∧ (((∃ xs, SqL K H1 a xs) ∧ R (Itl K a) H1) ∨ ((∃ xs, SqT K H1 a xs) ∧ R (Itt K a) H1))
theorem pi_seq {tl : TE} (hl : PE X e tl) : PI X tg e (iSeq X.K tl) := by
  refine ⟨fun pins s σ H R I h => ?_⟩
  refine thn (hl.run pins s σ H _ I h) fun v s1 ⟨x, H1, I1, r1, q1⟩ => ?_
  obtain ⟨a, e, hh⟩ := q1
  subst e
  cases r1
  rcases hh with ⟨⟨xs, hq⟩, q⟩ | ⟨⟨xs, hq⟩, q⟩
  · obtain ⟨its, rv, p, hz⟩ := I1.list hq
    refine wpAny_pyIter_list p.isList ?_
    refine ⟨s1.heap.objs.size, [s1.heap.objs.size], _, _, H1, rfl, I1.kept (t' := s1.toks) fun b o e => Heap.get?_push_of_some _ e, turn_list a _, ⟨_, Heap.get?_push_size _ rfl, rfl, rfl⟩, fun b hb => ?_, q⟩
    have e : b = s1.heap.objs.size := by simpa using hb
    subst e
    exact I1.fpOk (Nat.le_refl _) (I1.hok.fresh (Nat.le_refl _))
  · obtain ⟨its, rv, p, hz⟩ := I1.tuple hq
    refine wpAny_pyIter_tuple (show s1.heap.IsTuple a its.toArray from p) ?_
    refine ⟨s1.heap.objs.size, [s1.heap.objs.size], _, _, H1, rfl, I1.kept (t' := s1.toks) fun b o e => Heap.get?_push_of_some _ e, turn_tuple a _, ⟨_, Heap.get?_push_size _ rfl, rfl, rfl⟩, fun b hb => ?_, q⟩
    have e : b = s1.heap.objs.size := by simpa using hb
    subst e
    exact I1.fpOk (Nat.le_refl _) (I1.hok.fresh (Nat.le_refl _))
theorem ei_seq {R : List PyData → Prop} (h : Ev X W e ρ fun d => ∃ ds, (d = .tuple ds ∨ d = .list ds) ∧ R ds) : Ei X W tg e ρ R := by
  refine ⟨fun σ H B Q L k => (pi_seq pe_w).toZ ?_⟩
  refine h.run σ H B _ L fun v H1 B1 d s1 L1 D1 h2 => ?_
  obtain ⟨ds, h2, h5⟩ := h2
  rcases h2 with rfl | rfl
  · obtain ⟨p, vs, rfl, h3, h4⟩ := dp_tup D1
    exact ⟨p, rfl, .inr ⟨⟨vs, seqT L1.gr.sub h3⟩, k _ H1 B1 _ s1 L1 (walk_tup h3 h4) h5⟩⟩
  · obtain ⟨p, vs, rfl, h3, h4⟩ := dp_list D1
    exact ⟨p, rfl, .inl ⟨⟨vs, SqL.of (L1.gr.sub _ _ h3)⟩, k _ H1 B1 _ s1 L1 (walk_list h3 h4) h5⟩⟩
end
end Z

namespace Z
open PySem PySem.Spec PyProof.Rows L2 GenW
section
variable {M : Model} {A : Around} {R : GenEnd} {Y : Protocol} {n : Nat} {s₀ : Shared} {c : Code} {fs : List Frame} {s : Shared} {env : Env}
  {K : Flow → Sem PySem.Fin} {H : Value → Sem PySem.Fin} {gd : Bool → Bool} {lv : List Value → List Value}
/-- if, in a generator's body -/
theorem seg_If {test : Expr} {body orelse : List Stmt} {pos : Pos}
    (h : wpAny M (A.over c fs) (isTrue test env (eval test env)) (fun b s' => if b = true then Seg M A R Y n s₀ c ((execs body env).wrap K H gd lv) fs s' else Seg M A R Y n s₀ c ((execs orelse env).wrap K H gd lv) fs s')
      (fun x s' => Seg M A R Y n s₀ c (H x) fs s') s) : Seg M A R Y n s₀ c ((exec (.If test body orelse pos) env).wrap K H gd lv) fs s := by
  refine seg_at ?_
  show Seg M A R Y n s₀ c ((isTrue test env (eval test env) >>= fun b => if b = true then execs body env else execs orelse env).wrap K H gd lv) fs s
  rw [Sem.bind_eq_wrap', Sem.wrap_wrap]
  refine seg_wrap (wpAny_mono h (fun b s' hb => ?_) fun _ _ x => x)
  cases b with
  | true =>
    rw [if_pos rfl] at hb
    exact hb
  | false =>
    rw [if_neg Bool.false_ne_true] at hb
    exact hb
/-- for, in a generator's body -/
theorem seg_For {target iter : Expr} {body orelse : List Stmt} {pos : Pos} (hs : ∀ x, foldedSetIterable iter env x = pure x)
    (h : wpAny M (A.over c fs) (eval iter env) (fun x s1 => wpAny M (A.over c fs) (pyIter x) (fun it s2 => ∀ p, Seg M A R Y n s₀ (.forLoop target it body orelse env) (M.den (.forLoop target it body orelse env))
      (.ret (fun r => ((match r with | .ok f => (.pure f : Sem Flow) | .error e => .raise e).onRaise (cameBack env)).wrap K H gd lv) none (gd false) (lv []) c p [] :: fs) s2) (fun x s' => Seg M A R Y n s₀ c (H x) fs s') s1) (fun x s' => Seg M A R Y n s₀ c (H x) fs s') s) :
    Seg M A R Y n s₀ c ((exec (.For target iter body orelse pos) env).wrap K H gd lv) fs s := by
  refine seg_at ?_
  have e : (do
      let x ← foldedSetIterable iter env (← eval iter env)
      standAt iter.pos
      runOwn (.forLoop target (← holding [x] (pyIter x)) body orelse env) env : Sem Flow) =
      ((do
        let x ← foldedSetIterable iter env (← eval iter env)
        standAt iter.pos
        holding [x] (pyIter x)) >>= fun it => runOwn (.forLoop target it body orelse env) env) := by
    simp only [bind_assoc]
  show Seg M A R Y n s₀ c ((do
      let x ← foldedSetIterable iter env (← eval iter env)
      standAt iter.pos
      runOwn (.forLoop target (← holding [x] (pyIter x)) body orelse env) env : Sem Flow).wrap K H gd lv) fs s
  rw [e, Sem.bind_eq_wrap', Sem.wrap_wrap]
  refine seg_wrap ?_
  refine wpAny_bind (wpAny_mono h (fun x s1 h1 => ?_) fun _ _ x => x)
  refine wpAny_bind (wpAny_of_eq (hs x) (wpAny_bind (wpAny_standAt (wpAny_holding (wpAny_mono h1 (fun it s2 h2 => ?_) fun _ _ x => x)))))
  exact seg_call h2
end
section
variable {prog : Program} {w : World} {A : Around} {R : GenEnd} {Y : Protocol} {n : Nat} {s₀ : Shared} {fs : List Frame} {s : Shared} {env : Env}
theorem noted_wrap (e : Value) : ((do noteFrame e env; theTreesLotGoes e : Sem Unit).bind fun _ => (Sem.raise e : Sem PySem.Fin)) = (do noteFrame e env; theTreesLotGoes e : Sem Unit).wrap (fun _ => .raise e) .raise id id := Sem.bind_eq_wrap _ _
theorem seg_forLoop {target : Expr} {it : Value} {body : List Stmt}
    (h : wpAny (model prog w) (A.over (.forLoop target it body [] env) fs) (pyNext it) (fun r s1 => match r with
        | none => Seg (model prog w) A R Y n s₀ (.block [] env) ((model prog w).den (.block [] env)) fs s1
        | some v => wpAny (model prog w) (A.over (.forLoop target it body [] env) fs) (letOwnedTupleGo target it v) (fun _ s2 => wpAny (model prog w) (A.over (.forLoop target it body [] env) fs) (assign target env v) (fun _ s3 =>
            Seg (model prog w) A R Y n s₀ (.forLoop target it body [] env) ((execs body env).wrap (fun f => match f with
              | .next | .cont => .pure (.again (.forLoop target it body [] env))
              | .brk => .pure (.done .next)
              | .ret v => .pure (.done (.ret v))) (fun e => (do noteFrame e env; theTreesLotGoes e : Sem Unit).wrap (fun _ => .raise e) .raise id id) id id) fs s3)
            (fun x s' => Seg (model prog w) A R Y n s₀ (.forLoop target it body [] env) ((do noteFrame x env; theTreesLotGoes x : Sem Unit).wrap (fun _ => .raise x) .raise id id) fs s') s2)
            (fun x s' => Seg (model prog w) A R Y n s₀ (.forLoop target it body [] env) ((do noteFrame x env; theTreesLotGoes x : Sem Unit).wrap (fun _ => .raise x) .raise id id) fs s') s1)
      (fun x s' => Seg (model prog w) A R Y n s₀ (.forLoop target it body [] env) ((do noteFrame x env; theTreesLotGoes x : Sem Unit).wrap (fun _ => .raise x) .raise id id) fs s') s) :
    Seg (model prog w) A R Y n s₀ (.forLoop target it body [] env) ((model prog w).den (.forLoop target it body [] env)) fs s := by
  show Seg _ A R Y n s₀ _ ((forTurn target it body [] env).onRaise (fun x => do noteFrame x env; theTreesLotGoes x)) fs s
  unfold forTurn
  rw [Sem.onRaise_eq_wrap, Sem.bind_eq_wrap', Sem.wrap_wrap]
  refine seg_wrap (wpAny_standAt ?_)
  dsimp only
  rw [Sem.bind_eq_wrap', Sem.wrap_wrap]
  refine seg_wrap (wpAny_onRaise (wpAny_mono h (fun r s1 h1 => ?_) fun x s' hx => wpAny_standAt ?_))
  · cases r with
    | none =>
      dsimp only
      exact seg_again rfl h1
    | some v =>
      dsimp only
      rw [Sem.bind_eq_wrap', Sem.wrap_wrap]
      refine seg_wrap (wpAny_mono h1 (fun _ s2 h2 => ?_) fun x s' hx => ?_)
      · try dsimp only
        rw [Sem.bind_eq_wrap', Sem.wrap_wrap]
        refine seg_wrap (wpAny_mono h2 (fun _ s3 h3 => ?_) fun x s' hx => ?_)
        · try dsimp only
          rw [Sem.bind_eq_wrap', Sem.wrap_wrap]
          rw [Sem.wrap_congr (execs body env) _ _ (K' := fun f => match f with
            | .next | .cont => .pure (.again (.forLoop target it body [] env))
            | .brk => .pure (.done .next)
            | .ret v => .pure (.done (.ret v))) (H' := (fun e => (do noteFrame e env; theTreesLotGoes e : Sem Unit).wrap (fun _ => .raise e) .raise id id))
            (fun f => by cases f <;> rfl)
            (fun e => by first | exact Sem.bind_eq_wrap _ _ | exact noted_wrap e)]
          exact h3
        · first | (rw [← noted_wrap] at hx; exact hx) | exact hx
      · first | (rw [← noted_wrap] at hx; exact hx) | exact hx
  · first | (rw [← noted_wrap] at hx; exact hx) | exact hx
end
section
variable {X : Cx}
/-! ### if, for -/
def tGIf (c : TT) (t u : TGn) : TGn := fun D ys σ H => c σ H fun b H1 => if b = true then t D ys σ H1 else u D ys σ H1
theorem gs_if {test : Expr} {body orelse : List Stmt} {pos : Pos} {tc : TT} {tb te : TGn} (hc : PT X test tc) (hb : GSs X body tb) (he : GSs X orelse te) : GS X (.If test body orelse pos) (tGIf tc tb te) := by
  refine ⟨fun A S ip R n ys s₀ c fs K J gd lv s σ H D g hn k hI ht => ?_⟩
  obtain ⟨acc, cc, r, I⟩ := hI
  refine seg_If ?_
  rw [g.over]
  refine wpAny_mono (hc.run _ s σ H _ I ht) (fun b s' hb' => ?_) fun x s' hx => k.exc n s₀ x s' hx
  obtain ⟨H2, I2, q2⟩ := hb'
  cases b with
  | true =>
    rw [if_pos rfl] at q2 ⊢
    exact hb.run A S ip R n ys s₀ c fs K J gd lv s' σ H2 D g hn k ⟨acc, cc, r, I2⟩ q2
  | false =>
    rw [if_neg Bool.false_ne_true] at q2 ⊢
    exact he.run A S ip R n ys s₀ c fs K J gd lv s' σ H2 D g hn k ⟨acc, cc, r, I2⟩ q2
def tGFor (wi : TI) (g : TG) (tb : TGn) : TGn := fun D ys σ H => wi σ H fun J H1 => ∃ W : Nat → Nat → List V → L2.St → Hp → Prop, (∃ m, W 0 m ys σ H1) ∧ ∀ i m ys σ H, W i m ys σ H →
  (J.stop i H ∧ D.nx ys σ H) ∨ (J.go i H ∧ ∃ N : List V → L2.St → Hp → Prop, (∀ ys' σ' H', N ys' σ' H' → ∃ m', m' < m ∧ W (i + 1) m' ys' σ' H') ∧ ∀ x H', J.yld i H x H' → g x σ H' fun σ2 H2 => tb { D with nx := N, ct := N, bk := D.nx } ys σ2 H2)
theorem gi_un {S : Addr} {ip pl : List (Addr × Obj)} {ys : List V} {σ : L2.St} {H : Hp} {s : Shared} (h : GI X S (ip ++ pl) ys σ H s) : GI X S ip ys σ H s := by
  obtain ⟨acc, c, r, I⟩ := h
  have e : (S, lstObj acc c) :: (ip ++ pl) = ((S, lstObj acc c) :: ip) ++ pl := rfl
  rw [e] at I
  exact ⟨acc, c, r, I.unpinned⟩
theorem gs_for {tg iter : Expr} {body : List Stmt} {pos : Pos} {wi : TI} {g : TG} {tb : TGn} (hp : PassesOwn (model X.prog X.w) X.A X.env X.xe) (hc : X.calm = true) (hi : PI X tg iter wi) (hg : PG X tg g) (hb : GSs X body tb)
    (hs : ∀ x, foldedSetIterable iter X.env x = pure x := by intro _; rfl) : GS X (.For tg iter body [] pos) (tGFor wi g tb) := by
  refine ⟨fun A S ip R n ys s₀ c fs K J gd lv s σ H D gc hn k hI ht => ?_⟩
  obtain ⟨acc, cc, r, I⟩ := hI
  refine seg_For hs ?_
  rw [gc.over]
  refine wpAny_mono (hi.run _ s σ H _ I ht) (fun v s1 h1 => wpAny_mono h1 (fun itv s2 h2 p => ?_) fun x s' hx => k.exc n s₀ x s' hx) fun x s' hx => k.exc n s₀ x s' hx
  obtain ⟨it, fp, tn, J', H2, e, I2, T, st2, f2, W, ⟨m0, w0⟩, turn⟩ := h2
  subst e
  have gl := fun (kk : Result → Sem PySem.Fin) => gc_loop (k := kk) (c' := .forLoop tg (.ref it) body [] X.env) (l := lv []) (kp := []) (p := p) gc rfl rfl
  have hfS : ∀ b ∈ fp, b ≠ S := fun b hb e => (f2 b hb).2.2.2.2.2 (S, lstObj acc cc) (List.mem_append_right _ List.mem_cons_self) e.symm
  have stat : ∀ {H' : Hp} {acc' : Array Value} {c' : Nat}, (∀ b ∈ fp, H' b = none) → ∀ b ∈ fp, FpOk X ((S, lstObj acc' c') :: ip) H' b := fun {H' acc' c'} hn b hb => by
    obtain ⟨q0, q1, q2, q3, q4, q5⟩ := f2 b hb
    refine ⟨hn b hb, q1, q2, q3, q4, fun p hp => ?_⟩
    rcases List.mem_append.mp hp with hp | hp
    · exact q5 p (List.mem_append_left _ hp)
    · rcases List.mem_cons.mp hp with hp | hp
      · rw [hp]
        exact fun z => hfS b hb z.symm
      · exact q5 p (List.mem_append_right _ (List.mem_cons_of_mem _ hp))
  have loop : ∀ (m i n : Nat) (ys : List V) (s₀ s : Shared) (σ : L2.St) (H : Hp), n + ys.length = sizeLine → W i m ys σ H → GI X S ip ys σ H s → tn i s.heap → (∀ b ∈ fp, H b = none) →
      Seg (model X.prog X.w) A R (GY X S) n s₀ (.forLoop tg (.ref it) body [] X.env) ((model X.prog X.w).den (.forLoop tg (.ref it) body [] X.env))
        (.ret (fun r => ((match r with | .ok f => (.pure f : Sem Flow) | .error e => .raise e).onRaise (cameBack X.env)).wrap K J gd lv) none (gd false) (lv []) c p [] :: fs) s := by
    intro m
    induction m using Nat.strongRecOn with
    | ind m ih =>
      intro i n ys s₀ s σ H hn w hI stn hfr
      have ee : ∀ (n : Nat) (s₀ : Shared) (x : Value) (s' : Shared), X.xe x s' → Seg (model X.prog X.w) A R (GY X S) n s₀ (.forLoop tg (.ref it) body [] X.env)
          ((do noteFrame x X.env; theTreesLotGoes x : Sem Unit).wrap (fun _ => .raise x) .raise id id)
          (.ret (fun r => ((match r with | .ok f => (.pure f : Sem Flow) | .error e => .raise e).onRaise (cameBack X.env)).wrap K J gd lv) none (gd false) (lv []) c p [] :: fs) s' := fun n s₀ x s' hx => by
        refine seg_wrap ?_
        rw [(gl _).over]
        refine wpAny_bind (wpAny_mono (hp x s' hx) (fun _ s'' hcb => wpAny_theTreesLotGoes ?_) fun y s'' hcb => ?_)
        · exact seg_leaf (.error x) (seg_cameBack gc k hcb)
        · exact seg_leaf (.error y) (seg_cameBack gc k hcb)
      refine seg_forLoop ?_
      rw [(gl _).over]
      obtain ⟨acc, cc, r, I⟩ := hI
      rcases turn i m ys σ H w with ⟨stop, qn⟩ | ⟨go, N, hN, step⟩
      · refine wpAny_mono (T.done X rfl rfl rfl hc i _ s σ H X.xe I (stat hfr) stn stop) (fun r' s4 hr => ?_) fun x s' hx => ee n s₀ x s' hx
        obtain ⟨hr, I4⟩ := hr
        subst hr
        exact seg_leaf (.ok .next) (k.ok n ys s₀ s4 .next hn ⟨σ, H, ⟨acc, cc, r, I4⟩, qn⟩)
      · refine wpAny_mono (T.item X rfl rfl rfl hc i _ s σ H X.xe I (stat hfr) stn go) (fun r' s4 hr => ?_) fun x s' hx => ee n s₀ x s' hx
        obtain ⟨u, hr, h4⟩ := hr
        subst hr
        refine wpAny_mono h4 (fun _ s5 h5 => ?_) fun x s' hx => ee n s₀ x s' hx
        obtain ⟨x, H5, I5, r5, y5, st5, fr5⟩ := h5
        have I5' := I5.pinned (stat fr5) (T.obj _ _ st5)
        refine wpAny_mono (hg.run _ s5 σ H5 x u _ I5' r5 (step x H5 y5)) (fun _ s6 h6 => ?_) fun x s' hx => ee n s₀ x s' hx
        obtain ⟨σ6, H6, I6, q6⟩ := h6
        have hip : ∀ q ∈ ip ++ pinsAt fp s5.heap, q.1 ≠ S := fun q hq => by
          rcases List.mem_append.mp hq with hq | hq
          · exact gc.ip q hq
          · exact hfS q.1 (of_pinsAt hq).1
        have gc2 : GC X S (ip ++ pinsAt fp s5.heap) A (.forLoop tg (.ref it) body [] X.env) (.ret (fun r => ((match r with | .ok f => (.pure f : Sem Flow) | .error e => .raise e).onRaise (cameBack X.env)).wrap K J gd lv) none (gd false) (lv []) c p [] :: fs) id :=
          ⟨gc.pn, hip, gc.apart, (gl _).over, (gl _).split, (gl _).guard, rfl⟩
        refine hb.run A S (ip ++ pinsAt fp s5.heap) R n ys s₀ _ _ _ _ id id s6 σ6 H6 { D with nx := N, ct := N, bk := D.nx } gc2 hn ⟨fun n' ys' s₀' s3 f hn' hs' => ?_, fun n' s₀' x s3 hx => ee n' s₀' x s3 hx⟩ ⟨acc, cc, r, I6⟩ q6
        have again : ∀ {σ7 : L2.St} {H7 : Hp}, GI X S (ip ++ pinsAt fp s5.heap) ys' σ7 H7 s3 → N ys' σ7 H7 → Seg (model X.prog X.w) A R (GY X S) n' s₀' (.forLoop tg (.ref it) body [] X.env) (.pure (.again (.forLoop tg (.ref it) body [] X.env)))
            (.ret (fun r => ((match r with | .ok f => (.pure f : Sem Flow) | .error e => .raise e).onRaise (cameBack X.env)).wrap K J gd lv) none (gd false) (lv []) c p [] :: fs) s3 := fun {σ7 H7} I7 n7 => by
          obtain ⟨m', hm, w7⟩ := hN ys' σ7 H7 n7
          obtain ⟨acc7, c7, r7, J7⟩ := id I7
          have pin7 : ∀ b ∈ fp, ∀ o, s5.heap.get? b = some o → s3.heap.get? b = some o ∧ H7 b = none := fun b hb o e => by
            have := J7.pin (b, o) (List.mem_append_right _ (List.mem_cons_of_mem _ (List.mem_append_right _ (mem_pinsAt hb e))))
            exact ⟨this.1, this.2.1⟩
          refine seg_again rfl (ih m' hm (i + 1) n' ys' s₀' s3 σ7 H7 hn' w7 (gi_un I7) (T.keep _ _ _ st5 fun b hb o e => (pin7 b hb o e).1) fun b hb => ?_)
          obtain ⟨o, e, _⟩ := T.obj _ _ st5 b hb
          exact (pin7 b hb o e).2
        cases f with
        | next =>
          obtain ⟨σ3, H3, I3, n3⟩ := hs'
          exact again I3 n3
        | cont =>
          obtain ⟨σ3, H3, I3, n3⟩ := hs'
          exact again I3 n3
        | brk =>
          obtain ⟨σ3, H3, I3, n3⟩ := hs'
          exact seg_leaf (.ok .next) (k.ok n' ys' s₀' s3 .next hn' ⟨σ3, H3, gi_un I3, n3⟩)
        | ret v =>
          obtain ⟨x3, σ3, H3, I3, r3, n3⟩ := hs'
          exact seg_leaf (.ok (.ret v)) (k.ok n' ys' s₀' s3 (.ret v) hn' ⟨x3, σ3, H3, gi_un I3, r3, n3⟩)
  exact loop m0 0 n ys s₀ s2 σ H2 hn w0 ⟨acc, cc, r, I2⟩ st2 fun b hb => (f2 b hb).1
end
section
variable (X : Cx)
def tGw (st : Stmt) : TGn := fun D ys σ H => ∀ (A : Around) (S : Addr) (ip : List (Addr × Obj)) (R : GenEnd) (n : Nat) (s₀ : Shared) (c : Code) (fs : List Frame) (K : Flow → Sem PySem.Fin) (J : Value → Sem PySem.Fin) (gd : Bool → Bool) (lv : List Value → List Value) (s : Shared),
    GC X S ip A c fs gd → n + ys.length = sizeLine → GK X S ip A R c fs K J D → GI X S ip ys σ H s →
    Seg (model X.prog X.w) A R (GY X S) n s₀ c ((exec st X.env).wrap K J gd lv) fs s
def tGws (st : List Stmt) : TGn := fun D ys σ H => ∀ (A : Around) (S : Addr) (ip : List (Addr × Obj)) (R : GenEnd) (n : Nat) (s₀ : Shared) (c : Code) (fs : List Frame) (K : Flow → Sem PySem.Fin) (J : Value → Sem PySem.Fin) (gd : Bool → Bool) (lv : List Value → List Value) (s : Shared),
    GC X S ip A c fs gd → n + ys.length = sizeLine → GK X S ip A R c fs K J D → GI X S ip ys σ H s →
    Seg (model X.prog X.w) A R (GY X S) n s₀ c ((execs st X.env).wrap K J gd lv) fs s
end
section
variable {X : Cx}
theorem gs_w {st : Stmt} : GS X st (tGw X st) := ⟨fun A S ip R n ys s₀ c fs K J gd lv s σ H D g hn k hI ht => ht A S ip R n s₀ c fs K J gd lv s g hn k hI⟩
theorem gss_w {st : List Stmt} : GSs X st (tGws X st) := ⟨fun A S ip R n ys s₀ c fs K J gd lv s σ H D g hn k hI ht => ht A S ip R n s₀ c fs K J gd lv s g hn k hI⟩
theorem _root_.L2.GS.toZ {st : Stmt} {t : TGn} (h : GS X st t) {D ys σ H} (q : t D ys σ H) : tGw X st D ys σ H := fun A S ip R n s₀ c fs K J gd lv s g hn k hI => h.run A S ip R n ys s₀ c fs K J gd lv s σ H D g hn k hI q
theorem _root_.L2.GSs.toZ {st : List Stmt} {t : TGn} (h : GSs X st t) {D ys σ H} (q : t D ys σ H) : tGws X st D ys σ H := fun A S ip R n s₀ c fs K J gd lv s g hn k hI => h.run A S ip R n ys s₀ c fs K J gd lv s σ H D g hn k hI q
/-- weaker ends -/
structure GLe (D D' : GEnds) : Prop where
  nx : ∀ ys σ H, D.nx ys σ H → D'.nx ys σ H
  rt : ∀ ys v H, D.rt ys v H → D'.rt ys v H
  bk : ∀ ys σ H, D.bk ys σ H → D'.bk ys σ H
  ct : ∀ ys σ H, D.ct ys σ H → D'.ct ys σ H
theorem _root_.L2.GK.weak {S : Addr} {ip : List (Addr × Obj)} {A : Around} {R : GenEnd} {c : Code} {fs : List Frame} {K : Flow → Sem PySem.Fin} {J : Value → Sem PySem.Fin} {D D' : GEnds} (l : GLe D D') (k : GK X S ip A R c fs K J D') : GK X S ip A R c fs K J D :=
  ⟨fun n ys s₀ s f hn hs => k.ok n ys s₀ s f hn (by
    cases f with
    | next => obtain ⟨σ, H, I, q⟩ := hs; exact ⟨σ, H, I, l.nx _ _ _ q⟩
    | brk => obtain ⟨σ, H, I, q⟩ := hs; exact ⟨σ, H, I, l.bk _ _ _ q⟩
    | cont => obtain ⟨σ, H, I, q⟩ := hs; exact ⟨σ, H, I, l.ct _ _ _ q⟩
    | ret u => obtain ⟨v, σ, H, I, r, q⟩ := hs; exact ⟨v, σ, H, I, r, l.rt _ _ _ q⟩), k.exc⟩
theorem tGw.weak {st : Stmt} {D D' : GEnds} {ys σ H} (h : tGw X st D ys σ H) (l : GLe D D') : tGw X st D' ys σ H := fun A S ip R n s₀ c fs K J gd lv s g hn k hI => h A S ip R n s₀ c fs K J gd lv s g hn (k.weak l) hI
theorem tGws.weak {st : List Stmt} {D D' : GEnds} {ys σ H} (h : tGws X st D ys σ H) (l : GLe D D') : tGws X st D' ys σ H := fun A S ip R n s₀ c fs K J gd lv s g hn k hI => h A S ip R n s₀ c fs K J gd lv s g hn (k.weak l) hI
theorem tWs.weak {st : Stmt} {D D' : Ends} {σ H} (h : tWs X st D σ H) (n : ∀ σ H, D.nx σ H → D'.nx σ H) (r : ∀ v H, D.rt v H → D'.rt v H) (b : ∀ σ H, D.bk σ H → D'.bk σ H) (c : ∀ σ H, D.ct σ H → D'.ct σ H) : tWs X st D' σ H := fun pins s I => thn (h pins s I) fun f s' q => by
  cases f with
  | next => obtain ⟨σ', H', I', q⟩ := q; exact ⟨σ', H', I', n _ _ q⟩
  | brk => obtain ⟨σ', H', I', q⟩ := q; exact ⟨σ', H', I', b _ _ q⟩
  | cont => obtain ⟨σ', H', I', q⟩ := q; exact ⟨σ', H', I', c _ _ q⟩
  | ret u => obtain ⟨v, σ', H', I', rr, q⟩ := q; exact ⟨v, σ', H', I', rr, r _ _ q⟩
end
/-- what is wanted behind a statement of a generator (no return in it): out so far, the frame -/
structure Gd where
  nx : List PyData → List Sl → Prop
  bk : List PyData → List Sl → Prop := fun _ _ => False
  ct : List PyData → List Sl → Prop := fun _ _ => False
def Gde (K : PySem.W.Frag) (W : Wd) (B0 : Hp) (D : Gd) : GEnds where
  nx := fun ys σ H => ∃ B ρ ds, Same B0 B ∧ Lay K W B H σ ρ ∧ DqAll K B ys ds ∧ D.nx ds ρ
  rt := fun _ _ _ => False
  bk := fun ys σ H => ∃ B ρ ds, Same B0 B ∧ Lay K W B H σ ρ ∧ DqAll K B ys ds ∧ D.bk ds ρ
  ct := fun ys σ H => ∃ B ρ ds, Same B0 B ∧ Lay K W B H σ ρ ∧ DqAll K B ys ds ∧ D.ct ds ρ
theorem gde_back {K : PySem.W.Frag} {W : Wd} {B B' : Hp} {D : Gd} (s : Same B B') : GLe (Gde K W B' D) (Gde K W B D) :=
  ⟨fun ys σ H ⟨B2, ρ, ds, s2, q⟩ => ⟨B2, ρ, ds, s.trans s2, q⟩, fun _ _ _ z => z, fun ys σ H ⟨B2, ρ, ds, s2, q⟩ => ⟨B2, ρ, ds, s.trans s2, q⟩, fun ys σ H ⟨B2, ρ, ds, s2, q⟩ => ⟨B2, ρ, ds, s.trans s2, q⟩⟩
structure Gs (X : Cx) (W : Wd) (st : Stmt) (o : List PyData) (ρ : List Sl) (D : Gd) : Prop where
  run : ∀ (σ : L2.St) (H B : Hp) (ys : List V), Lay X.K W B H σ ρ → DqAll X.K B ys o → tGw X st (Gde X.K W B D) ys σ H
structure Gss (X : Cx) (W : Wd) (st : List Stmt) (o : List PyData) (ρ : List Sl) (D : Gd) : Prop where
  run : ∀ (σ : L2.St) (H B : Hp) (ys : List V), Lay X.K W B H σ ρ → DqAll X.K B ys o → tGws X st (Gde X.K W B D) ys σ H
section
variable {X : Cx} {W : Wd} {o : List PyData} {ρ : List Sl} {D : Gd} {pos : Pos} {c e : Expr} {st : Stmt} {sts body : List Stmt}
/-- a statement that hands out nothing -/
theorem gz_plain (h : Es X W st ρ { nx := D.nx o, rt := fun _ => False, bk := D.bk o, ct := D.ct o }) : Gs X W st o ρ D := by
  refine ⟨fun σ H B ys L Y => (gs_ps ps_w).toZ ?_⟩
  show tWs X st ((Gde X.K W B D).at ys) σ H
  refine (h.run σ H B L).weak (fun σ H ⟨B', ρ', s, L', q⟩ => ?_) (fun v H ⟨B', d, g, dv, q⟩ => q) (fun σ H ⟨B', ρ', s, L', q⟩ => ?_) (fun σ H ⟨B', ρ', s, L', q⟩ => ?_)
  all_goals exact ⟨B', ρ', o, s, L', dpAllMono s _ _ Y, q⟩
theorem gz_yield {yp : Pos} (h : Ev X W e ρ fun d => o.length < sizeLine ∧ D.nx (o ++ [d]) ρ) (hlt : o.length < sizeLine) (hco : X.env.scope.isCoroutine = false := by rfl) (hi : interactive X.env = false := by rfl) : Gs X W (.Expr (.Yield (some e) yp) pos) o ρ D := by
  refine ⟨fun σ H B ys L Y => (gs_yield pe_w hco hi).toZ ⟨?_, ?_⟩⟩
  · rw [dpAll_len Y]
    exact hlt
  · refine h.run σ H B _ L fun v H1 B1 d s1 L1 D1 h2 => ?_
    exact ⟨B1, ρ, o ++ [d], s1, L1, dpAll_app (dpAllMono s1 _ _ Y) (.cons D1 .nil), h2.2⟩
theorem gz_if (h : Et X W c ρ fun k => (k = true → Gss X W body o ρ D) ∧ (k = false → Gss X W sts o ρ D)) : Gs X W (.If c body sts pos) o ρ D := by
  refine ⟨fun σ H B ys L Y => (gs_if pt_w gss_w gss_w).toZ ?_⟩
  refine h.run σ H B _ L fun k H1 B1 s L1 q => ?_
  cases k with
  | true =>
    rw [if_pos rfl]
    exact ((q.1 rfl).run σ H1 B1 ys L1 (dpAllMono s _ _ Y)).weak (gde_back s)
  | false =>
    rw [if_neg Bool.false_ne_true]
    exact ((q.2 rfl).run σ H1 B1 ys L1 (dpAllMono s _ _ Y)).weak (gde_back s)
theorem gzs_nil (h : D.nx o ρ) : Gss X W [] o ρ D := ⟨fun σ H B ys L Y => gss_nil.toZ (D := Gde X.K W B D) (show ∃ B' ρ ds, Same B B' ∧ Lay X.K W B' H σ ρ ∧ DqAll X.K B' ys ds ∧ D.nx ds ρ from ⟨B, ρ, o, Same.refl _, L, Y, h⟩)⟩
theorem gzs_cons (h : Gs X W st o ρ { D with nx := fun o r => Gss X W sts o r D }) : Gss X W (st :: sts) o ρ D := by
  refine ⟨fun σ H B ys L Y => (gss_cons gs_w gss_w).toZ ?_⟩
  show tGw X st { Gde X.K W B D with nx := fun ys' σ' H' => tGws X sts (Gde X.K W B D) ys' σ' H' } ys σ H
  refine (h.run σ H B ys L Y).weak ⟨fun ys' σ' H' ⟨B', ρ', ds, s, L', Y', q⟩ => ?_, fun _ _ _ z => z, fun _ _ _ z => z, fun _ _ _ z => z⟩
  exact (q.run σ' H' B' ys' L' Y').weak (gde_back s)
theorem gzs_one (h : Gs X W st o ρ D) : Gss X W [st] o ρ D := by
  refine gzs_cons ⟨fun σ H B ys L Y => (h.run σ H B ys L Y).weak ⟨fun ys' σ' H' ⟨B', ρ', ds, s, L', Y', q⟩ => ⟨B', ρ', ds, s, L', Y', gzs_nil q⟩, fun _ _ _ z => z, fun _ _ _ z => z, fun _ _ _ z => z⟩⟩
/-- plain statements first -/
theorem gzs_plain (h : Es X W st ρ { nx := fun r => Gss X W sts o r D, rt := fun _ => False, bk := D.bk o, ct := D.ct o }) : Gss X W (st :: sts) o ρ D := gzs_cons (gz_plain h)
theorem gzs_cut (Mid : List PyData → List Sl → Prop) (h : Gs X W st o ρ { D with nx := Mid }) (h2 : ∀ o r, Mid o r → Gss X W sts o r D) : Gss X W (st :: sts) o ρ D :=
  gzs_cons ⟨fun σ H B ys L Y => (h.run σ H B ys L Y).weak ⟨fun ys' σ' H' ⟨B', ρ', ds, s, L', Y', q⟩ => ⟨B', ρ', ds, s, L', Y', h2 _ _ q⟩, fun _ _ _ z => z, fun _ _ _ z => z, fun _ _ _ z => z⟩⟩
theorem gz_for {tg iter : Expr} (hp : PassesOwn (model X.prog X.w) X.A X.env X.xe) (hc : X.calm = true)
    (h : Ei X W tg iter ρ fun ds => ∃ P : Nat → List PyData → List Sl → Prop, P 0 o ρ ∧ (∀ i d o1 ρ1, ds[i]? = some d → P i o1 ρ1 → Tg X W tg d ρ1 fun ρ2 => Gss X W body o1 ρ2 { nx := P (i + 1), bk := D.nx, ct := P (i + 1) }) ∧ ∀ o1 ρ1, P ds.length o1 ρ1 → D.nx o1 ρ1)
    (hs : ∀ x, foldedSetIterable iter X.env x = pure x := by intro _; rfl) : Gs X W (.For tg iter body [] pos) o ρ D := by
  refine ⟨fun σ H B ys L Y => (gs_for hp hc pi_w pg_w gss_w hs).toZ ?_⟩
  refine h.run σ H B _ L fun J H1 B1 ds s1 L1 wk hP => ?_
  obtain ⟨P, p0, turn, fin⟩ := hP
  refine ⟨fun i m ys σ H => m = ds.length - i ∧ i ≤ ds.length ∧ ∃ B' ρ o, Same B1 B' ∧ Lay X.K W B' H σ ρ ∧ DqAll X.K B' ys o ∧ P i o ρ, ⟨_, rfl, Nat.zero_le _, B1, ρ, o, Same.refl _, L1, dpAllMono s1 _ _ Y, p0⟩, ?_⟩
  rintro i m ys σ H ⟨rfl, hi, B', ρ1, o1, sB, L, Y', hPi⟩
  by_cases hlt : i < ds.length
  · refine .inr ⟨wk.go i B' H sB L.gr.sub hlt, fun ys' σ' H' => ∃ B'' ρ' o', Same B B'' ∧ Lay X.K W B'' H' σ' ρ' ∧ DqAll X.K B'' ys' o' ∧ Same B1 B'' ∧ P (i + 1) o' ρ', fun ys' σ' H' ⟨B'', ρ', o', _, L', Y2, sB', hP'⟩ => ⟨ds.length - (i + 1), by omega, rfl, hlt, B'', ρ', o', sB', L', Y2, hP'⟩, fun x H' hy => ?_⟩
    obtain ⟨d, B'', hd, s'', L'', Dx, _⟩ := wk.yld i B' H x H' W σ ρ1 sB L hy hlt
    refine (turn i d o1 ρ1 hd hPi).run x σ H' B'' _ L'' Dx fun σ2 H2 B2 ρ2 s2 L2 hb => ?_
    have sb : Same B1 B2 := (sB.trans s'').trans s2
    refine (hb.run σ2 H2 B2 ys L2 (dpAllMono (s''.trans s2) _ _ Y')).weak ⟨fun ys' σ' H' ⟨B3, ρ', o', s3, L3, Y3, q⟩ => ?_, fun _ _ _ z => z, fun ys' σ' H' ⟨B3, ρ', o', s3, L3, Y3, q⟩ => ?_, fun ys' σ' H' ⟨B3, ρ', o', s3, L3, Y3, q⟩ => ?_⟩
    · exact ⟨B3, ρ', o', s1.trans (sb.trans s3), L3, Y3, sb.trans s3, q⟩
    · exact ⟨B3, ρ', o', s1.trans (sb.trans s3), L3, Y3, q⟩
    · exact ⟨B3, ρ', o', s1.trans (sb.trans s3), L3, Y3, sb.trans s3, q⟩
  · have e : i = ds.length := by omega
    subst e
    exact .inl ⟨wk.stop B' H sB L.gr.sub, B', ρ1, o1, s1.trans sB, L, Y', fin o1 ρ1 hPi⟩
end
section
variable {X : Cx} {W : Wd} {ρ : List Sl} {pos : Pos} {e : Expr} {es : List Expr}
/-- *t, .. -/
theorem ea_star {R : List PyData → Prop} {p : Pos} (h : Ev X W e ρ fun d => match d with | .tuple xs => Ea X W es ρ fun ds => R (xs ++ ds) | _ => False) (hs : starEach (.Starred e p :: es) X.env = (true, eval e X.env) :: starEach es X.env := by rfl) : Ea X W (.Starred e p :: es) ρ R := by
  refine ⟨fun σ H B Q L k => (StX.pa_star pe_w pa_w hs).toZ ?_⟩
  refine h.run σ H B _ L fun v H1 B1 d s1 L1 D1 h2 => ?_
  cases d <;> first | exact h2.elim | skip
  rename_i xs
  obtain ⟨q, vs, rfl, h3, h4⟩ := dp_tup D1
  refine ⟨q, vs, rfl, .inl (seqT L1.gr.sub h3), ?_⟩
  refine Ea.run h2 σ H1 B1 _ L1 fun us H2 B2 ds s2 L2 D2 h5 => ?_
  exact k _ H2 B2 _ (s1.trans s2) L2 (dpAll_app (dpAllMono s2 _ _ h4) D2) h5
end
/-! ### a generator def, list(f(..)) -/
def ConG (K : PySem.W.Frag) (P : List PyData → (List PyData → Prop) → Prop) : SpG := fun vs H Qf _ => ∃ B ds R, Same B H ∧ DqAll K B vs ds ∧ P ds R ∧ ∀ out H' B' xs, Gr K ⟨none, (0, []), B, H⟩ B' H' → DqAll K B' out xs → R xs → Qf out H'
section
variable {P : Program} {w : World} {K : PySem.W.Frag} {mg : Str → Option Value} {base : Heap}
abbrev GBx (P : Program) (w : World) (K : PySem.W.Frag) (mg : Str → Option Value) (base : Heap) (N : List Str) (qual : Str) (sc : Scope) (f : Addr) (cdv : Value) (A : Around) (outer : List Env) (s : Shared) (H : Hp) (E : XK) (pn : List (Addr × Obj)) : Cx := gcxOf P w K mg base N qual sc f cdv A outer s H E pn
theorem fn_conG {x qual : Str} {st : Stmt} {f : Addr} {fd : FuncData} {N ps : List Str} {k : Nat} {P' : List PyData → (List PyData → Prop) → Prop} (F : Fun K x qual st f fd) (S : GScope N ps (defScope st)) (len : ∀ ds R, P' ds R → ds.length = ps.length)
    (body : ∀ (cdv : Value) (A : Around) (outer : List Env) (s : Shared) (H : Hp) (E : XK) (pn : List (Addr × Obj)) (W : Wd) (ds : List PyData) (R : List PyData → Prop), Room k (GBx P w K mg base N qual (defScope st) f cdv A outer s H E pn).A → P' ds R →
      Gss (GBx P w K mg base N qual (defScope st) f cdv A outer s H E pn) W (defBody st) [] (startZ N ds) { nx := fun o _ => R o }) : GFn P w K mg base (k + 1) f fd ps (ConG K P') := by
  obtain ⟨oc, od, kV, doc, pm, an, cdv, ct, osl, rfl, lk, hcd⟩ := F.ex
  refine gfn_of lk hcd S (fun vs H Q E h => ?_) fun A outer s H vs Q E pn hr h => ?_
  · obtain ⟨B, ds, R, _, h1, h2, _⟩ := h
    rw [dpAll_len h1]
    exact len ds R h2
  · obtain ⟨B, ds, R, sB, h1, h2, q⟩ := h
    refine ⟨tGws _ (defBody st), gss_w, ?_⟩
    have L := start_lay (N := N) (T := none) (ns := (0, [])) sB (fun _ z => by cases z) h1
    refine tGws.weak ((body cdv A outer s H E pn ⟨none, (0, []), B, H⟩ ds R hr h2).run _ _ _ [] L .nil) ⟨fun ys σ' H' ⟨B', ρ', o, s', L', Y, r⟩ => ?_, fun _ _ _ z => z.elim, fun _ _ _ ⟨_, _, _, _, _, _, z⟩ => z.elim, fun _ _ _ ⟨_, _, _, _, _, _, z⟩ => z.elim⟩
    exact q ys H' B' o L'.gr Y r
end
section
variable {X : Cx} {W : Wd} {ρ : List Sl} {pos : Pos} {e : Expr} {es : List Expr}
theorem el_listG {f : Addr} {fd : FuncData} {ps : List Str} {k : Nat} {x : Str} {p p2 pos' : Pos} {R : List PyData → Prop} {P : List PyData → (List PyData → Prop) → Prop} (F : GFn X.prog X.w X.K X.mg X.base k f fd ps (ConG X.K P)) (hr : Room (k + 3) X.A) (hm : X.mg x = some (.ref f))
    (hk : PySem.W.keepIn X.K (.ref f) = true) (hb : Binds X.K fd ps []) (hl : X.mg "list" = none) (h : Ea X W (e :: es) ρ fun ds => P ds R) (hg : Gl X x := by rfl) (hgl : Gl X "list" := by rfl)
    (hs : starEach (e :: es) X.env = (false, eval e X.env) :: starEach es X.env := by rfl) (hpl : (backTo pos' (starEach es X.env)).any (·.1) = false := by rfl) (hdb : (x == ("__debug__" : Str)) = false := by decide)
    (hs2 : starEach [Expr.Call (.Name x p) (e :: es) [] pos'] X.env = (false, eval (Expr.Call (.Name x p) (e :: es) [] pos') X.env) :: starEach [] X.env := by rfl) : El X W (.Call (.Name "list" p2) [.Call (.Name x p) (e :: es) [] pos'] [] pos) ρ R := by
  refine ⟨fun σ H B Q L k' => PE.toZ (t := tListG (tCallG (ConG X.K P) [] E0 (tWa X (e :: es)))) (pe_listG (E := E0) (pgen_call F (hr.mono (by omega)) hg hm hk hb .nil pa_w hdb hs hpl) (fun _ _ _ _ _ _ _ z => ?_) (fun _ _ _ z => z.elim) hr hgl hl boot_list (by decide) (by decide) hs2) ?_⟩
  · obtain ⟨a, B, H', cls, d, _, _, _, _, _, _, _, z⟩ := z
    exact z.elim
  · refine h.run σ H B _ L fun vs H1 B1 ds s1 L1 D1 h2 => ?_
    rw [List.append_nil]
    refine ⟨B1, ds, R, L1.gr.sub, D1, h2, fun out H' B' xs g Y r q hq => ?_⟩
    obtain ⟨s, L'⟩ := L1.called (.inl rfl) g
    obtain ⟨L3, q1, q2, q3, q4⟩ := fresh_own L' hq xs out Y
    exact k' q out _ B' xs (s1.trans s) L3 q1 q2 q3 q4 Y r
end
/-! ### a number in a tuple of numbers -/
section
variable {X : Cx} {W : Wd} {ρ : List Sl}
theorem inV_ints {n : Int} {ns : List Int} : inV (.int n) (ns.map V.int) = decide (n ∈ ns) := by
  unfold inV
  induction ns with
  | nil => rfl
  | cons a as ih =>
    rw [List.map_cons, List.any_cons, ih]
    have e : eqV (.int a) (.int n) = decide (a = n) := by
      simp only [eqV]
      rfl
    rw [e]
    by_cases h : a = n
    · subst h
      simp
    · have h2 : ¬ n = a := fun z => h z.symm
      simp [h, h2]
theorem flat_ints {ns : List Int} : (ns.map V.int).all flatV = true := by
  rw [List.all_map, List.all_eq_true]
  intro a _
  rfl
/-- a number in a tuple of numbers -/
theorem oz_inTI : OpZ X (compareOp .In) (fun d e R => ∃ (n : Int) (ns : List Int), d = .int n ∧ e = .tuple (ns.map PyData.int) ∧ R (.bool (decide (n ∈ ns)))) := by
  refine ⟨_, op_in_seq, fun W σ ρ H B v u d e R Q L D1 D2 r k => ?_⟩
  obtain ⟨n, ns, rfl, rfl, r⟩ := r
  cases dp_int D1
  obtain ⟨q, vs, rfl, h1, h2⟩ := dp_tup D2
  cases dq_ints h2
  refine ⟨q, _, rfl, .inr (seqT L.gr.sub h1), rfl, flat_ints, ?_⟩
  rw [if_neg (by decide), inV_ints]
  exact k _ H B _ (Same.refl _) L (.bl _) r
theorem oz_notInTI : OpZ X (compareOp .NotIn) (fun d e R => ∃ (n : Int) (ns : List Int), d = .int n ∧ e = .tuple (ns.map PyData.int) ∧ R (.bool (!decide (n ∈ ns)))) := by
  refine ⟨_, op_notIn_seq, fun W σ ρ H B v u d e R Q L D1 D2 r k => ?_⟩
  obtain ⟨n, ns, rfl, rfl, r⟩ := r
  cases dp_int D1
  obtain ⟨q, vs, rfl, h1, h2⟩ := dp_tup D2
  cases dq_ints h2
  refine ⟨q, _, rfl, .inr (seqT L.gr.sub h1), rfl, flat_ints, ?_⟩
  rw [if_pos rfl, inV_ints]
  exact k _ H B _ (Same.refl _) L (.bl _) r
end
end Z

/-! A generator that sleeps stays as it is while other code runs that knows nothing of the table of generators:
that code runs as well where each sleeper is replaced by one that cannot be woken. -/
namespace Z
open PySem PySem.Spec PyProof.Rows L2 GenW
open Sem (wp)

/-- a sleeper that cannot be woken, alike to whoever looks -/
def psn : GenState → GenState
  | .suspended _ l c p fs cl => .suspended (fun _ => .unsupported "asleep") l c p fs cl
  | x => x
theorem psn_seen (x : GenState) : (psn x).seen = x.seen := by cases x <;> rfl
theorem psn_bare (x : GenState) : (psn x).bare = x.bare := by cases x <;> rfl
def _root_.PySem.GenState.sleeps : GenState → Bool
  | .suspended .. => true
  | _ => false
theorem not_runs {M : Model} {Γ : PySem.Ctx} {p : Pos} {w : String} {t : Sem PySem.Fin} {fs : List Frame} {s s' : Shared} {e : End} (h : Runs M Γ p t fs s e s') (ht : t = .unsupported w) : False := by
  induction h with
  | segRet _ _ ih _ => exact ih ht
  | segGen _ _ ih _ => exact ih ht
  | segSuspOut _ _ ih => exact ih ht
  | segSuspGen _ _ _ _ ih _ => exact ih ht
  | _ => cases ht

section
variable (g0 : Nat → Option GenState)
/-- the sleepers put back -/
def unG (G : Array GenState) : Array GenState := G.mapIdx fun i x => (g0 i).getD x
def unS (s : Shared) : Shared := { s with gens := unG g0 s.gens }
/-- the sleepers of g0 stand replaced; the others have no generator's frame below them -/
structure Slp (G : Array GenState) : Prop where
  at' : ∀ i x, g0 i = some x → G[i]? = some (psn x)
  ret : ∀ i k l c p fs cl, g0 i = none → G[i]? = some (.suspended k l c p fs cl) → splitAtGen fs = none
end
section
variable {g0 : Nat → Option GenState} {G : Array GenState}
theorem unG_at {i : Nat} : (unG g0 G)[i]? = (G[i]?).map fun x => (g0 i).getD x := by simp [unG]
theorem unG_size : (unG g0 G).size = G.size := by simp [unG]
theorem unG_set {i : Nat} {x : GenState} (h : g0 i = none) : unG g0 (G.setIfInBounds i x) = (unG g0 G).setIfInBounds i x := by
  apply Array.ext_getElem?
  intro j
  rw [unG_at, Array.getElem?_setIfInBounds, Array.getElem?_setIfInBounds, unG_at, unG_size]
  by_cases hj : i = j
  · subst hj
    by_cases hl : i < G.size
    · simp [hl, h]
    · simp [hl]
  · simp [hj]
theorem unG_push {x : GenState} (h : g0 G.size = none) : unG g0 (G.push x) = (unG g0 G).push x := by
  apply Array.ext_getElem?
  intro j
  rw [unG_at, Array.getElem?_push, Array.getElem?_push, unG_at, unG_size]
  by_cases hj : j = G.size
  · subst hj
    simp [h]
  · simp [hj]
theorem Slp.off {i : Nat} (P : Slp g0 G) (h : ∀ x, G[i]? ≠ some (psn x) ∨ True) : True := trivial
theorem Slp.none_of {i : Nat} {y : GenState} (P : Slp g0 G) (e : G[i]? = some y) (hy : ∀ x, g0 i = some x → psn x ≠ y) : g0 i = none := by
  cases q : g0 i with
  | none => rfl
  | some x =>
    have := P.at' i x q
    rw [e] at this
    exact absurd (Option.some.inj this).symm (hy x q)
theorem Slp.set {i : Nat} {x : GenState} (P : Slp g0 G) (h : g0 i = none) (hx : ∀ k l c p fs cl, x = .suspended k l c p fs cl → splitAtGen fs = none) : Slp g0 (G.setIfInBounds i x) := by
  refine ⟨fun j y e => ?_, fun j k l c p fs cl e q => ?_⟩
  · have hj : i ≠ j := fun z => by rw [← z, h] at e; cases e
    rw [Array.getElem?_setIfInBounds_ne hj]
    exact P.at' j y e
  · rw [Array.getElem?_setIfInBounds] at q
    by_cases hj : i = j
    · rw [if_pos hj] at q
      by_cases hl : i < G.size
      · rw [if_pos hl] at q
        exact hx _ _ _ _ _ _ (Option.some.inj q)
      · rw [if_neg hl] at q
        cases q
    · rw [if_neg hj] at q
      exact P.ret j k l c p fs cl e q
theorem Slp.size (P : Slp g0 G) : g0 G.size = none := by
  cases q : g0 G.size with
  | none => rfl
  | some x =>
    have := P.at' _ x q
    simp at this
theorem Slp.push {c : Code} (P : Slp g0 G) : Slp g0 (G.push (.fresh c)) := by
  refine ⟨fun j y e => ?_, fun j k l c' p fs cl e q => ?_⟩
  · have := P.at' j y e
    have hj : j < G.size := (Array.getElem?_eq_some_iff.mp this).1
    rw [Array.getElem?_push_lt hj]
    rw [Array.getElem?_eq_getElem hj] at this
    exact this
  · rw [Array.getElem?_push] at q
    split at q
    · cases q
    · exact P.ret j k l c' p fs cl e q
end
theorem noGen_app : ∀ {fs gs : List Frame}, splitAtGen fs = none → splitAtGen gs = none → splitAtGen (fs ++ gs) = none
  | [], _, _, h => h
  | .ret _ _ _ _ _ _ _ :: fs, gs, h, h2 => by
    have h' : (splitAtGen fs).map (fun (x : List Frame × (Nat × (GenResult → Sem PySem.Fin) × Code × Pos) × List Frame) => _) = none := h
    have h3 : splitAtGen fs = none := by
      cases q : splitAtGen fs with
      | none => rfl
      | some _ => rw [q] at h'; cases h'
    show (splitAtGen (fs ++ gs)).map _ = none
    rw [noGen_app h3 h2]
    rfl
  | .gen _ _ _ _ _ :: _, _, h, _ => by cases h
theorem noGen_tail {F : Frame} {fs : List Frame} (h : splitAtGen (F :: fs) = none) : splitAtGen fs = none := by
  cases F with
  | ret =>
    have h' : (splitAtGen fs).map (fun (x : List Frame × (Nat × (GenResult → Sem PySem.Fin) × Code × Pos) × List Frame) => _) = none := h
    cases q : splitAtGen fs with
    | none => rfl
    | some _ => rw [q] at h'; cases h'
  | gen => cases h
def EndOk (e : End) : Prop := ∀ v g l k c p fs, e = .susp v g l k c p fs → splitAtGen fs = none
theorem EndOk.state {e : End} (h : EndOk e) : ∀ k l c p fs cl, e.genState = .suspended k l c p fs cl → splitAtGen fs = none := by
  intro k l c p fs cl q
  cases e with
  | ret r => cases q
  | susp v g l' k' c' p' fs' =>
    have q' : GenState.suspended k' l' c' p' fs' (g || fs'.any Frame.guarded) = .suspended k l c p fs cl := q
    cases q'
    exact h _ _ _ _ _ _ _ rfl
section
variable {g0 : Nat → Option GenState} {M : Model}
theorem unS_set {s : Shared} {i : Nat} {x : GenState} (h : g0 i = none) : unS g0 (s.setGen i x) = (unS g0 s).setGen i x := by
  show ({ s with gens := unG g0 (s.gens.setIfInBounds i x) } : Shared) = { s with gens := (unG g0 s.gens).setIfInBounds i x }
  rw [unG_set h]
theorem unS_at {s : Shared} {i : Nat} {x : GenState} (h : g0 i = none) (e : s.gens[i]? = some x) : (unS g0 s).gens[i]? = some x := by
  show (unG g0 s.gens)[i]? = some x
  rw [unG_at, e]
  simp [h]
/-- only sleepers are replaced -/
def Sl0 (g0 : Nat → Option GenState) : Prop := ∀ i x, g0 i = some x → ∃ k l c p fs cl, x = .suspended k l c p fs cl
theorem Sl0.ne (h0 : Sl0 g0) {i : Nat} {x y : GenState} (h : g0 i = some x) (hy : ∀ k l c p fs cl, y ≠ .suspended k l c p fs cl) : psn x ≠ y := by
  obtain ⟨k, l, c, p, fs, cl, rfl⟩ := h0 i x h
  exact fun z => hy _ _ _ _ _ _ z.symm
theorem runs_asleep (h0 : Sl0 g0) {Γ : PySem.Ctx} {p : Pos} {t : Sem PySem.Fin} {fs : List Frame} {s s' : Shared} {e : End} (h : Runs M Γ p t fs s e s') :
    splitAtGen fs = none → Slp g0 s.gens → Slp g0 s'.gens ∧ EndOk e ∧ Runs M Γ p t fs (unS g0 s) e (unS g0 s') := by
  induction h with
  | done => exact fun _ P => ⟨P, fun _ _ _ _ _ _ _ z => (by cases z), .done⟩
  | raise => exact fun _ P => ⟨P, fun _ _ _ _ _ _ _ z => (by cases z), .raise⟩
  | again hq _ ih => exact fun f P => let ⟨a, b, c⟩ := ih f P; ⟨a, b, .again hq c⟩
  | rule _ ih => exact fun f P => let ⟨a, b, c⟩ := ih f P; ⟨a, b, .rule c⟩
  | «at» _ ih => exact fun f P => let ⟨a, b, c⟩ := ih f P; ⟨a, b, .at c⟩
  | load ho _ ih => exact fun f P => let ⟨a, b, c⟩ := ih f P; ⟨a, b, .load ho c⟩
  | update ho _ ih => exact fun f P => let ⟨a, b, c⟩ := ih f P; ⟨a, b, .update ho c⟩
  | loadIfAlive _ ih => exact fun f P => let ⟨a, b, c⟩ := ih f P; ⟨a, b, .loadIfAlive c⟩
  | point _ ih => exact fun f P => let ⟨a, b, c⟩ := ih f P; ⟨a, b, .point c⟩
  | alloc _ ih => exact fun f P => let ⟨a, b, c⟩ := ih f P; ⟨a, b, .alloc c⟩
  | fresh _ ih => exact fun f P => let ⟨a, b, c⟩ := ih f P; ⟨a, b, .fresh c⟩
  | ask _ ih => exact fun f P => let ⟨a, b, c⟩ := ih f P; ⟨a, b, .ask c⟩
  | choose hn _ ih => exact fun f P => let ⟨a, b, c⟩ := ih f P; ⟨a, b, .choose hn c⟩
  | os _ ih => exact fun f P => let ⟨a, b, c⟩ := ih f P; ⟨a, b, .os c⟩
  | handled _ ih => exact fun f P => let ⟨a, b, c⟩ := ih f P; ⟨a, b, .handled c⟩
  | genState hg _ ih =>
    rename_i g st Γ p k s e s' _
    intro f P
    obtain ⟨a, b, c⟩ := ih f P
    cases q : g0 g with
    | none => exact ⟨a, b, .genState (unS_at q hg) c⟩
    | some x =>
      have hx := P.at' g x q
      rw [hg] at hx
      cases hx
      rw [psn_seen] at c
      refine ⟨a, b, .genState (st := x) ?_ c⟩
      show (unG g0 s.gens)[g]? = some x
      rw [unG_at, hg, q]
      rfl
  | stack _ ih => exact fun f P => let ⟨a, b, c⟩ := ih f P; ⟨a, b, .stack c⟩
  | thread _ ih => exact fun f P => let ⟨a, b, c⟩ := ih f P; ⟨a, b, .thread c⟩
  | newGen _ ih =>
    rename_i Γ p k s e s' c' _
    intro f P
    obtain ⟨a, b, c⟩ := ih f P.push
    refine ⟨a, b, .newGen ?_⟩
    have e1 : unS g0 { s with gens := s.gens.push (.fresh c') } = { unS g0 s with gens := (unS g0 s).gens.push (.fresh c') } := by
      show ({ s with gens := unG g0 (s.gens.push (.fresh c')) } : Shared) = { s with gens := (unG g0 s.gens).push (.fresh c') }
      rw [unG_push P.size]
    rw [e1] at c
    have e2 : (unS g0 s).gens.size = s.gens.size := unG_size
    rw [e2]
    exact c
  | call _ _ ih1 ih2 =>
    intro f P
    obtain ⟨a1, _, c1⟩ := ih1 rfl P
    obtain ⟨a, b, c⟩ := ih2 f a1
    exact ⟨a, b, .call c1 c⟩
  | callSusp _ ih1 =>
    intro f P
    obtain ⟨a1, b1, c1⟩ := ih1 rfl P
    refine ⟨a1, fun v g l k c p fs z => ?_, .callSusp c1⟩
    cases z
    exact noGen_app (b1 _ _ _ _ _ _ _ rfl) rfl
  | yield => exact fun _ P => ⟨P, fun v g l k c p fs z => (by cases z; rfl), .yield⟩
  | resumeFresh hg _ hq _ ih1 ih2 =>
    rename_i Γ p g l k s c e1 s1 e s' _ _
    intro f P
    have n := P.none_of hg fun x hx => h0.ne hx fun _ _ _ _ _ _ z => by cases z
    obtain ⟨a1, b1, c1⟩ := ih1 rfl (P.set n fun _ _ _ _ _ _ z => by cases z)
    obtain ⟨a, b, c⟩ := ih2 f (a1.set n b1.state)
    rw [unS_set n] at c1 c
    exact ⟨a, b, .resumeFresh (unS_at n hg) c1 hq c⟩
  | resumeSuspended hg hr hq _ ih1 ih2 =>
    rename_i Γ p g r l k s k0 l0 c0 p0 fs cl e1 s1 e s' _
    intro f P
    have n : g0 g = none := P.none_of hg fun x hx z => by
      obtain ⟨k', l', c', p', fs', cl', rfl⟩ := h0 g x hx
      have z' : GenState.suspended (fun _ => .unsupported "asleep") l' c' p' fs' cl' = .suspended k0 l0 c0 p0 fs cl := z
      cases z'
      exact not_runs hr rfl
    obtain ⟨a1, b1, c1⟩ := ih1 (P.ret _ _ _ _ _ _ _ n hg) (P.set n fun _ _ _ _ _ _ z => by cases z)
    obtain ⟨a, b, c⟩ := ih2 f (a1.set n b1.state)
    rw [unS_set n] at c1 c
    exact ⟨a, b, .resumeSuspended (unS_at n hg) c1 hq c⟩
  | resumeJustStarted hg hv _ ih =>
    intro f P
    have n := P.none_of hg fun x hx => h0.ne hx fun _ _ _ _ _ _ z => by cases z
    obtain ⟨a, b, c⟩ := ih f P
    exact ⟨a, b, .resumeJustStarted (unS_at n hg) hv c⟩
  | resumeThrowFresh hg _ ih =>
    intro f P
    have n := P.none_of hg fun x hx => h0.ne hx fun _ _ _ _ _ _ z => by cases z
    obtain ⟨a, b, c⟩ := ih f (P.set n fun _ _ _ _ _ _ z => by cases z)
    rw [unS_set n] at c
    exact ⟨a, b, .resumeThrowFresh (unS_at n hg) c⟩
  | resumeRunning hg _ ih =>
    intro f P
    have n := P.none_of hg fun x hx => h0.ne hx fun _ _ _ _ _ _ z => by cases z
    obtain ⟨a, b, c⟩ := ih f P
    exact ⟨a, b, .resumeRunning (unS_at n hg) c⟩
  | resumeFinished hg _ ih =>
    intro f P
    have n := P.none_of hg fun x hx => h0.ne hx fun _ _ _ _ _ _ z => by cases z
    obtain ⟨a, b, c⟩ := ih f P
    exact ⟨a, b, .resumeFinished (unS_at n hg) c⟩
  | segRet _ _ ih1 ih2 =>
    intro f P
    obtain ⟨a1, _, c1⟩ := ih1 rfl P
    obtain ⟨a, b, c⟩ := ih2 (noGen_tail f) a1
    exact ⟨a, b, .segRet c1 c⟩
  | segGen _ _ _ _ => intro f; cases f
  | segSuspOut hs _ ih1 =>
    intro f P
    obtain ⟨a1, b1, c1⟩ := ih1 rfl P
    refine ⟨a1, fun v g l k c p fs z => ?_, .segSuspOut hs c1⟩
    cases z
    exact noGen_app (b1 _ _ _ _ _ _ _ rfl) f
  | segSuspGen hs _ _ _ _ _ => intro f; rw [f] at hs; cases hs

theorem wp_asleep {α : Type} (h0 : Sl0 g0) (Γ : PySem.Ctx) (t : Sem α) : ∀ (Q : α → Pos → Shared → Prop) (E : Value → Pos → Shared → Prop) (p : Pos) (s : Shared), Slp g0 s.gens → wp M Γ t Q E p s →
    wp M Γ t (fun a p' s' => ∃ u, s' = unS g0 u ∧ Slp g0 u.gens ∧ Q a p' u) (fun x p' s' => ∃ u, s' = unS g0 u ∧ Slp g0 u.gens ∧ E x p' u) p (unS g0 s) := by
  induction t with
  | pure a => exact fun Q E p s P h => ⟨s, rfl, P, h⟩
  | raise e => exact fun Q E p s P h => ⟨s, rfl, P, h⟩
  | unsupported _ => exact fun Q E p s _ h => h
  | finish _ => exact fun Q E p s _ h => h
  | rule _ k ih => exact fun Q E p s P h => ih () Q E p s P h
  | «at» p' k ih => exact fun Q E p s P h => ih () Q E p' s P h
  | load a _ k ih => exact fun Q E p s P ⟨o, ho, h⟩ => ⟨o, ho, ih o Q E p s P h⟩
  | update a _ f k ih => exact fun Q E p s P h => ⟨h.1, ih () Q E p { s with heap := s.heap.update a f } P h.2⟩
  | loadIfAlive a k ih => exact fun Q E p s P h => ih _ Q E p s P h
  | point _ k ih => exact fun Q E p s P h => ih () Q E p s P h
  | register _ _ => exact fun Q E p s _ h => h
  | alloc o k ih => exact fun Q E p s P h => ih _ Q E p { s with heap := s.heap.push o } P h
  | fresh k ih => exact fun Q E p s P h => ih _ Q E p { s with toks := s.toks + 1 } P h
  | ask k ih => exact fun Q E p s P h => ih _ Q E p s P h
  | choose src m k ih => exact fun Q E p s P h => ⟨h.1, ih _ Q E p { s with drawn := s.drawn.bump src } P h.2⟩
  | os q _ k ih => exact fun Q E p s P h => ih _ Q E p { s with os := (Os.step s.os q).1 } P h
  | call c hd _ _ k ih =>
    rintro Q E p s P ⟨r, s', hr, h⟩
    obtain ⟨a, _, c'⟩ := runs_asleep h0 hr rfl P
    exact ⟨r, unS g0 s', c', ih r Q E p s' a h⟩
  | handled own k ih => exact fun Q E p s P h => ih _ Q E p s P h
  | genState g k ih =>
    rintro Q E p s P ⟨st, hg, h⟩
    have r := ih _ Q E p s P h
    cases q : g0 g with
    | none => exact ⟨st, unS_at q hg, r⟩
    | some x =>
      have hx := P.at' g x q
      rw [hg] at hx
      cases hx
      rw [psn_seen] at r
      refine ⟨x, ?_, r⟩
      show (unG g0 s.gens)[g]? = some x
      rw [unG_at, hg, q]
      rfl
  | newGen c k ih =>
    intro Q E p s P h
    have r := ih _ Q E p { s with gens := s.gens.push (.fresh c) } P.push h
    have e1 : unS g0 { s with gens := s.gens.push (.fresh c) } = { unS g0 s with gens := (unS g0 s).gens.push (.fresh c) } := by
      show ({ s with gens := unG g0 (s.gens.push (.fresh c)) } : Shared) = { s with gens := (unG g0 s.gens).push (.fresh c) }
      rw [unG_push P.size]
    rw [e1] at r
    have e2 : (unS g0 s).gens.size = s.gens.size := unG_size
    show wp M Γ (k (unS g0 s).gens.size) _ _ p _
    rw [e2]
    exact r
  | resume g r _ k ih =>
    rintro Q E p s P ⟨res, s', hw, h⟩
    have key : Wakes M Γ p g r (unS g0 s) res (unS g0 s') ∧ Slp g0 s'.gens := by
      unfold Wakes at hw
      split at hw
      · exact hw.elim
      · rename_i c hg
        have n := P.none_of hg fun x hx => h0.ne hx fun _ _ _ _ _ _ z => by cases z
        unfold Wakes
        rw [unS_at n hg]
        split at hw
        · obtain ⟨e1, s1, hr, hq, rfl, rfl⟩ := hw
          obtain ⟨a1, b1, c1⟩ := runs_asleep h0 hr rfl (P.set n fun _ _ _ _ _ _ z => by cases z)
          rw [unS_set n] at c1
          exact ⟨⟨e1, unS g0 s1, c1, hq, rfl, unS_set n⟩, a1.set n b1.state⟩
        · rename_i v hv
          obtain ⟨rfl, rfl⟩ := hw
          refine ⟨?_, P⟩
          cases v <;> first | exact ⟨rfl, rfl⟩ | exact absurd rfl hv | exact (hv rfl).elim
        · obtain ⟨rfl, rfl⟩ := hw
          exact ⟨⟨rfl, unS_set n⟩, P.set n fun _ _ _ _ _ _ z => by cases z⟩
      · rename_i k0 l0 c0 p0 fs cl hg
        obtain ⟨e1, s1, hr, hq, rfl, rfl⟩ := hw
        have n : g0 g = none := P.none_of hg fun x hx z => by
          obtain ⟨k', l', c', p', fs', cl', rfl⟩ := h0 g x hx
          have z' : GenState.suspended (fun _ => .unsupported "asleep") l' c' p' fs' cl' = .suspended k0 l0 c0 p0 fs cl := z
          cases z'
          exact not_runs hr rfl
        obtain ⟨a1, b1, c1⟩ := runs_asleep h0 hr (P.ret _ _ _ _ _ _ _ n hg) (P.set n fun _ _ _ _ _ _ z => by cases z)
        rw [unS_set n] at c1
        unfold Wakes
        rw [unS_at n hg]
        exact ⟨⟨e1, unS g0 s1, c1, hq, rfl, unS_set n⟩, a1.set n b1.state⟩
      · rename_i hg
        obtain ⟨rfl, rfl⟩ := hw
        have n := P.none_of hg fun x hx => h0.ne hx fun _ _ _ _ _ _ z => by cases z
        unfold Wakes
        rw [unS_at n hg]
        exact ⟨⟨rfl, rfl⟩, P⟩
      · rename_i hg
        obtain ⟨rfl, rfl⟩ := hw
        have n := P.none_of hg fun x hx => h0.ne hx fun _ _ _ _ _ _ z => by cases z
        unfold Wakes
        rw [unS_at n hg]
        exact ⟨⟨rfl, rfl⟩, P⟩
    exact ⟨res, unS g0 s', key.1, ih res Q E p s' key.2 h⟩
  | yield _ _ _ _ => exact fun Q E p s _ h => h
  | stack k ih => exact fun Q E p s P h => ih _ Q E p s P h
  | fork _ _ => exact fun Q E p s _ h => h
  | thread k ih => exact fun Q E p s P h => ih _ Q E p s P h
  | await _ _ _ _ _ => exact fun Q E p s _ h => h
end
/-! ### the sleepers of a state -/
def slpOf (G : Array GenState) (i : Nat) : Option GenState := (G[i]?).filter GenState.sleeps
def lull (s : Shared) : Shared := { s with gens := s.gens.map psn }
theorem slpOf_some {G : Array GenState} {i : Nat} {x : GenState} (h : slpOf G i = some x) : G[i]? = some x ∧ ∃ k l c p fs cl, x = .suspended k l c p fs cl := by
  unfold slpOf at h
  obtain ⟨h1, h2⟩ := Option.filter_eq_some_iff.mp h
  refine ⟨h1, ?_⟩
  cases x with
  | suspended k l c p fs cl => exact ⟨_, _, _, _, _, _, rfl⟩
  | _ => cases h2
theorem lull_slp {s : Shared} : Slp (slpOf s.gens) (lull s).gens := by
  refine ⟨fun i x h => ?_, fun i k l c p fs cl h q => ?_⟩
  · show (s.gens.map psn)[i]? = _
    rw [Array.getElem?_map, (slpOf_some h).1]
    rfl
  · have q : (s.gens.map psn)[i]? = _ := q
    rw [Array.getElem?_map] at q
    cases e : s.gens[i]? with
    | none => rw [e] at q; cases q
    | some x =>
      rw [e] at q
      have q' : psn x = .suspended k l c p fs cl := Option.some.inj q
      unfold slpOf at h
      rw [e] at h
      cases x with
      | suspended => cases h
      | _ => cases q'
theorem unS_lull {s : Shared} : unS (slpOf s.gens) (lull s) = s := by
  have e : unG (slpOf s.gens) (s.gens.map psn) = s.gens := by
    apply Array.ext_getElem?
    intro i
    rw [unG_at, Array.getElem?_map]
    cases e : s.gens[i]? with
    | none => rfl
    | some x =>
      unfold slpOf
      rw [e]
      cases x <;> rfl
  show ({ s with gens := unG (slpOf s.gens) (s.gens.map psn) } : Shared) = s
  rw [e]
/-- THE RULE: what sleeps stays -/
theorem wpAny_asleep {α : Type} {M : Model} {A : Around} {t : Sem α} {Q : α → Shared → Prop} {E : Value → Shared → Prop} {s : Shared} (h : wpAny M A t Q E (lull s)) :
    wpAny M A t (fun a s' => ∃ u, s' = unS (slpOf s.gens) u ∧ Slp (slpOf s.gens) u.gens ∧ Q a u) (fun x s' => ∃ u, s' = unS (slpOf s.gens) u ∧ Slp (slpOf s.gens) u.gens ∧ E x u) s := by
  intro Γ p hΓ
  have := wp_asleep (g0 := slpOf s.gens) (fun i x h => (slpOf_some h).2) Γ t _ _ p (lull s) lull_slp (h Γ p hΓ)
  rw [unS_lull] at this
  exact this
theorem slept_at {G : Array GenState} {u : Shared} (P : Slp (slpOf G) u.gens) {i : Nat} {x : GenState} (h : G[i]? = some x) (hx : x.sleeps = true) : (unS (slpOf G) u).gens[i]? = some x := by
  have e : slpOf G i = some x := by
    unfold slpOf
    rw [h]
    simp [Option.filter, hx]
  show (unG (slpOf G) u.gens)[i]? = some x
  rw [unG_at, P.at' i x e, e]
  rfl
theorem lull_bare {s : Shared} (h : AllBare s.gens) : AllBare (lull s).gens := fun y hy => by
  obtain ⟨x, hx, rfl⟩ := Array.mem_map.mp (show y ∈ s.gens.map psn from hy)
  rw [psn_bare]
  exact h x hx
theorem unS_bare {G : Array GenState} {u : Shared} (hG : AllBare G) (h : AllBare u.gens) : AllBare (unS (slpOf G) u).gens := fun y hy => by
  obtain ⟨i, hi, e⟩ := Array.mem_iff_getElem.mp hy
  have q : (unG (slpOf G) u.gens)[i]? = some y := by
    have hi' : i < (unG (slpOf G) u.gens).size := hi
    rw [Array.getElem?_eq_getElem hi']
    exact congrArg some e
  rw [unG_at] at q
  cases e2 : u.gens[i]? with
  | none => rw [e2] at q; cases q
  | some z =>
    rw [e2] at q
    have q' : (slpOf G i).getD z = y := Option.some.inj q
    cases e3 : slpOf G i with
    | none =>
      rw [e3] at q'
      have : z = y := q'
      subst this
      exact h z (Array.mem_of_getElem? e2)
    | some x =>
      rw [e3] at q'
      have : x = y := q'
      subst this
      exact hG x (Array.mem_of_getElem? (slpOf_some e3).1)
section
variable {X : Cx} {pins : List (Addr × Obj)} {σ : L2.St} {H : Hp} {s : Shared}
theorem _root_.L2.Inv.gens {G : Array GenState} (I : Inv X pins σ H s) (h : AllBare G) : Inv X pins σ H { s with gens := G } :=
  ⟨I.ok, I.os, h, I.base, I.loc, I.cell, I.free, I.freeC, I.pin, I.hok, I.len⟩
/-- what sleeps stays, through a block -/
theorem _root_.L2.PSs.asleep {st : List Stmt} {t : TS} (h : PSs X.nox st t) {D : Ends} (I : Inv X pins σ H s) (ht : t D σ H) :
    wpAny (model X.prog X.w) X.A (execs st X.env) (fun f s' => SP X pins D f s' ∧ ∀ (i : Nat) (x : GenState), s.gens[i]? = some x → GenState.sleeps x = true → s'.gens[i]? = some x) X.xe s := by
  have I1 : Inv X.nox pins σ H (lull s) := (I.gens (G := s.gens.map psn) (lull_bare I.bare)).wish _
  refine wpAny_mono (wpAny_asleep (h.run pins (lull s) σ H D I1 ht)) (fun f s' ⟨u, e, P, q⟩ => ?_) fun x s' ⟨_, _, _, z⟩ => z.elim
  subst e
  refine ⟨?_, fun i x hx hs => slept_at P hx hs⟩
  cases f with
  | next => obtain ⟨σ', H', J, q⟩ := q; exact ⟨σ', H', J.unwish.gens (unS_bare I.bare J.bare), q⟩
  | brk => obtain ⟨σ', H', J, q⟩ := q; exact ⟨σ', H', J.unwish.gens (unS_bare I.bare J.bare), q⟩
  | cont => obtain ⟨σ', H', J, q⟩ := q; exact ⟨σ', H', J.unwish.gens (unS_bare I.bare J.bare), q⟩
  | ret v => obtain ⟨x, σ', H', J, r, q⟩ := q; exact ⟨x, σ', H', J.unwish.gens (unS_bare I.bare J.bare), r, q⟩
end
end Z

/-! A generator whose consumer does what it likes between two wakes, as long as it leaves the generator's own things alone.
Each wake is a new entry: the context is taken anew from the state that is met. -/
namespace Z
open PySem PySem.Spec PyProof.Rows L2 GenW

/-! ### the heap below a mark -/
def cutH (h : Heap) (n : Nat) : Heap := ⟨h.objs.extract 0 n, h.life⟩
theorem cutH_get {h : Heap} {n b : Nat} (hb : b < n) : (cutH h n).get? b = h.get? b := by
  have e : (h.objs.extract 0 n)[b]? = h.objs[b]? := by
    rw [Array.getElem?_extract]
    by_cases q : b < h.objs.size
    · have : b < min n h.objs.size := by omega
      simp [this]
    · have : ¬ b < min n h.objs.size := by omega
      simp [this, q]
  unfold Heap.get? cutH
  rw [e]
theorem cutH_size {h : Heap} {n : Nat} (hn : n ≤ h.objs.size) : (cutH h n).objs.size = n := by
  show (h.objs.extract 0 n).size = n
  simp
  omega
theorem cutH_some {h : Heap} {n b : Nat} {o : Obj} (e : (cutH h n).get? b = some o) : h.get? b = some o := by
  by_cases hb : b < n
  · rw [cutH_get hb] at e
    exact e
  · have h1 := Heap.lt_size e
    have h2 : (h.objs.extract 0 n).size ≤ n := by simp; omega
    exact absurd (Nat.lt_of_lt_of_le h1 h2) hb

/-! ### lists and tuples alone -/
def Smp : HO → Prop
  | .lst _ => True
  | .tup _ => True
  | .frz _ (.tup _) => True
  | _ => False
def keepS : Option HO → Option HO
  | some (.lst xs) => some (.lst xs)
  | some (.tup xs) => some (.tup xs)
  | some (.frz o (.tup xs)) => some (.frz o (.tup xs))
  | _ => none
def simp' (B : Hp) : Hp := fun b => keepS (B b)
theorem keepS_eq {x : Option HO} {o : HO} (h : keepS x = some o) : x = some o ∧ Smp o := by
  unfold keepS at h
  split at h <;> first | (cases h; exact ⟨rfl, trivial⟩) | cases h
theorem keepS_smp {o : HO} (h : Smp o) : keepS (some o) = some o := by
  cases o <;> first | rfl | (exact h.elim) | skip
  rename_i o u
  cases u <;> first | rfl | exact h.elim
theorem simp_le {B : Hp} : Same (simp' B) B := fun b o e => (keepS_eq e).1
theorem simp_some {B : Hp} {b : Addr} {o : HO} (h : B b = some o) (hs : Smp o) : simp' B b = some o := by
  unfold simp'
  rw [h]
  exact keepS_smp hs
mutual
theorem dq_simp {K : PySem.W.Frag} {B : Hp} : ∀ (d : PyData) (v : V), Dq K B v d → Dq K (simp' B) v d
  | .none, _, h => by cases h; exact .non
  | .bool b, _, h => by cases h; exact .bl b
  | .int i, _, h => by cases h; exact .int i
  | .str x, _, h => by cases h; exact .str x
  | .list ds, _, h => by
    cases h with
    | lst hs ha => exact .lst (simp_some hs trivial) (dqAll_simp ds _ ha)
  | .tuple ds, _, h => by
    cases h with
    | tup hs ha =>
      refine .tup ?_ (dqAll_simp ds _ ha)
      rcases hs with (q | ⟨o, q⟩) | q
      · exact .inl (.inl (simp_some q trivial))
      · exact .inl (.inr ⟨o, simp_some q trivial⟩)
      · exact .inr q
  | .dict _, _, h => by cases h
theorem dqAll_simp {K : PySem.W.Frag} {B : Hp} : ∀ (ds : List PyData) (vs : List V), DqAll K B vs ds → DqAll K (simp' B) vs ds
  | [], _, h => by cases h; exact .nil
  | d :: ds, _, h => by
    cases h with
    | cons h1 h2 => exact .cons (dq_simp d _ h1) (dqAll_simp ds _ h2)
end
theorem objOk_smp {P : Program} {w : World} {H H' : Hp} {h : Heap} {a : Addr} {o : HO} (hs : Smp o) (x : ObjOk P w H h a o) : ObjOk P w H' h a o := by
  cases o with
  | lst xs => exact x
  | tup xs => exact x
  | frz ob u =>
    cases u with
    | tup xs => exact x
    | _ => exact hs.elim
  | _ => exact hs.elim

/-! ### what stands at a wake -/
abbrev Cx.mk0 (Y : Cx) : Addr := Y.env.locals
/-- the generator's context, entered at s anew -/
@[reducible] def reC (Y : Cx) (s : Shared) (H : Hp) : Cx := { Y with s_0 := { s with heap := cutH s.heap Y.env.locals }, H_0 := H, ex := [], pn := [], xe := fun _ _ => False }
open Classical in
/-- whatever is not the generator's own stays to the letter -/
noncomputable def trkH (Y : Cx) (s : Shared) (Bg : Hp) (pv : List (Addr × Obj)) : Hp := fun b => match Bg b with
  | some o => some o
  | none => if (∃ o, s.heap.get? b = some o) ∧ (∀ p ∈ pv, p.1 ≠ b) ∧ b ∉ Y.fs ∧ Y.base.get? b = none then some (.ext fun h => h.get? b = s.heap.get? b) else none
section
variable {Y : Cx} {s : Shared} {Bg : Hp} {pv : List (Addr × Obj)} {b : Addr}
theorem trkH_some {o : HO} (h : Bg b = some o) : trkH Y s Bg pv b = some o := by
  unfold trkH
  rw [h]
theorem trkH_ext {o : Obj} (h : Bg b = none) (e : s.heap.get? b = some o) (hp : ∀ p ∈ pv, p.1 ≠ b) (hf : b ∉ Y.fs) (hb : Y.base.get? b = none) : trkH Y s Bg pv b = some (.ext fun h => h.get? b = s.heap.get? b) := by
  unfold trkH
  rw [h]
  dsimp only
  rw [if_pos ⟨⟨o, e⟩, hp, hf, hb⟩]
theorem trkH_none (h : Bg b = none) (hn : s.heap.get? b = none ∨ (∃ p ∈ pv, p.1 = b) ∨ b ∈ Y.fs ∨ ∃ o, Y.base.get? b = some o) : trkH Y s Bg pv b = none := by
  unfold trkH
  rw [h]
  dsimp only
  rw [if_neg]
  rintro ⟨⟨o, e⟩, hp, hf, hb⟩
  rcases hn with q | ⟨p, q1, q2⟩ | q | ⟨o', q⟩
  · rw [q] at e; cases e
  · exact hp p q1 q2
  · exact hf q
  · rw [hb] at q; cases q
theorem trkH_cases {o : HO} (h : trkH Y s Bg pv b = some o) : Bg b = some o ∨ (Bg b = none ∧ o = .ext (fun h => h.get? b = s.heap.get? b) ∧ ∃ ob, s.heap.get? b = some ob) := by
  unfold trkH at h
  cases q : Bg b with
  | some u => rw [q] at h; exact .inl h
  | none =>
    rw [q] at h
    dsimp only at h
    split at h
    · rename_i hc
      cases h
      exact .inr ⟨rfl, rfl, hc.1⟩
    · cases h
theorem trkH_same : Same Bg (trkH Y s Bg pv) := fun b o e => trkH_some e
end
/-- what the generator needs of its consumer's state -/
structure WkOk (Y : Cx) (s : Shared) (Bg : Hp) (pv : List (Addr × Obj)) : Prop where
  bare : AllBare s.gens
  base : ∀ b o, Y.base.get? b = some o → s.heap.get? b = some o
  baseB : ∀ b o, Y.base.get? b = some o → Bg b = none
  funs : s.heap.FunFrames Y.base Y.outer
  fsB : ∀ b ∈ Y.fs, Bg b = none
  hok : HOk Y.prog Y.w Bg s.heap
  pv : ∀ p ∈ pv, s.heap.get? p.1 = some p.2
/-- .. and of its own frame -/
structure FrOk (Y : Cx) (ip : List (Addr × Obj)) (σ : L2.St) (s : Shared) : Prop where
  loc : ∃ m, s.heap.Ns Y.env.locals m ∧ ∀ (i : Nat) (x : Str) (v : V), Y.N[i]? = some x → σ[i]? = some (some v) → Vis Y.env.scope x → ∃ u, RelV v u ∧ Look Y.env s.heap m x u
  ip : ∀ p ∈ ip, Y.env.locals ≤ p.1 ∧ p.1 ≠ Y.env.locals ∧ p.1 ∉ Y.fs ∧ ∀ v, p.2.data ≠ .cell v
  len : σ.length = Y.N.length
/-- Y is a context as a generator def's call makes it, without cells -/
structure GenCx (Y : Cx) : Prop where
  ok : Y.Ok
  cells : ∀ x, Y.env.cells.lookup x = none
  calm : Y.calm = true
section
variable {Y : Cx} {s s2 : Shared} {Bg : Hp} {ip : List (Addr × Obj)} {σ : L2.St} {oL : Obj}
theorem GenCx.fs (y : GenCx Y) : ∀ b ∈ Y.fs, b < Y.env.locals := fun b hb => by
  obtain ⟨_, o, ho, _⟩ := y.ok.funs.mem hb
  exact Nat.lt_of_lt_of_le (Heap.lt_size ho) y.ok.above
theorem GenCx.bsz (y : GenCx Y) : Y.base.objs.size ≤ Y.env.locals := Nat.le_trans y.ok.bsz y.ok.above
theorem funs_cut {h base : Heap} {n : Nat} : ∀ {l : List Env}, (∀ b ∈ frs l, b < n) → h.FunFrames base l → (cutH h n).FunFrames base l
  | [], _, _ => trivial
  | env :: r, hs, hl => by
    obtain ⟨hk, ⟨L, o, hf, hn, ho, hd⟩, hr⟩ := hl
    have hL : L < n := hs L (by unfold frs; rw [List.filterMap_cons, hf]; exact List.mem_cons_self)
    exact ⟨hk, ⟨L, o, hf, hn, (cutH_get hL).trans ho, hd⟩, funs_cut (fun b hb => hs b (by unfold frs; rw [List.filterMap_cons, hf]; exact List.mem_cons_of_mem _ hb)) hr⟩
/-- ENTERED ANEW: the consumer has left the generator's own things as they stood -/
theorem reenter (y : GenCx Y) (f : FrOk Y ip σ s) (hL : s.heap.get? Y.env.locals = some oL) (hw : WkOk Y s2 Bg ((Y.env.locals, oL) :: ip)) (hB : Bg Y.env.locals = none) (hi : ∀ p ∈ ip, Bg p.1 = none) :
    Inv (reC Y s2 (trkH Y s2 Bg ((Y.env.locals, oL) :: ip))) ip σ (trkH Y s2 Bg ((Y.env.locals, oL) :: ip)) s2 := by
  have hL2 : s2.heap.get? Y.env.locals = some oL := hw.pv _ List.mem_cons_self
  have hsz : (cutH s2.heap Y.env.locals).objs.size = Y.env.locals := cutH_size (Nat.le_of_lt (Heap.lt_size hL2))
  have hfs := y.fs
  have blt : ∀ b o, Y.base.get? b = some o → b < Y.env.locals := fun b o e => Nat.lt_of_lt_of_le (Heap.lt_size e) y.bsz
  have nb : ∀ b o, Y.base.get? b = some o → trkH Y s2 Bg ((Y.env.locals, oL) :: ip) b = none := fun b o e => trkH_none (hw.baseB b o e) (.inr (.inr (.inr ⟨o, e⟩)))
  have nf : ∀ b ∈ Y.fs, trkH Y s2 Bg ((Y.env.locals, oL) :: ip) b = none := fun b hb => trkH_none (hw.fsB b hb) (.inr (.inr (.inl hb)))
  have okX : (reC Y s2 (trkH Y s2 Bg ((Y.env.locals, oL) :: ip))).Ok :=
    { mod := y.ok.mod, kind := y.ok.kind, glob := y.ok.glob, blt := y.ok.blt
      above := Nat.le_of_eq hsz
      inj := y.ok.inj, has := y.ok.has
      cab := fun x c _ e => by
        have e' : Y.env.cells.lookup x = some c := e
        rw [y.cells] at e'
        cases e'
      hd := y.ok.hd, frames := y.ok.frames, stk := y.ok.stk
      exf := fun b hb => by cases hb
      bs := fun b o e => ⟨(cutH_get (blt b o e)).trans (hw.base b o e), nb b o e⟩
      bsz := by
        show Y.base.objs.size ≤ (cutH s2.heap Y.env.locals).objs.size
        rw [hsz]
        exact y.bsz
      noex := fun _ _ _ hb => by cases hb
      exfs := fun b hb => by cases hb
      funs := funs_cut hfs hw.funs
      frf := nf }
  obtain ⟨m, hn, hl⟩ := f.loc
  refine ⟨okX, rfl, hw.bare, Un.kept fun b u e => cutH_some e, ⟨m, ?_, fun i x v e1 e2 e3 => ?_⟩, fun x c e => ?_, ?_, fun x c e => ?_, fun p hp => ?_, fun b o e => ?_, f.len⟩
  · obtain ⟨o, es, ep, ho, r⟩ := hn
    rw [hL] at ho
    cases ho
    exact ⟨oL, es, ep, hL2, r⟩
  · obtain ⟨u, r, q⟩ := hl i x v e1 e2 e3
    refine ⟨u, r, ?_⟩
    rcases q with q | ⟨_, c, e, _⟩
    · exact .inl q
    · rw [y.cells] at e
      cases e
  · have e' : Y.env.cells.lookup x = some c := e
    rw [y.cells] at e'
    cases e'
  · exact trkH_none hB (.inr (.inl ⟨_, List.mem_cons_self, rfl⟩))
  · have e' : Y.env.cells.lookup x = some c := e
    rw [y.cells] at e'
    cases e'
  · have hp' : p ∈ ip := by
      rcases List.mem_append.mp hp with z | z
      · exact absurd (show p ∈ ([] : List (Addr × Obj)) from z) (by simp)
      · exact z
    obtain ⟨_, q1, q2, q3⟩ := f.ip p hp'
    exact ⟨hw.pv p (List.mem_cons_of_mem _ hp'), trkH_none (hi p hp') (.inr (.inl ⟨p, List.mem_cons_of_mem _ hp', rfl⟩)), q1, q2, q3⟩
  · rcases trkH_cases e with q | ⟨_, rfl, ob, q⟩
    · exact (hw.hok b o q).stay (fun _ _ _ z => z) (fun c z => trkH_same _ _ z) fun c xs z => trkH_same _ _ z
    · exact ⟨rfl, ⟨ob, q⟩, fun h1 h2 e1 e2 => by
        rw [q] at e1 ⊢
        exact e2 ob e1⟩
/-- the frame that sleeps holds plain data alone -/
def Sl.calm : Sl → Bool
  | .no => true
  | .im _ => true
  | _ => false
noncomputable abbrev Wq (Y : Cx) (s : Shared) (Bg : Hp) (pv : List (Addr × Obj)) : Wd := ⟨none, (0, []), Bg, trkH Y s Bg pv⟩
theorem relay {K : PySem.W.Frag} {W : Wd} {B H : Hp} {ρ : List Sl} {pv : List (Addr × Obj)} (L : Lay K W B H σ ρ) (hc : ρ.all Sl.calm = true) : Lay K (Wq Y s2 (simp' B) pv) (simp' B) (trkH Y s2 (simp' B) pv) σ ρ := by
  have hc' : ∀ sl ∈ ρ, Sl.calm sl = true := fun sl h => List.all_eq_true.mp hc sl h
  refine ⟨⟨trkH_same, Same.refl _, fun _ _ h => h, fun _ _ h _ => h, fun _ h => by cases h⟩, L.len, fun i sl e => ?_, fun i j s t _ e1 _ o1 _ => ?_⟩
  · have hs := hc' sl (List.mem_of_getElem? e)
    have q := L.at' i sl e
    cases sl with
    | no => trivial
    | im d => obtain ⟨v, h1, h2⟩ := q; exact ⟨v, h1, dq_simp _ _ h2⟩
    | _ => cases hs
  · have hs := hc' s (List.mem_of_getElem? e1)
    cases s <;> first | exact absurd hs Bool.false_ne_true | exact absurd o1 Bool.false_ne_true
end

/-! ### from a wake to the next yield, or to the end -/
structure Kpd (Y : Cx) (sw : Shared) (Bw : Hp) (pw : List (Addr × Obj)) (s : Shared) (Bg : Hp) (pv : List (Addr × Obj)) : Prop where
  os : s.os = sw.os
  bare : AllBare s.gens
  keep : ∀ b o, sw.heap.get? b = some o → Bw b = none → (∀ p ∈ pw, p.1 ≠ b) → b ∉ Y.fs → s.heap.get? b = some o
  slot : ∀ b o, sw.heap.get? b = some o → b ∈ Y.fs → ∃ sl, s.heap.get? b = some { o with slots := sl }
  free : ∀ b o, sw.heap.get? b = some o → Bw b = none → (∀ p ∈ pw, p.1 ≠ b) → Bg b = none
  same : Same Bw Bg
  smp : ∀ b o, Bg b = some o → Smp o
  hok : HOk Y.prog Y.w Bg s.heap
  pvs : ∀ p ∈ pv, Y.env.locals ≤ p.1 ∧ s.heap.get? p.1 = some p.2 ∧ (∀ v, p.2.data ≠ .cell v) ∧ Bg p.1 = none ∧ (sw.heap.get? p.1 = none ∨ ∃ q ∈ pw, q.1 = p.1)
/-- the consumer's word at the wake j, of its state and of what the generator has laid with it -/
abbrev CoP := Nat → Shared → Hp → List (Addr × Obj) → Prop
structure Rn (Y : Cx) (C : CoP) (j : Nat) (sw : Shared) (Bw : Hp) (pw : List (Addr × Obj)) (ip : List (Addr × Obj)) (σ : L2.St) (H : Hp) (s : Shared) : Prop where
  c : C j sw Bw pw
  inv : Inv (reC Y sw (trkH Y sw Bw pw)) ip σ H s
  ipn : ∀ p ∈ ip, Y.env.locals ≤ p.1
  smp : ∀ b o, Bw b = some o → Smp o
  sz : Y.env.locals ≤ sw.heap.objs.size
section
variable {Y : Cx} {C : CoP} {j : Nat} {sw s : Shared} {Bw B H : Hp} {pw ip : List (Addr × Obj)} {σ : L2.St} {ρ : List Sl}
theorem Rn.locals (R : Rn Y C j sw Bw pw ip σ H s) : ∃ oL, s.heap.get? Y.env.locals = some oL ∧ ∀ v, oL.data ≠ .cell v := by
  obtain ⟨m, ⟨o, es, ep, ho, hd, _⟩, _⟩ := R.inv.loc
  exact ⟨o, ho, fun v z => by rw [hd] at z; cases z⟩
theorem Rn.fr (R : Rn Y C j sw Bw pw ip σ H s) : FrOk Y ip σ s := by
  refine ⟨R.inv.loc, fun p hp => ?_, R.inv.len⟩
  obtain ⟨_, _, q1, q2, q3⟩ := R.inv.pin p (List.mem_append_right _ hp)
  exact ⟨R.ipn p hp, q1, q2, q3⟩
theorem Rn.kept (y : GenCx Y) (R : Rn Y C j sw Bw pw ip σ H s) (w : WkOk Y sw Bw pw) (L : Lay Y.K (Wq Y sw Bw pw) B H σ ρ) {oL : Obj} (hL : s.heap.get? Y.env.locals = some oL) (hd : ∀ v, oL.data ≠ .cell v) :
    Kpd Y sw Bw pw s (simp' B) ((Y.env.locals, oL) :: ip) := by
  have nT : ∀ b, (Wq Y sw Bw pw).T ≠ some b := fun b z => by cases z
  have blt : ∀ b o, Y.base.get? b = some o → b < Y.env.locals := fun b o e => Nat.lt_of_lt_of_le (Heap.lt_size e) y.bsz
  have ext : ∀ b o, sw.heap.get? b = some o → Bw b = none → (∀ p ∈ pw, p.1 ≠ b) → b ∉ Y.fs → Y.base.get? b = none → H b = some (.ext fun h => h.get? b = sw.heap.get? b) := fun b o e hB hp hf hb =>
    L.gr.keep b _ (trkH_ext hB e hp hf hb) (nT b)
  have hB0 : ∀ b, H b = none → simp' B b = none := fun b h => by
    have : B b = none := Same.free L.gr.sub h
    unfold simp'
    rw [this]
    rfl
  have free : ∀ b o, sw.heap.get? b = some o → Bw b = none → (∀ p ∈ pw, p.1 ≠ b) → simp' B b = none := fun b o e hB hp => by
    by_cases hf : b ∈ Y.fs
    · exact hB0 b (R.inv.base.free b o ((cutH_get (y.fs b hf)).trans e) (trkH_none (w.fsB b hf) (.inr (.inr (.inl hf)))) (by intro z; cases z))
    · cases hb : Y.base.get? b with
      | some o' => exact hB0 b (R.inv.bs b o' hb).2
      | none =>
        have : B b = none := L.gr.new b (by rw [show (Wq Y sw Bw pw).H0 b = _ from trkH_ext hB e hp hf hb]; exact fun z => by cases z) hB
        unfold simp'
        rw [this]
        rfl
  refine ⟨R.inv.os, R.inv.bare, fun b o e hB hp hf => ?_, fun b o e hf => ?_, free, fun b o e => ?_, fun b o e => (keepS_eq e).2, fun b o e => ?_, fun p hp => ?_⟩
  · cases hb : Y.base.get? b with
    | some o' =>
      have h1 := w.base b o' hb
      rw [e] at h1
      cases h1
      exact R.inv.bk b o hb
    | none =>
      obtain ⟨q, _⟩ := R.inv.hok b _ (ext b o e hB hp hf hb)
      have q' : s.heap.get? b = sw.heap.get? b := q
      rw [q', e]
  · exact R.inv.base.slot b o ((cutH_get (y.fs b hf)).trans e) (trkH_none (w.fsB b hf) (.inr (.inr (.inl hf)))) hf (by intro z; cases z)
  · exact simp_some (L.gr.base b o e) (R.smp b o e)
  · obtain ⟨e1, e2⟩ := keepS_eq e
    exact objOk_smp e2 (R.inv.hok b o (L.gr.sub b o e1))
  · have key : Y.env.locals ≤ p.1 ∧ s.heap.get? p.1 = some p.2 ∧ (∀ v, p.2.data ≠ .cell v) ∧ H p.1 = none := by
      rcases List.mem_cons.mp hp with rfl | hp
      · exact ⟨Nat.le_refl _, hL, hd, R.inv.free⟩
      · obtain ⟨h1, h2, h3, h4, h5⟩ := R.inv.pin p (List.mem_append_right _ hp)
        exact ⟨R.ipn p hp, h1, h5, h2⟩
    obtain ⟨h1, h2, h3, h4⟩ := key
    refine ⟨h1, h2, h3, hB0 _ h4, ?_⟩
    cases e : sw.heap.get? p.1 with
    | none => exact .inl rfl
    | some o =>
      refine .inr (Classical.byContradiction fun hq => ?_)
      have hB : Bw p.1 = none := by
        cases q : Bw p.1 with
        | none => rfl
        | some u =>
          have := L.gr.sub _ _ (L.gr.base _ _ q)
          rw [h4] at this
          cases this
      have hf : p.1 ∉ Y.fs := fun z => absurd (Nat.lt_of_lt_of_le (y.fs _ z) h1) (Nat.lt_irrefl _)
      have hb : Y.base.get? p.1 = none := by
        cases q : Y.base.get? p.1 with
        | none => rfl
        | some u => exact absurd (Nat.lt_of_lt_of_le (blt _ _ q) h1) (Nat.lt_irrefl _)
      have := ext p.1 o e hB (fun r hr z => hq ⟨r, hr, z⟩) hf hb
      rw [h4] at this
      cases this
end

/-! ### the judgement -/
section
variable (Y : Cx) (outs : List PyData) (C : CoP)
def Yq : Protocol := fun n _ v s kap => ∃ j sw Bw pw Bg pv x d, j + (n + 1) = sizeLine ∧ C j sw Bw pw ∧ outs[j]? = some d ∧ RelV x v ∧ Dq Y.K Bg x d ∧ Kpd Y sw Bw pw s Bg pv ∧ ∀ s', C (j + 1) s' Bg pv → kap (.send .none) s'
def Rq : GenEnd := fun n _ r s => r = .ok (.ret .none) ∧ ∃ sw Bw pw Bg, outs.length + n = sizeLine ∧ C outs.length sw Bw pw ∧ Kpd Y sw Bw pw s Bg []
/-- running, o is out, the frame is ρ -/
def Gst (ip : List (Addr × Obj)) (o : List PyData) (ρ : List Sl) (s : Shared) : Prop := ∃ sw Bw pw σ H B, Rn Y C o.length sw Bw pw ip σ H s ∧ Lay Y.K (Wq Y sw Bw pw) B H σ ρ
def GSq (ip : List (Addr × Obj)) (D : Gd) (o : List PyData) (f : Flow) (s : Shared) : Prop :=
  match f with
  | .next => ∃ ρ, Gst Y C ip o ρ s ∧ D.nx o ρ
  | .brk => ∃ ρ, Gst Y C ip o ρ s ∧ D.bk o ρ
  | .cont => ∃ ρ, Gst Y C ip o ρ s ∧ D.ct o ρ
  | .ret _ => False
structure GCq (Ab : Around) (c : Code) (fs : List Frame) (gd : Bool → Bool) : Prop where
  over : Ab.over c fs = Y.A
  split : splitAtGen fs = none
  guard : fs.any Frame.guarded = false
  gd : gd false = false
  wk : ∀ j s Bg pv, C j s Bg pv → WkOk Y s Bg pv
  y : GenCx Y
def GKq (Ab : Around) (ip : List (Addr × Obj)) (c : Code) (fs : List Frame) (K : Flow → Sem PySem.Fin) (D : Gd) : Prop :=
  ∀ (n : Nat) (o : List PyData) (s₀ s : Shared) (f : Flow), n + o.length = sizeLine → GSq Y C ip D o f s → Seg (model Y.prog Y.w) Ab (Rq Y outs C) (Yq Y outs C) n s₀ c (K f) fs s
structure Gq (st : Stmt) (o : List PyData) (ρ : List Sl) (D : Gd) : Prop where
  run : ∀ (Ab : Around) (ip : List (Addr × Obj)) (n : Nat) (s₀ : Shared) (c : Code) (fs : List Frame) (K : Flow → Sem PySem.Fin) (J : Value → Sem PySem.Fin) (gd : Bool → Bool) (lv : List Value → List Value) (s : Shared),
    GCq Y C Ab c fs gd → n + o.length = sizeLine → GKq Y outs C Ab ip c fs K D → Gst Y C ip o ρ s →
    Seg (model Y.prog Y.w) Ab (Rq Y outs C) (Yq Y outs C) n s₀ c ((exec st Y.env).wrap K J gd lv) fs s
structure Gqs (st : List Stmt) (o : List PyData) (ρ : List Sl) (D : Gd) : Prop where
  run : ∀ (Ab : Around) (ip : List (Addr × Obj)) (n : Nat) (s₀ : Shared) (c : Code) (fs : List Frame) (K : Flow → Sem PySem.Fin) (J : Value → Sem PySem.Fin) (gd : Bool → Bool) (lv : List Value → List Value) (s : Shared),
    GCq Y C Ab c fs gd → n + o.length = sizeLine → GKq Y outs C Ab ip c fs K D → Gst Y C ip o ρ s →
    Seg (model Y.prog Y.w) Ab (Rq Y outs C) (Yq Y outs C) n s₀ c ((execs st Y.env).wrap K J gd lv) fs s
end
section
variable {Y : Cx} {outs : List PyData} {C : CoP} {o : List PyData} {ρ : List Sl} {D D' : Gd} {pos : Pos} {c e : Expr} {st : Stmt} {sts body : List Stmt}
theorem GSq.weak {ip : List (Addr × Obj)} {f : Flow} {s : Shared} (h : GSq Y C ip D o f s) (n : ∀ o r, D.nx o r → D'.nx o r) (b : ∀ o r, D.bk o r → D'.bk o r) (k : ∀ o r, D.ct o r → D'.ct o r) : GSq Y C ip D' o f s := by
  cases f with
  | next => obtain ⟨ρ, g, q⟩ := h; exact ⟨ρ, g, n _ _ q⟩
  | brk => obtain ⟨ρ, g, q⟩ := h; exact ⟨ρ, g, b _ _ q⟩
  | cont => obtain ⟨ρ, g, q⟩ := h; exact ⟨ρ, g, k _ _ q⟩
  | ret u => exact h
theorem Gq.weak (h : Gq Y outs C st o ρ D) (n : ∀ o r, D.nx o r → D'.nx o r) (b : ∀ o r, D.bk o r → D'.bk o r) (k : ∀ o r, D.ct o r → D'.ct o r) : Gq Y outs C st o ρ D' :=
  ⟨fun Ab ip m s₀ cd fs K J gd lv s g hn kk hG => h.run Ab ip m s₀ cd fs K J gd lv s g hn (fun m' o' s₀' s' f hn' hs => kk m' o' s₀' s' f hn' (hs.weak n b k)) hG⟩
/-- a statement that hands out nothing -/
theorem gq_plain (h : ∀ s0 H0 W, Es (reC Y s0 H0) W st ρ { nx := D.nx o, rt := fun _ => False, bk := D.bk o, ct := D.ct o }) : Gq Y outs C st o ρ D := by
  refine ⟨fun Ab ip n s₀ cd fs K J gd lv s g hn k hG => ?_⟩
  obtain ⟨sw, Bw, pw, σ, H, B, R, L⟩ := hG
  refine seg_wrap ?_
  rw [g.over]
  refine wpAny_mono ((h sw (trkH Y sw Bw pw) (Wq Y sw Bw pw)).run σ H B L ip s R.inv) (fun f s' hs => k n o s₀ s' f hn ?_) fun x s' hx => False.elim hx
  have back : ∀ {σ' : L2.St} {H' B' : Hp} {ρ' : List Sl}, Inv (reC Y sw (trkH Y sw Bw pw)) ip σ' H' s' → Lay Y.K (Wq Y sw Bw pw) B' H' σ' ρ' → Gst Y C ip o ρ' s' := fun I' L' => ⟨sw, Bw, pw, _, _, _, ⟨R.c, I', R.ipn, R.smp, R.sz⟩, L'⟩
  cases f with
  | next => obtain ⟨σ', H', I', B', ρ', _, L', q⟩ := hs; exact ⟨ρ', back I' L', q⟩
  | brk => obtain ⟨σ', H', I', B', ρ', _, L', q⟩ := hs; exact ⟨ρ', back I' L', q⟩
  | cont => obtain ⟨σ', H', I', B', ρ', _, L', q⟩ := hs; exact ⟨ρ', back I' L', q⟩
  | ret u => obtain ⟨v, σ', H', I', r, B', d, _, _, q⟩ := hs; exact q
theorem gq_if (h : ∀ s0 H0 W, Et (reC Y s0 H0) W c ρ fun k => (k = true → Gqs Y outs C body o ρ D) ∧ (k = false → Gqs Y outs C sts o ρ D)) : Gq Y outs C (.If c body sts pos) o ρ D := by
  refine ⟨fun Ab ip n s₀ cd fs K J gd lv s g hn k hG => ?_⟩
  obtain ⟨sw, Bw, pw, σ, H, B, R, L⟩ := hG
  refine seg_If ?_
  rw [g.over]
  refine wpAny_mono ((h sw (trkH Y sw Bw pw) (Wq Y sw Bw pw)).run σ H B (fun b H1 => ∃ B1, Lay Y.K (Wq Y sw Bw pw) B1 H1 σ ρ ∧ ((b = true → Gqs Y outs C body o ρ D) ∧ (b = false → Gqs Y outs C sts o ρ D))) L (fun b H1 B1 _ L1 q => ⟨B1, L1, q⟩) ip s R.inv) (fun b s' hb => ?_) fun x s' hx => False.elim hx
  obtain ⟨H1, I1, B1, L1, q1, q2⟩ := hb
  have G1 : Gst Y C ip o ρ s' := ⟨sw, Bw, pw, σ, H1, B1, ⟨R.c, I1, R.ipn, R.smp, R.sz⟩, L1⟩
  cases b with
  | true =>
    rw [if_pos rfl]
    exact (q1 rfl).run Ab ip n s₀ cd fs K J gd lv s' g hn k G1
  | false =>
    rw [if_neg Bool.false_ne_true]
    exact (q2 rfl).run Ab ip n s₀ cd fs K J gd lv s' g hn k G1
theorem gqs_nil (h : D.nx o ρ) : Gqs Y outs C [] o ρ D := ⟨fun Ab ip n s₀ cd fs K J gd lv s g hn k hG => seg_execs_nil (k n o s₀ s .next hn ⟨ρ, hG, h⟩)⟩
theorem gqs_cons (h : Gq Y outs C st o ρ { D with nx := fun o r => Gqs Y outs C sts o r D }) : Gqs Y outs C (st :: sts) o ρ D := by
  refine ⟨fun Ab ip n s₀ cd fs K J gd lv s g hn k hG => seg_execs_cons (h.run Ab ip n s₀ cd fs _ J gd lv s g hn (fun n' o' s₀' s' f hn' hs => ?_) hG)⟩
  cases f with
  | next => obtain ⟨ρ', G', q⟩ := hs; exact q.run Ab ip n' s₀' cd fs K J gd lv s' g hn' k G'
  | brk => exact k n' o' s₀' s' .brk hn' hs
  | cont => exact k n' o' s₀' s' .cont hn' hs
  | ret u => exact False.elim hs
theorem gqs_one (h : Gq Y outs C st o ρ D) : Gqs Y outs C [st] o ρ D := gqs_cons (h.weak (fun _ _ q => gqs_nil q) (fun _ _ q => q) fun _ _ q => q)
theorem gqs_plain (h : ∀ s0 H0 W, Es (reC Y s0 H0) W st ρ { nx := fun r => Gqs Y outs C sts o r D, rt := fun _ => False, bk := D.bk o, ct := D.ct o }) : Gqs Y outs C (st :: sts) o ρ D := gqs_cons (gq_plain h)
theorem gqs_cut (Mid : List PyData → List Sl → Prop) (h : Gq Y outs C st o ρ { D with nx := Mid }) (h2 : ∀ o r, Mid o r → Gqs Y outs C sts o r D) : Gqs Y outs C (st :: sts) o ρ D :=
  gqs_cons (h.weak h2 (fun _ _ q => q) fun _ _ q => q)
theorem gq_yield {yp : Pos} (h : ∀ s0 H0 W, Ev (reC Y s0 H0) W e ρ fun d => (∃ t, outs = o ++ d :: t) ∧ D.nx (o ++ [d]) ρ) (hlt : o.length < sizeLine) (hc : ρ.all Sl.calm = true) (hco : Y.env.scope.isCoroutine = false := by rfl) (hi : interactive Y.env = false := by rfl) :
    Gq Y outs C (.Expr (.Yield (some e) yp) pos) o ρ D := by
  refine ⟨fun Ab ip n s₀ cd fs K J gd lv s g hn k hG => ?_⟩
  obtain ⟨sw, Bw, pw, σ, H, B, R, L⟩ := hG
  obtain ⟨n, rfl⟩ : ∃ m, n = m + 1 := ⟨n - 1, by omega⟩
  refine seg_Expr_Yield g.split g.gd g.guard ?_ hco hi
  rw [g.over]
  refine wpAny_mono ((h sw (trkH Y sw Bw pw) (Wq Y sw Bw pw)).run σ H B (fun x H1 => ∃ B1 d, Lay Y.K (Wq Y sw Bw pw) B1 H1 σ ρ ∧ Dq Y.K B1 x d ∧ (∃ t, outs = o ++ d :: t) ∧ D.nx (o ++ [d]) ρ) L (fun x H1 B1 d _ L1 D1 q => ⟨B1, d, L1, D1, q⟩) ip s R.inv) (fun v s' hv => ?_) fun x s' hx => False.elim hx
  obtain ⟨x, H1, I1, rv, B1, d, L1, D1, ⟨t, ht⟩, hnx⟩ := hv
  intro kap hk
  have R1 : Rn Y C o.length sw Bw pw ip σ H1 s' := ⟨R.c, I1, R.ipn, R.smp, R.sz⟩
  obtain ⟨oL, hL, hd⟩ := R1.locals
  have kp := R1.kept g.y (g.wk _ _ _ _ R.c) L1 hL hd
  refine ⟨o.length, sw, Bw, pw, simp' B1, (Y.env.locals, oL) :: ip, x, d, by omega, R.c, ?_, rv, dq_simp _ _ D1, kp, fun s2 hc2 => hk .none s2 ?_⟩
  · rw [ht]
    simp
  · have I2 := reenter g.y R1.fr hL (g.wk _ _ _ _ hc2) (kp.pvs _ List.mem_cons_self).2.2.2.1 fun p hp => (kp.pvs p (List.mem_cons_of_mem _ hp)).2.2.2.1
    refine k n (o ++ [d]) s2 s2 .next (by rw [List.length_append, List.length_singleton]; omega) ⟨ρ, ⟨s2, simp' B1, _, σ, _, _, ⟨?_, I2, R.ipn, kp.smp, ?_⟩, relay L1 hc⟩, hnx⟩
    · rw [List.length_append, List.length_singleton]
      exact hc2
    · exact Nat.le_of_lt (Heap.lt_size ((g.wk _ _ _ _ hc2).pv _ List.mem_cons_self))
end
end Z

namespace Z
open PySem PySem.Spec PyProof.Rows L2 GenW
/-! ### for, over a range -/
/-- what is walked hangs on no object -/
structure Eir (X : Cx) (W : Wd) (tg iter : Expr) (ρ : List Sl) (R : List PyData → Prop) : Prop where
  run : ∀ (σ : L2.St) (H B : Hp) (Q : It → Hp → Prop), Lay X.K W B H σ ρ → (∀ J H' B' ds, Lay X.K W B' H' σ ρ → (∀ B2, WalkZ X.K J ds B2) → R ds → Q J H') → iW X tg iter σ H Q
section
variable {X : Cx} {W : Wd} {ρ : List Sl} {pos : Pos} {a b c : Expr}
theorem eir_range1 {tg : Expr} {p : Pos} {R : List PyData → Prop} (hm : X.mg "range" = none) (h : Ev X W a ρ fun d => match d with | .int j => -(2 ^ 62) ≤ j ∧ j < 2 ^ 62 ∧ R (rngD 0 j.toNat) | _ => False) (hg : Gl X "range" := by rfl)
    (hs : starEach [a] X.env = [(false, eval a X.env)] := by rfl) : Eir X W tg (.Call (.Name "range" p) [a] [] pos) ρ R := by
  refine ⟨fun σ H B Q L k => (pi_range1 hg hm (pa_cons pe_w pa_nil hs) hs).toZ ?_⟩
  refine h.run σ H B _ L fun v H1 B1 d _ L1 D1 h2 => ?_
  cases d <;> first | exact h2.elim | skip
  rename_i j
  cases dp_int D1
  exact ⟨j, rfl, h2.1, h2.2.1, k _ H1 B1 _ L1 (fun _ => walk_rng) h2.2.2⟩
theorem eir_range3 {tg : Expr} {p : Pos} {R : List PyData → Prop} (hm : X.mg "range" = none)
    (h : Ea X W [a, b, c] ρ fun ds => match ds with | [.int i, .int j, .int k] => (0 ≤ i ∧ i ≤ 2 ^ 40 ∧ 0 ≤ j ∧ j ≤ 2 ^ 40 ∧ 0 < k ∧ k ≤ 1000000) ∧ R (rng3D i k (rgN i j k)) | _ => False) (hg : Gl X "range" := by rfl)
    (hs : starEach [a, b, c] X.env = (false, eval a X.env) :: starEach [b, c] X.env := by rfl) (hpl : (backTo pos (starEach [b, c] X.env)).any (·.1) = false := by rfl) : Eir X W tg (.Call (.Name "range" p) [a, b, c] [] pos) ρ R := by
  refine ⟨fun σ H B Q L k => (pi_range3 hg hm pa_w hs hpl).toZ ?_⟩
  refine h.run σ H B _ L fun vs H1 B1 ds _ L1 D1 h2 => ?_
  match ds, D1, h2 with
  | [.int i, .int j, .int l], .cons d1 (.cons d2 (.cons d3 .nil)), ⟨⟨h1, h2, h3, h4, h5, h6⟩, h7⟩ =>
    cases dp_int d1
    cases dp_int d2
    cases dp_int d3
    exact ⟨i, j, l, _, rfl, rgC_up h1 h2 h3 h4 h5 h6, k _ H1 B1 _ L1 (fun _ => walk_rng3) h7⟩
end
section
variable {Y : Cx} {outs : List PyData} {C : CoP} {o : List PyData} {ρ : List Sl} {D D' : Gd} {pos : Pos} {c e : Expr} {st : Stmt} {sts body : List Stmt}
theorem GCq.loop {Ab : Around} {cd c' : Code} {fs : List Frame} {gd : Bool → Bool} {k : Result → Sem PySem.Fin} {l kp : List Value} {p : Pos} (g : GCq Y C Ab cd fs gd) (hw : c'.weight = 0) (hu : c'.cUnits = 0) :
    GCq Y C Ab c' (.ret k none (gd false) l cd p kp :: fs) id :=
  { over := (over_loop hw hu).trans g.over
    split := by
      show Option.map _ (splitAtGen fs) = none
      rw [g.split]
      rfl
    guard := by
      show (gd false || List.any fs Frame.guarded) = false
      rw [g.gd, g.guard]
      rfl
    gd := rfl
    wk := g.wk
    y := g.y }
theorem cut_le {h : Heap} {n : Nat} : (cutH h n).objs.size ≤ n := by
  show (h.objs.extract 0 n).size ≤ n
  simp
  omega
theorem gq_for {tg iter : Expr} (h : ∀ s0 H0 W, Eir (reC Y s0 H0) W tg iter ρ fun ds => ∃ P : Nat → List PyData → List Sl → Prop, P 0 o ρ ∧
      (∀ i d o1 ρ1, ds[i]? = some d → P i o1 ρ1 → ∀ s1 H1 W1, Tg (reC Y s1 H1) W1 tg d ρ1 fun ρ2 => Gqs Y outs C body o1 ρ2 { nx := P (i + 1), bk := D.nx, ct := P (i + 1) }) ∧ ∀ o1 ρ1, P ds.length o1 ρ1 → D.nx o1 ρ1)
    (hs : ∀ x, foldedSetIterable iter Y.env x = pure x := by intro _; rfl) : Gq Y outs C (.For tg iter body [] pos) o ρ D := by
  refine ⟨fun Ab ip n s₀ cd fs K J gd lv s g hn k hG => ?_⟩
  obtain ⟨sw, Bw, pw, σ, H, B, R, L⟩ := hG
  refine seg_For hs ?_
  rw [g.over]
  have hi := (h sw (trkH Y sw Bw pw) (Wq Y sw Bw pw)).run σ H B (fun J' H1 => ∃ B1 ds, Lay Y.K (Wq Y sw Bw pw) B1 H1 σ ρ ∧ (∀ B2, WalkZ Y.K J' ds B2) ∧ ∃ P : Nat → List PyData → List Sl → Prop, P 0 o ρ ∧
      (∀ i d o1 ρ1, ds[i]? = some d → P i o1 ρ1 → ∀ s1 H1 W1, Tg (reC Y s1 H1) W1 tg d ρ1 fun ρ2 => Gqs Y outs C body o1 ρ2 { nx := P (i + 1), bk := D.nx, ct := P (i + 1) }) ∧ ∀ o1 ρ1, P ds.length o1 ρ1 → D.nx o1 ρ1) L
      (fun J' H1 B1 ds L1 wk q => ⟨B1, ds, L1, wk, q⟩) ip s R.inv
  refine wpAny_mono hi (fun v s1 h1 => wpAny_mono h1 (fun itv s2 h2 p => ?_) fun x s' hx => False.elim hx) fun x s' hx => False.elim hx
  obtain ⟨it, fp, tn, J', H2, e, I2, T, st2, f2, B1, ds, L1, wk, P, p0, turn, fin⟩ := h2
  subst e
  have gl := fun (kk : Result → Sem PySem.Fin) => GCq.loop (k := kk) (c' := .forLoop tg (.ref it) body [] Y.env) (l := lv []) (kp := []) (p := p) g rfl rfl
  have hsz0 : (cutH sw.heap Y.env.locals).objs.size = Y.env.locals := cutH_size R.sz
  have hfp : ∀ b ∈ fp, b ≠ Y.env.locals ∧ b ∉ Y.fs ∧ Y.env.locals ≤ b ∧ ∀ q ∈ ip, q.1 ≠ b := fun b hb => by
    obtain ⟨_, q1, q2, q3, _, q5⟩ := f2 b hb
    refine ⟨q1, q2, ?_, fun q hq => q5 q (List.mem_append_right _ hq)⟩
    rcases q3 with z | z
    · cases z
    · have z' : (cutH sw.heap Y.env.locals).objs.size ≤ b := z
      rw [hsz0] at z'
      exact z'
  have stat : ∀ {s' : Shared} {Hx H' : Hp}, (∀ b ∈ fp, H' b = none) → ∀ b ∈ fp, FpOk (reC Y s' Hx) ip H' b := fun {s' Hx H'} hz b hb => by
    obtain ⟨q1, q2, q3, q4⟩ := hfp b hb
    refine ⟨hz b hb, q1, q2, .inr (Nat.le_trans cut_le q3), fun x cc e => ?_, fun q hq => ?_⟩
    · have e' : Y.env.cells.lookup x = some cc := e
      rw [g.y.cells] at e'
      cases e'
    · rcases List.mem_append.mp hq with z | z
      · exact absurd (show q ∈ ([] : List (Addr × Obj)) from z) (by simp)
      · exact q4 q z
  have loop : ∀ (m i n : Nat) (o1 : List PyData) (ρ1 : List Sl) (s₀ s : Shared), m = ds.length - i → i ≤ ds.length → n + o1.length = sizeLine → P i o1 ρ1 →
      (∃ sw Bw pw σ H B, Rn Y C o1.length sw Bw pw ip σ H s ∧ Lay Y.K (Wq Y sw Bw pw) B H σ ρ1 ∧ ∀ b ∈ fp, H b = none) → tn i s.heap →
      Seg (model Y.prog Y.w) Ab (Rq Y outs C) (Yq Y outs C) n s₀ (.forLoop tg (.ref it) body [] Y.env) ((model Y.prog Y.w).den (.forLoop tg (.ref it) body [] Y.env))
        (.ret (fun r => ((match r with | .ok f => (.pure f : Sem Flow) | .error e => .raise e).onRaise (cameBack Y.env)).wrap K J gd lv) none (gd false) (lv []) cd p [] :: fs) s := by
    intro m
    induction m with
    | zero =>
      intro i n o1 ρ1 s₀ s hm hile hn' hP hS stn
      have hi' : i = ds.length := by omega
      subst hi'
      obtain ⟨sw, Bw, pw, σ, H, B, R, L, hfr⟩ := hS
      refine seg_forLoop ?_
      rw [(gl _).over]
      refine wpAny_mono (T.done (reC Y sw (trkH Y sw Bw pw)) rfl rfl rfl g.y.calm ds.length ip s σ H (fun _ _ => False) R.inv (stat hfr) stn ((wk B).stop B H (Same.refl _) L.gr.sub)) (fun r' s4 hr => ?_) fun x s' hx => False.elim hx
      obtain ⟨hr, I4⟩ := hr
      subst hr
      exact seg_leaf (.ok .next) (k n o1 s₀ s4 .next hn' ⟨ρ1, ⟨sw, Bw, pw, σ, H, B, ⟨R.c, I4, R.ipn, R.smp, R.sz⟩, L⟩, fin o1 ρ1 hP⟩)
    | succ m ih =>
      intro i n o1 ρ1 s₀ s hm hile hn' hP hS stn
      have hlt : i < ds.length := by omega
      obtain ⟨sw, Bw, pw, σ, H, B, R, L, hfr⟩ := hS
      refine seg_forLoop ?_
      rw [(gl _).over]
      refine wpAny_mono (T.item (reC Y sw (trkH Y sw Bw pw)) rfl rfl rfl g.y.calm i ip s σ H (fun _ _ => False) R.inv (stat hfr) stn ((wk B).go i B H (Same.refl _) L.gr.sub hlt)) (fun r' s4 hr => ?_) fun x s' hx => False.elim hx
      obtain ⟨u, hr, h4⟩ := hr
      subst hr
      refine wpAny_mono h4 (fun _ s5 h5 => ?_) fun x s' hx => False.elim hx
      obtain ⟨x, H5, I5, r5, y5, st5, fr5⟩ := h5
      have I5' := I5.pinned (stat fr5) (T.obj _ _ st5)
      obtain ⟨d, B5, hd, s5B, L5, Dx, _⟩ := (wk B).yld i B H x H5 (Wq Y sw Bw pw) σ ρ1 (Same.refl _) L y5 hlt
      have tgt := (turn i d o1 ρ1 hd hP sw (trkH Y sw Bw pw) (Wq Y sw Bw pw)).run x σ H5 B5 (fun σ6 H6 => ∃ B6 ρ6, Lay Y.K (Wq Y sw Bw pw) B6 H6 σ6 ρ6 ∧ Gqs Y outs C body o1 ρ6 { nx := P (i + 1), bk := D.nx, ct := P (i + 1) }) L5 Dx fun σ6 H6 B6 ρ6 _ L6 q => ⟨B6, ρ6, L6, q⟩
      refine wpAny_mono (tgt (ip ++ pinsAt fp s5.heap) s5 u I5' r5) (fun _ s6 h6 => ?_) fun x s' hx => False.elim hx
      obtain ⟨σ6, H6, I6, B6, ρ6, L6, hb⟩ := h6
      have ipn6 : ∀ q ∈ ip ++ pinsAt fp s5.heap, Y.env.locals ≤ q.1 := fun q hq => by
        rcases List.mem_append.mp hq with hq | hq
        · exact R.ipn q hq
        · exact (hfp q.1 (of_pinsAt hq).1).2.2.1
      refine hb.run Ab (ip ++ pinsAt fp s5.heap) n s₀ _ _ _ _ id id s6 (gl _) hn' (fun n' o' s₀' s3 f hn3 hs' => ?_) ⟨sw, Bw, pw, σ6, H6, B6, ⟨R.c, I6, ipn6, R.smp, R.sz⟩, L6⟩
      have unpin : ∀ {o' : List PyData} {ρ' : List Sl}, Gst Y C (ip ++ pinsAt fp s5.heap) o' ρ' s3 → (∃ sw Bw pw σ H B, Rn Y C o'.length sw Bw pw ip σ H s3 ∧ Lay Y.K (Wq Y sw Bw pw) B H σ ρ' ∧ ∀ b ∈ fp, H b = none) ∧ tn (i + 1) s3.heap := fun {o' ρ'} ⟨sw7, Bw7, pw7, σ7, H7, B7, R7, L7⟩ => by
        have pin7 : ∀ b ∈ fp, ∀ ob, s5.heap.get? b = some ob → s3.heap.get? b = some ob ∧ H7 b = none := fun b hb ob e => by
          have := R7.inv.pin (b, ob) (List.mem_append_right _ (List.mem_append_right _ (mem_pinsAt hb e)))
          exact ⟨this.1, this.2.1⟩
        refine ⟨⟨sw7, Bw7, pw7, σ7, H7, B7, ⟨R7.c, R7.inv.unpinned, fun q hq => R7.ipn q (List.mem_append_left _ hq), R7.smp, R7.sz⟩, L7, fun b hb => ?_⟩, T.keep _ _ _ st5 fun b hb ob e => (pin7 b hb ob e).1⟩
        obtain ⟨ob, e, _⟩ := T.obj _ _ st5 b hb
        exact (pin7 b hb ob e).2
      cases f with
      | next =>
        obtain ⟨ρ', G', q⟩ := hs'
        obtain ⟨q1, q2⟩ := unpin G'
        exact seg_again rfl (ih (i + 1) n' o' ρ' s₀' s3 (by omega) (by omega) hn3 q q1 q2)
      | cont =>
        obtain ⟨ρ', G', q⟩ := hs'
        obtain ⟨q1, q2⟩ := unpin G'
        exact seg_again rfl (ih (i + 1) n' o' ρ' s₀' s3 (by omega) (by omega) hn3 q q1 q2)
      | brk =>
        obtain ⟨ρ', G', q⟩ := hs'
        obtain ⟨⟨sw7, Bw7, pw7, σ7, H7, B7, R7, L7, _⟩, _⟩ := unpin G'
        exact seg_leaf (.ok .next) (k n' o' s₀' s3 .next hn3 ⟨ρ', ⟨sw7, Bw7, pw7, σ7, H7, B7, R7, L7⟩, q⟩)
      | ret v => exact False.elim hs'
  exact loop (ds.length - 0) 0 n o ρ s₀ s2 rfl (Nat.zero_le _) hn p0 ⟨sw, Bw, pw, σ, H2, B1, ⟨R.c, I2, R.ipn, R.smp, R.sz⟩, L1, fun b hb => (f2 b hb).1⟩ st2
end
end Z

namespace Z
open PySem PySem.Spec PyProof.Rows L2 GenW
/-! ### a generator def whose items are known ahead -/
abbrev GYx (P : Program) (w : World) (K : PySem.W.Frag) (mg : Str → Option Value) (base : Heap) (N : List Str) (qual : Str) (sc : Scope) (f : Addr) (cdv : Value) (A : Around) (outer : List Env) (s : Shared) (H : Hp) : Cx := gcxOf P w K mg base N qual sc f cdv A outer s H E0 []
/-- what the call gives -/
def GMdR (P : Program) (w : World) (K : PySem.W.Frag) (mg : Str → Option Value) (base : Heap) (k : Nat) (outer : List Env) (outs : List PyData) (Bw : Hp) (s : Shared) (H : Hp) (u : Value) (s' : Shared) : Prop :=
  ∃ (a : Addr) (g : Nat) (cd : Code) (oL : Obj) (N : List Str) (qual : Str) (sc : Scope) (f : Addr) (cdv : Value), u = .ref a ∧ s.heap.objs.size < a ∧ a < s'.heap.objs.size ∧ s'.heap.IsGen a g ∧ s'.gens[g]? = some (.fresh cd) ∧ s'.os = s.os ∧ AllBare s'.gens ∧
    (∀ b o, s.heap.get? b = some o → s'.heap.get? b = some o) ∧ s'.heap.get? s.heap.objs.size = some oL ∧ (∀ v, oL.data ≠ .cell v) ∧
    ∀ (A : Around), Room k A → A.frames = some outer → ∀ (C : CoP) (s2 : Shared), (∀ j s1 Bg pv, C j s1 Bg pv → WkOk (GYx P w K mg base N qual sc f cdv A outer s H) s1 Bg pv) → C 0 s2 Bw [(s.heap.objs.size, oL)] →
      Seg (model P w) A (Rq (GYx P w K mg base N qual sc f cdv A outer s H) outs C) (Yq (GYx P w K mg base N qual sc f cdv A outer s H) outs C) sizeLine s2 cd ((model P w).den cd) [] s2
structure GFnR (P : Program) (w : World) (K : PySem.W.Frag) (mg : Str → Option Value) (base : Heap) (k : Nat) (f : Addr) (fd : FuncData) (ps : List Str) (P' : List PyData → List PyData → Prop) : Prop where
  len : ∀ ds outs, P' ds outs → ds.length = ps.length
  few : ∀ ds outs, P' ds outs → outs.length < sizeLine
  run : ∀ (A : Around) (outer : List Env) (s : Shared) (H B : Hp) (args : Args) (us : List Value) (vs : List V) (ds outs : List PyData), Room k A → Env0 P w K mg base A outer s H → BindsTo s fd args (ps.zip us) → Vals vs us → Same B H → DqAll K B vs ds → P' ds outs →
    codeAny (model P w) A (.call (.ref f) args) (fun r s' => match r with | .ok (.ret u) => GMdR P w K mg base k outer outs (simp' B) s H u s' | _ => False) s
theorem start_calm {N : List Str} {ds : List PyData} : (startZ N ds).all Sl.calm = true := by
  unfold startZ
  rw [List.all_append, Bool.and_eq_true, List.all_eq_true, List.all_eq_true]
  refine ⟨fun x hx => ?_, fun x hx => ?_⟩
  · obtain ⟨d, _, rfl⟩ := List.mem_map.mp hx
    rfl
  · rw [(List.mem_replicate.mp hx).2]
    rfl
section
variable {P : Program} {w : World} {K : PySem.W.Frag} {mg : Str → Option Value} {base : Heap}
theorem fn_conR {x qual : Str} {st : Stmt} {f : Addr} {fd : FuncData} {N ps : List Str} {k : Nat} {P' : List PyData → List PyData → Prop} (F : Fun K x qual st f fd) (S : GScope N ps (defScope st)) (hcl : ∀ n, cellsFrom n (defScope st).names [] = [])
    (len : ∀ ds outs, P' ds outs → ds.length = ps.length) (few : ∀ ds outs, P' ds outs → outs.length < sizeLine)
    (body : ∀ (cdv : Value) (A : Around) (outer : List Env) (s : Shared) (H : Hp) (C : CoP) (ds outs : List PyData), Room k (GYx P w K mg base N qual (defScope st) f cdv A outer s H).A → P' ds outs →
      Gqs (GYx P w K mg base N qual (defScope st) f cdv A outer s H) outs C (defBody st) [] (startZ N ds) { nx := fun o _ => o = outs }) : GFnR P w K mg base (k + 1) f fd ps P' := by
  obtain ⟨oc, od, kV, doc, pm, an, cdv, ct, osl, rfl, lk, hcd⟩ := F.ex
  refine ⟨len, few, fun A outer s H B args us vs ds outs hr e0 hb r sB Dv hp => ?_⟩
  have hl : vs.length = ps.length := (dpAll_len Dv).trans (len ds outs hp)
  have KX : K.In s.heap := e0.mod.kin.keeps fun b o e => (e0.bs b o e).1
  have lim : s.heap.NoLimit := e0.mod.nolimit.keeps fun b o e => (e0.bs b o e).1
  refine codeAny_call_generator hr.depth (KX _ _ lk) rfl S.co S.gen rfl (PySem.W.codeRec_of KX hcd) (hb _ _ _ _ ?_)
  refine wpAny_newFunctionEnv_cells S.kind (fun ⟨n, v⟩ hy => ?_) fun env he s1 x => ?_
  · rcases S.par n (List.of_mem_zip hy).1 with q | q
    · exact .inl q
    · exact .inr ⟨q, PySem.W.cellsFrom_some _ _ _ (.inl q)⟩
  subst he
  refine ⟨lim.keeps x.toInCall.keep, ?_⟩
  have I1 : Inv (GYx P w K mg base N qual (defScope st) f cdv A outer s H) [] (L2.start N vs) H s1 := inv_startG S hr.hd e0 hl r x
  have kp1 : ∀ b o, s.heap.get? b = some o → s1.heap.get? b = some o := x.toInCall.keep
  obtain ⟨h1, tk, es1, _⟩ := x.done
  obtain ⟨oL, hL, hdL⟩ : ∃ oL, s1.heap.get? s.heap.objs.size = some oL ∧ ∀ v, oL.data ≠ .cell v := by
    obtain ⟨m, ⟨o, es, ep, ho, hd, _⟩, _⟩ := I1.loc
    exact ⟨o, ho, fun v z => by rw [hd] at z; cases z⟩
  have main : ∀ (go : Obj) (tk2 : Nat), (∃ nm qn, go.cls = .type "generator" ∧ go.data = .fields #[.int s1.gens.size 0, nm, qn] ∧ go.slots = #[]) → (∀ h : Heap, (h.push go).get? h.objs.size = some go) →
      GMdR P w K mg base (k + 1) outer outs (simp' B) s H (.ref s1.heap.objs.size) { s1 with gens := s1.gens.push (.fresh (.func (defBody st) (envOfC qual (defScope st) s.heap.objs.size f cdv))), toks := tk2, heap := s1.heap.push go } := by
    rintro go tk2 ⟨nm, qn, g1, g2, g3⟩ hgo
    refine ⟨s1.heap.objs.size, s1.gens.size, _, oL, N, qual, defScope st, f, cdv, rfl, Heap.lt_size hL, ?_, ⟨go, nm, qn, hgo _, g1, g2, g3⟩, Array.getElem?_push_size .., by rw [es1], AllBare.push (by rw [es1]; exact e0.bare) rfl, fun b o e => Heap.get?_push_of_some _ (kp1 b o e), Heap.get?_push_of_some _ hL, hdL, ?_⟩
    · show _ < (s1.heap.push go).objs.size
      rw [Heap.size_push]
      exact Nat.lt_succ_self _
    intro A' hr' hfr C s2 hC c0
    have e0' : Env0 P w K mg base A' outer s H := ⟨hfr, e0.mod, e0.bs, e0.bsz, e0.funs, e0.frf, e0.hok, e0.bare⟩
    have J1 : Inv (GYx P w K mg base N qual (defScope st) f cdv A' outer s H) [] (L2.start N vs) H s1 := inv_startG S hr'.hd e0' hl r x
    have y : GenCx (GYx P w K mg base N qual (defScope st) f cdv A' outer s H) := ⟨J1.ok, fun z => by
      show (cellsFrom (s.heap.objs.size + 1) (defScope st).names []).lookup z = none
      rw [hcl]
      rfl, rfl⟩
    have w0 := hC _ _ _ _ c0
    have hB0 : simp' B s.heap.objs.size = none := by
      have h2 : H s.heap.objs.size = none := e0.hok.fresh (Nat.le_refl _)
      have : B s.heap.objs.size = none := Same.free sB h2
      unfold simp'
      rw [this]
      rfl
    have I2 := reenter y (ip := []) (σ := L2.start N vs) (s := s1) ⟨J1.loc, fun p hp => absurd hp (by simp), J1.len⟩ hL w0 hB0 fun p hp => absurd hp (by simp)
    have L0 : Lay K ⟨none, (0, []), B, H⟩ B H (L2.start N vs) (startZ N ds) := start_lay (N := N) sB (fun _ z => by cases z) Dv
    have L2' := relay (Y := GYx P w K mg base N qual (defScope st) f cdv A' outer s H) (s2 := s2) (pv := [(s.heap.objs.size, oL)]) L0 start_calm
    refine seg_func ?_
    refine (body cdv A' outer s H C ds outs (hr'.deeper _) hp).run A' [] sizeLine s2 _ [] _ _ id id s2 ⟨over_func, rfl, rfl, rfl, hC, y⟩ (Nat.add_zero _) (fun n o s₀ s' fl hn hs => ?_) ⟨s2, simp' B, _, _, _, _, ⟨c0, I2, fun p hp => absurd hp (by simp), fun b o e => (keepS_eq e).2, Nat.le_of_lt (Heap.lt_size (w0.pv _ List.mem_cons_self))⟩, L2'⟩
    cases fl with
    | next =>
      obtain ⟨ρ, ⟨sw, Bw, pw, σ, H', B', R, L⟩, ho⟩ := hs
      have ho : o = outs := ho
      subst ho
      obtain ⟨oL', hL', hd'⟩ := R.locals
      have kp := R.kept y (hC _ _ _ _ R.c) L hL' hd'
      exact seg_end (.ok (.ret .none)) ⟨rfl, sw, Bw, pw, simp' B', by omega, R.c, ⟨kp.os, kp.bare, kp.keep, kp.slot, kp.free, kp.same, kp.smp, kp.hok, fun p hp => absurd hp (by simp)⟩⟩
    | brk => obtain ⟨_, _, q⟩ := hs; exact False.elim q
    | cont => obtain ⟨_, _, q⟩ := hs; exact False.elim q
    | ret u => exact False.elim hs
  exact main _ _ ⟨_, _, rfl, rfl, rfl⟩ fun h => Heap.get?_push_size _ rfl
end

/-! ### the consumer -/
theorem ObjOk.thereZ {P : Program} {w : World} {H : Hp} {h : Heap} {a : Addr} {o : HO} (x : ObjOk P w H h a o) : ∃ ob, h.get? a = some ob := by
  cases o with
  | lst xs => obtain ⟨_, _, _, _, e⟩ := x; exact ⟨_, e⟩
  | tup xs => obtain ⟨_, _, _, ob, e, _⟩ := x; exact ⟨_, e⟩
  | dK kvs => obtain ⟨_, _, _, _, o, _, _, e, _⟩ := x; exact ⟨_, e⟩
  | dT kvs => obtain ⟨_, _, _, _, o, _, _, e, _⟩ := x; exact ⟨_, e⟩
  | set S n => obtain ⟨o, _, _, _, e, _⟩ := x; exact ⟨_, e⟩
  | ins C dx fs => obtain ⟨_, _, _, e, _⟩ := x; exact ⟨_, e⟩
  | own y => exact x
  | xd fs => obtain ⟨_, ⟨_, _, _, e, _⟩, _⟩ := x; exact ⟨_, e⟩
  | rng lo hi => obtain ⟨_, _, _, e⟩ := x; exact ⟨_, e⟩
  | frz ob u => obtain ⟨e, _⟩ := x; exact ⟨_, e⟩
  | tbl ps => exact ⟨_, x⟩
  | met f y => exact ⟨_, x⟩
  | ext φ => exact x.2.1
/-- two heaps in one -/
def orH (H B : Hp) : Hp := fun b => match H b with | some o => some o | none => B b
theorem orH_l {H B : Hp} {b : Addr} {o : HO} (h : H b = some o) : orH H B b = some o := by unfold orH; rw [h]
theorem orH_r {H B : Hp} {b : Addr} (h : H b = none) : orH H B b = B b := by unfold orH; rw [h]
section
variable {X : Cx} {W : Wd} {pins : List (Addr × Obj)} {σ : L2.St} {ρ : List Sl} {H B Bw Bg : Hp} {sw s : Shared} {pw pv : List (Addr × Obj)} {Y : Cx}
/-- back from a run of the generator: all that the consumer knew is so still -/
theorem co_back (I : Inv X pins σ H sw) (L : Lay X.K W B H σ ρ) (sB : Same Bw B) (hpw : ∀ p ∈ pw, H p.1 = none ∧ Y.env.locals ≤ p.1) (kp : Kpd Y sw Bw pw s Bg pv) (hP : Y.prog = X.prog) (hw : Y.w = X.w) (hO : Y.outer = X.stack)
    (h0 : X.s_0.heap.objs.size ≤ Y.env.locals) (hL : X.env.locals < Y.env.locals) (hcell : ∀ x c, X.env.cells.lookup x = some c → c < Y.env.locals) (hpin : ∀ p ∈ X.pn ++ pins, p.1 < Y.env.locals) :
    ∃ H1 B1, Inv X pins σ H1 s ∧ Lay X.K W B1 H1 σ ρ ∧ Same B B1 ∧ Same Bg B1 ∧ (∀ p ∈ pv, H1 p.1 = none) ∧ Same B1 H1 ∧ ∀ b o, sw.heap.get? b = some o → H b = none → (∀ p ∈ pw, p.1 ≠ b) → H1 b = none := by
  have hf : ∀ b, b ∈ Y.fs ↔ b ∈ frs X.stack := fun b => by
    show b ∈ frs Y.outer ↔ _
    rw [hO]
  have there : ∀ b o, H b = some o → ∃ ob, sw.heap.get? b = some ob := fun b o e => ObjOk.thereZ (I.hok b o e)
  have BwH : Same Bw H := sB.trans L.gr.sub
  have raw : ∀ b o, H b = some o → Bw b = none → Bg b = none ∧ ∀ ob, sw.heap.get? b = some ob → s.heap.get? b = some ob := fun b o e hB => by
    obtain ⟨ob, eo⟩ := there b o e
    have np : ∀ p ∈ pw, p.1 ≠ b := fun p hp z => by
      have := (hpw p hp).1
      rw [z, e] at this
      cases this
    have nf : b ∉ Y.fs := fun z => by
      have := I.stkFree b ((hf b).mp z)
      rw [e] at this
      cases this
    exact ⟨kp.free b ob eo hB np, fun ob' eo' => kp.keep b ob' eo' hB np nf⟩
  have gH : Same Bg (orH H Bg) := fun b o e => by
    cases q : H b with
    | none => rw [orH_r q]; exact e
    | some u =>
      cases qw : Bw b with
      | none =>
        rw [(raw b u q qw).1] at e
        cases e
      | some u' =>
        have h1 := BwH b u' qw
        rw [q] at h1
        cases h1
        have h2 := kp.same b u qw
        rw [e] at h2
        cases h2
        exact orH_l q
  have hH : Same H (orH H Bg) := fun b o e => orH_l e
  have hokG : HOk X.prog X.w Bg s.heap := by
    have := kp.hok
    rw [hP, hw] at this
    exact this
  have hok : HOk X.prog X.w (orH H Bg) s.heap := fun b o e => by
    cases q : H b with
    | none =>
      rw [orH_r q] at e
      exact objOk_smp (kp.smp b o e) (hokG b o e)
    | some u =>
      rw [orH_l q] at e
      cases e
      cases qw : Bw b with
      | some u' =>
        have h1 := BwH b u' qw
        rw [q] at h1
        cases h1
        have h2 := kp.same b _ qw
        exact objOk_smp (kp.smp b _ h2) (hokG b _ h2)
      | none =>
        refine (I.hok b _ q).stay (fun c v hc z => ?_) (fun c z => hH _ _ z) fun c xs z => hH _ _ z
        rcases hc with rfl | hc
        · exact (raw c _ q qw).2 v z
        · cases qc : Bw c with
          | none => exact (raw c _ hc qc).2 v z
          | some u' =>
            have h1 := BwH c u' qc
            rw [hc] at h1
            cases h1
            have := kp.smp c _ (kp.same c _ qc)
            exact this.elim
  have Bnone : ∀ b, H b = none → Bw b = none := fun b h => by
    cases q : Bw b with
    | none => rfl
    | some u =>
      have := BwH b u q
      rw [h] at this
      cases this
  let ch : List Addr := (List.range sw.heap.objs.size).filter fun b => decide (Y.env.locals ≤ b) && (H b).isNone
  have hch : ∀ b o, sw.heap.get? b = some o → H b = none → b ∉ ch → b < Y.env.locals := fun b o e n hx => by
    refine Nat.lt_of_not_le fun hle => hx (List.mem_filter.mpr ⟨List.mem_range.mpr (Heap.lt_size e), ?_⟩)
    rw [n]
    simp [hle]
  have npw : ∀ b, b < Y.env.locals → ∀ p ∈ pw, p.1 ≠ b := fun b hb p hp z => by
    have := (hpw p hp).2
    rw [z] at this
    exact absurd (Nat.lt_of_lt_of_le hb this) (Nat.lt_irrefl _)
  have un : Un (frs X.stack) ch H (orH H Bg) sw.heap s.heap := by
    refine ⟨fun b o e n hb hx => ?_, fun b o e n hb hx => kp.slot b o e ((hf b).mpr hb), fun b o e n hx => ?_, fun b o e hx => ?_, fun b xs e => hH _ _ e, fun b o u e => hH _ _ e, fun b ps e => ⟨#[], by rw [hH _ _ e]; simp⟩⟩
    · exact kp.keep b o e (Bnone b n) (npw b (hch b o e n hx)) fun z => hb ((hf b).mp z)
    · rw [orH_r n]
      exact kp.free b o e (Bnone b n) (npw b (hch b o e n hx))
    · cases q : H b with
      | some u =>
        cases qw : Bw b with
        | none => exact ⟨o, (raw b u q qw).2 o e⟩
        | some u' => exact ObjOk.thereZ (hokG b u' (kp.same b u' qw))
      | none =>
        by_cases hb : b ∈ Y.fs
        · obtain ⟨sl, e'⟩ := kp.slot b o e hb
          exact ⟨_, e'⟩
        · exact ⟨o, kp.keep b o e (Bnone b q) (npw b (hch b o e q hx)) hb⟩
  have J : Inv X pins σ (orH H Bg) s := I.call' (ch := ch) kp.os un hok kp.bare fun b hb => by
    have h1 : Y.env.locals ≤ b := by
      have := (List.mem_filter.mp hb).2
      simp at this
      exact this.1
    exact ⟨.inr (Nat.le_trans h0 h1), Nat.ne_of_gt (Nat.lt_of_lt_of_le hL h1), fun x c e => Nat.ne_of_lt (Nat.lt_of_lt_of_le (hcell x c e) h1), fun p hp => Nat.ne_of_lt (Nat.lt_of_lt_of_le (hpin p hp) h1)⟩
  have sub : Same (orH B Bg) (orH H Bg) := fun b o e => by
    cases q : B b with
    | some u =>
      rw [orH_l q] at e
      cases e
      exact orH_l (L.gr.sub b _ q)
    | none =>
      rw [orH_r q] at e
      exact gH b o e
  have bb : Same B (orH B Bg) := fun b o e => orH_l e
  have g : Gr X.K ⟨none, (0, []), B, H⟩ (orH B Bg) (orH H Bg) := by
    refine ⟨sub, bb, fun b h1 h2 => ?_, fun b o h1 _ => orH_l h1, fun _ z => by cases z⟩
    have h1 : H b ≠ none := h1
    have h2 : B b = none := h2
    rw [orH_r h2]
    cases q : H b with
    | none => exact absurd q h1
    | some u =>
      have hB : Bw b = none := Same.free sB h2
      exact (raw b u q hB).1
  refine ⟨orH H Bg, orH B Bg, J, (L.called (.inl rfl) g).2, bb, fun b o e => ?_, fun p hp => ?_, sub, fun b o e n hp => by rw [orH_r n]; exact kp.free b o e (Bnone b n) hp⟩
  · cases q : B b with
    | none => rw [orH_r q]; exact e
    | some u =>
      have h1 := gH b o e
      rw [orH_l (L.gr.sub b u q)] at h1
      cases h1
      exact orH_l q
  · obtain ⟨_, _, _, h4, h5⟩ := kp.pvs p hp
    have hn : H p.1 = none := by
      cases q : H p.1 with
      | none => rfl
      | some u =>
        obtain ⟨ob, e⟩ := there _ _ q
        rcases h5 with z | ⟨r, hr, z⟩
        · rw [z] at e; cases e
        · have := (hpw r hr).1
          rw [z, q] at this
          cases this
    rw [orH_r hn]
    exact h4
end
end Z

namespace Z
open PySem PySem.Spec PyProof.Rows L2 GenW
open Sem (wp)
/-! ### next, where the one that yields is asleep again -/
theorem wpAny_resumeS {M : Model} {A : Around} {R : GenEnd} {Yp : Protocol} {n : Nat} {E : Value → Shared → Prop} {s : Shared} {g : Nat} {gs : GenState} {r : Resume} {l : List Value} {α : Type} {k : GenResult → Sem α} {Q : α → Shared → Prop}
    (hg : s.gens[g]? = some gs) (hgo : gs.Goes M A R Yp n r (s.setGen g .running)) (hR : ∀ x s1, R n (s.setGen g .running) x s1 → wpAny M A (k (End.ret x).result) Q E (s1.setGen g .finished))
    (hY : ∀ v s1 k' l' c' p' fs', Yp (n - 1) (s.setGen g .running) v s1 (fun r' s2 => match n with | 0 => False | m + 1 => (GenState.suspended k' l' c' p' fs' false).Goes M A R Yp m r' s2) → wpAny M A (k (.yielded v)) Q E (s1.setGen g (.suspended k' l' c' p' fs' false))) :
    wpAny M A (.resume g r l k) Q E s := by
  intro Γ p hΓ
  rw [Sem.wp_resume]
  have ends : ∀ e1 s1, SegEnd R Yp n (Seg.next M A R Yp n) (s.setGen g .running) e1 s1 → e1.quiet = true ∧ wp M Γ (k e1.result) (fun a _ s' => Q a s') (fun e _ s' => E e s') p (s1.setGen g e1.genState) := fun e1 s1 he => by
    cases e1 with
    | ret x => exact ⟨rfl, hR x s1 he Γ p hΓ⟩
    | susp v g0 l0 k0 c0 p0 fs0 =>
      have hq : (!(g0 || fs0.any Frame.guarded)) = true := he.1
      have hb : (g0 || fs0.any Frame.guarded) = false := by simpa using hq
      refine ⟨he.1, ?_⟩
      show wp M Γ (k (.yielded v)) _ _ p (s1.setGen g (.suspended k0 l0 c0 p0 fs0 (g0 || fs0.any Frame.guarded)))
      rw [hb]
      refine hY v s1 k0 l0 c0 p0 fs0 ?_ Γ p hΓ
      cases n with
      | zero => exact he.2
      | succ m => exact he.2
  cases gs with
  | running => exact hgo.elim
  | finished => exact hgo.elim
  | fresh c =>
    obtain ⟨hr, hseg⟩ := hgo
    subst hr
    obtain ⟨e1, s1, hrun, he⟩ := seg_iff.mp hseg (Γ.wake c p) p rfl (hΓ.wake c p)
    obtain ⟨q1, q2⟩ := ends e1 s1 he
    refine ⟨_, _, ?_, q2⟩
    unfold Wakes
    rw [hg]
    exact ⟨e1, s1, hrun, q1, rfl, rfl⟩
  | suspended k0 l0 c0 p0 fs0 cl =>
    obtain ⟨e1, s1, hrun, he⟩ := seg_iff.mp hgo (Γ.wake c0 p) p0 rfl (hΓ.wake c0 p)
    obtain ⟨q1, q2⟩ := ends e1 s1 he
    refine ⟨_, _, ?_, q2⟩
    unfold Wakes
    rw [hg]
    exact ⟨e1, s1, hrun, q1, rfl, rfl⟩
theorem next_q {P : Program} {w : World} {A : Around} {E : Value → Shared → Prop} {s : Shared} {a : Addr} {g n : Nat} {gs : GenState} {R : GenEnd} {Yp : Protocol} {Q : Option Value → Shared → Prop} (hh : A.handled = none)
    (hl : s.heap.NoLimit) (hroom : A.depth < recursionLimit) (hg : s.heap.IsGen a g) (hgs : s.gens[g]? = some gs) (hgo : gs.Goes (model P w) A.in1 R Yp n (.send .none) (s.setGen g .running))
    (hY : ∀ v s1 k' l' c' p' fs', Yp (n - 1) (s.setGen g .running) v s1 (fun r' s2 => match n with | 0 => False | m + 1 => (GenState.suspended k' l' c' p' fs' false).Goes (model P w) A.in1 R Yp m r' s2) → Q (some v) (s1.setGen g (.suspended k' l' c' p' fs' false)))
    (hR : ∀ r s1, R n (s.setGen g .running) r s1 → r = .ok (.ret .none) ∧ ∀ h', (∀ b o, s1.heap.get? b = some o → h'.get? b = some o) → Q none { s1.setGen g .finished with heap := h' }) :
    wpAny (model P w) A (pyNext (.ref a)) Q E s := by
  unfold pyNext
  refine wpAny_bind (wpAny_attempt (wpAny_callSpecial?_slot (name := Str.ofString "__next__") hg.typeIs slot_gen_next (wpAny_call_entry slot_gen_next hg.typeIs entry_gen_next (ha := args_gen_next _) ?_)))
  show wpAny _ A.in1 (Builtin.Generator.genWake (.ref a) (.send .none)) _ _ s
  unfold Builtin.Generator.genWake
  refine wpAny_bind (wpAny_holding (wpAny_genNumber hg (wpAny_bind (wpAny_genState hgs ?_))))
  cases gs with
  | running => exact hgo.elim
  | finished => exact hgo.elim
  | _ =>
    refine wpAny_bind (wpAny_roomToWake hl hroom ?_)
    show wpAny _ A.in1 (.resume g (.send .none) [] _) _ _ s
    refine wpAny_resumeS hgs hgo (fun x s1 hx => ?_) (fun v s1 k' l' c' p' fs' hv => wpAny_pure ⟨v, rfl, wpAny_pure (hY v s1 k' l' c' p' fs' hv)⟩)
    obtain ⟨hr, hq⟩ := hR x s1 hx
    subst hr
    show wpAny _ A.in1 (newExc (.type "StopIteration") [] >>= _) _ _ _
    simp only [newExc, newTuple]
    refine wpAny_bind (wpAny_bind (wpAny_newObj_type ?_ (by size_fits)))
    refine wpAny_bind (m := firstArgMember _ _) (wpAny_of_eq (a := Value.none) (by first | rfl | (simp only [firstArgMember]; rfl)) ?_)
    refine wpAny_newObj_type ?_ (by size_fits)
    simp only [raiseNew]
    refine wpAny_bind (wpAny_bind (wpAny_handled ?_))
    first | rw [show A.in1.handled = none from hh] | rw [hh]
    refine wpAny_throw (wpAny_bind (wpAny_isInstance (T := "StopIteration") (b := true) ⟨_, Heap.get?_push_size _ rfl, rfl⟩ isSubtype_stop ?_))
    exact wpAny_pure (hq _ fun b o hb => Heap.get?_push_of_some _ (Heap.get?_push_of_some _ hb))
end Z

namespace Z
open PySem PySem.Spec PyProof.Rows L2 GenW
section
variable {X : Cx} {W : Wd} {ρ : List Sl} {D : Dz} {pos : Pos} {body : List Stmt} {tg : Expr}
/-- an assignment, while others sleep -/
theorem assign_asleep {pins : List (Addr × Obj)} {σ : L2.St} {H B : Hp} {s : Shared} {x : V} {u : Value} {d : PyData} {N : List Sl → Prop} {E : Value → Shared → Prop} {Q : Unit → Shared → Prop} (I : Inv X pins σ H s) (L : Lay X.K W B H σ ρ) (Dx : Dq X.K B x d) (r : RelV x u) (h : Tg X.nox W tg d ρ N)
    (k : ∀ s' σ' H' B' ρ', Inv X pins σ' H' s' → Lay X.K W B' H' σ' ρ' → Same B B' → N ρ' → (∀ (i : Nat) (g : GenState), s.gens[i]? = some g → GenState.sleeps g = true → s'.gens[i]? = some g) → Q () s') : wpAny (model X.prog X.w) X.A (assign tg X.env u) Q E s := by
  have I1 : Inv X.nox pins σ H (lull s) := (I.gens (G := s.gens.map psn) (lull_bare I.bare)).wish _
  have run := h.run x σ H B (fun σ' H' => ∃ B' ρ', Same B B' ∧ Lay X.K W B' H' σ' ρ' ∧ N ρ') L Dx (fun σ' H' B' ρ' s' L' n => ⟨B', ρ', s', L', n⟩) pins (lull s) u I1 r
  refine wpAny_mono (wpAny_asleep run) (fun _ s' ⟨v, e, P, σ', H', J, B', ρ', sb, L', n⟩ => ?_) fun _ s' ⟨_, _, _, z⟩ => z.elim
  subst e
  exact k _ σ' H' B' ρ' (J.unwish.gens (unS_bare I.bare J.bare)) L' sb n fun i g hx hs => slept_at P hx hs
theorem es_forG {x : Str} {p pos' : Pos} {e : Expr} {es : List Expr} {f : Addr} {fd : FuncData} {ps : List Str} {k : Nat} {P' : List PyData → List PyData → Prop} (F : GFnR X.prog X.w X.K X.mg X.base k f fd ps P') (hr : Room (k + 2) X.A) (hm : X.mg x = some (.ref f))
    (hk : PySem.W.keepIn X.K (.ref f) = true) (hb : Binds X.K fd ps []) (hc : X.calm = true) (hp : PassesOwn (model X.prog X.w) X.A X.env X.xe)
    (h : Ea X W (e :: es) ρ fun ds => ∃ outs, P' ds outs ∧ ∃ P : Nat → List Sl → Prop, P 0 ρ ∧
      (∀ i d ρ1, outs[i]? = some d → P i ρ1 → Tg X.nox W tg d ρ1 fun ρ2 => Ess X.nox W body ρ2 { nx := P (i + 1), rt := fun _ => False, ct := P (i + 1) }) ∧ ∀ ρ1, P outs.length ρ1 → D.nx ρ1)
    (hg : Gl X x := by rfl) (he : starEach (e :: es) X.env = (false, eval e X.env) :: starEach es X.env := by rfl) (hpl : (backTo pos' (starEach es X.env)).any (·.1) = false := by rfl) (hdb : (x == ("__debug__" : Str)) = false := by decide)
    (hs : ∀ v, foldedSetIterable (.Call (.Name x p) (e :: es) [] pos') X.env v = pure v := by intro _; rfl) : Es X W (.For tg (.Call (.Name x p) (e :: es) [] pos') body [] pos) ρ D := by
  refine ⟨fun σ H B L pins s I => ?_⟩
  refine wpAny_For ?_ hs
  refine wpAny_Call_Name_kw (ld_glob I hg hm ?_ hdb)
  refine PySem.W.callWith_K (h₀ := X.base) I.ok.mod.kin hk (thn (h.run σ H B (fun vs H1 => ∃ B1 ds, Same B B1 ∧ Lay X.K W B1 H1 σ ρ ∧ DqAll X.K B1 vs ds ∧ ∃ outs, P' ds outs ∧ ∃ P : Nat → List Sl → Prop, P 0 ρ ∧
      (∀ i d ρ1, outs[i]? = some d → P i ρ1 → Tg X.nox W tg d ρ1 fun ρ2 => Ess X.nox W body ρ2 { nx := P (i + 1), rt := fun _ => False, ct := P (i + 1) }) ∧ ∀ ρ1, P outs.length ρ1 → D.nx ρ1) L (fun vs H1 B1 ds s1 L1 D1 q => ⟨B1, ds, s1, L1, D1, q⟩) pos' pins s I) fun us sc ⟨vs, H1, I1, rv, B1, ds, sB1, L1, D1, outs, hP', P, p0, turn, fin⟩ => ⟨I1.kIn, ?_⟩) he hpl
  have hl2 : us.length = ps.length := by rw [← rv.length, dpAll_len D1]; exact F.len _ _ hP'
  have bt := hb sc us I1.kIn (by rw [List.append_nil]; exact hl2)
  rw [List.append_nil] at bt
  refine wpAny_call (codeAny_mono (F.run X.A X.stack sc H1 B1 ⟨us, []⟩ us vs ds outs (hr.mono (by omega)) I1.env0 bt rv L1.gr.sub D1 hP') fun r s1 hq => ?_)
  cases r with
  | error x => exact False.elim hq
  | ok fl =>
  cases fl with
  | next => exact False.elim hq
  | brk => exact False.elim hq
  | cont => exact False.elim hq
  | ret u =>
  obtain ⟨a, g, cd, oL, N, qual, scp, f', cdv, rfl, ha1, ha2, hgen, hgs, hos, hbare, hkp, hoL, hdL, wake⟩ := hq
  have small := F.few _ _ hP'
  obtain ⟨go, nm, qn, hgo, gc1, gc2, gc3⟩ := id hgen
  refine wpAny_pyIter_gen hgen ?_
  have hfs : ∀ b ∈ frs X.stack, b < sc.heap.objs.size := fun b hb => by
    obtain ⟨_, o, ho, _⟩ := I1.stack.mem hb
    exact Heap.lt_size ho
  have hcell : ∀ y c, X.env.cells.lookup y = some c → c < sc.heap.objs.size := fun y c e => by
    obtain ⟨v, q⟩ := I1.cell y c e
    exact q.lt
  have hpin : ∀ q ∈ X.pn ++ pins, q.1 < sc.heap.objs.size := fun q hq => Heap.lt_size (I1.pin q hq).1
  have I2 : Inv X pins σ H1 s1 := I1.call' (ch := []) hos (Un.kept hkp) (I1.hok.kept hkp) hbare fun b z => by simp at z
  -- the consumer's word
  let C : CoP := fun j s Bg pv => ∃ σ' H' B' ρ', Inv X pins σ' H' s ∧ Lay X.K W B' H' σ' ρ' ∧ Same B1 B' ∧ P j ρ' ∧ Same Bg B' ∧ (∀ b o, Bg b = some o → Smp o) ∧ (∀ q ∈ pv, s.heap.get? q.1 = some q.2 ∧ H' q.1 = none ∧ sc.heap.objs.size ≤ q.1 ∧ q.1 ≠ a) ∧ s.heap.get? a = some go ∧ H' a = none
  have cg : ∀ {j s Bg pv} {G : Array GenState}, C j s Bg pv → AllBare G → C j { s with gens := G } Bg pv := fun {j s Bg pv G} ⟨σ', H', B', ρ', q1, q2⟩ hG => ⟨σ', H', B', ρ', q1.gens hG, q2⟩
  have hC : ∀ j s Bg pv, C j s Bg pv → WkOk (GYx X.prog X.w X.K X.mg X.base N qual scp f' cdv X.A.in1 X.stack sc H1) s Bg pv := by
    rintro j s Bg pv ⟨σ', H', B', ρ', I', L', _, _, sg, smp, hpv, _, _⟩
    have sgH : Same Bg H' := sg.trans L'.gr.sub
    exact ⟨I'.bare, I'.bk, fun b o e => Same.free sgH (I'.bs b o e).2, I'.stack, fun b hb => Same.free sgH (I'.stkFree b hb), fun b o e => objOk_smp (smp b o e) (I'.hok b o (sgH b o e)), fun q hq => (hpv q hq).1⟩
  have seg0 := wake X.A.in1 ((hr.mono (by omega : k + 1 ≤ k + 2)).in1) I1.ok.frames C
  have base0 : ∀ {s2 : Shared}, C 0 s2 (simp' B1) [(sc.heap.objs.size, oL)] → GenState.Goes (model X.prog X.w) X.A.in1 (Rq (GYx X.prog X.w X.K X.mg X.base N qual scp f' cdv X.A.in1 X.stack sc H1) outs C) (Yq (GYx X.prog X.w X.K X.mg X.base N qual scp f' cdv X.A.in1 X.stack sc H1) outs C) sizeLine (.fresh cd) (.send .none) s2 :=
    fun {s2} c => ⟨rfl, seg0 s2 hC c⟩
  have HL0 : H1 sc.heap.objs.size = none := I1.hok.fresh (Nat.le_refl _)
  have c00 : C 0 s1 (simp' B1) [(sc.heap.objs.size, oL)] := by
    refine ⟨σ, H1, B1, ρ, I2, L1, Same.refl _, p0, simp_le, fun b o e => (keepS_eq e).2, fun q hq => ?_, hgo, I1.hok.fresh (Nat.le_of_lt ha1)⟩
    rw [List.mem_singleton.mp hq]
    exact ⟨hoL, HL0, Nat.le_refl _, Nat.ne_of_lt ha1⟩
  refine codeAny_forLoop_any (fun m s3 => ∃ j, m + j = outs.length ∧ ∃ gs Bg pv, C j s3 Bg pv ∧ s3.gens[g]? = some gs ∧
      ∀ s', C j s' Bg pv → GenState.Goes (model X.prog X.w) X.A.in1 (Rq (GYx X.prog X.w X.K X.mg X.base N qual scp f' cdv X.A.in1 X.stack sc H1) outs C) (Yq (GYx X.prog X.w X.K X.mg X.base N qual scp f' cdv X.A.in1 X.stack sc H1) outs C) (sizeLine - j) gs (.send .none) s') ?_
    outs.length ⟨0, Nat.add_zero _, _, _, _, c00, hgs, fun s' c => base0 c⟩
  rintro m s3 ⟨j, hmj, gs, Bg, pv, c3, hgs3, goes⟩
  obtain ⟨σ3, H3, B3, ρ3, I3, _, _, _, _, _, _, ha3, _⟩ := id c3
  have hgl : g < s3.gens.size := (Array.getElem?_eq_some_iff.mp hgs3).1
  refine wpAny_passesOwn hp (wpAny_gsz (n := g + 1) hgl (next_q (I3.ok.hd hc) I3.nolimit hr.depth ⟨go, nm, qn, ha3, gc1, gc2, gc3⟩ hgs3 (goes _ (cg c3 (allBare_setGen I3.bare rfl))) (fun v s4 k' l' c' p' fs' hv => ?_) fun r s4 hx => ?_))
  · intro hsz
    obtain ⟨j', sw, Bw, pw, Bg', pv', xv, d, hj', c0, hd, rv', Dx, kp, hkap⟩ := hv
    have ej : j' = j := by omega
    subst ej
    obtain ⟨σ', H', B', ρ', I', L', sB', hPj, sBw, smpw, hpw, hao, hHa⟩ := c0
    obtain ⟨H2, B2, J2, L2', sb2, sg2, hpv2, sub2, hfree⟩ := co_back (Y := GYx X.prog X.w X.K X.mg X.base N qual scp f' cdv X.A.in1 X.stack sc H1) I' L' sBw (fun q hq => ⟨(hpw q hq).2.1, (hpw q hq).2.2.1⟩) kp rfl rfl rfl I1.sz I1.lt hcell hpin
    have naf : a ∉ frs X.stack := fun z => absurd (Nat.lt_trans (hfs a z) ha1) (Nat.lt_irrefl _)
    have ha4 : s4.heap.get? a = some go := kp.keep a go hao (Same.free (sBw.trans L'.gr.sub) hHa) (fun q hq => (hpw q hq).2.2.2) naf
    have hHa2 : H2 a = none := hfree a go hao hHa fun q hq => (hpw q hq).2.2.2
    have hpva : ∀ q ∈ pv', q.1 ≠ a := fun q hq z => by
      obtain ⟨_, _, _, _, h5⟩ := kp.pvs q hq
      rcases h5 with y | ⟨r, hr', y⟩
      · rw [z, hao] at y; cases y
      · exact (hpw r hr').2.2.2 (y.trans z)
    have hbare4 : AllBare (s4.setGen g (.suspended k' l' c' p' fs' false)).gens := allBare_setGen kp.bare rfl
    have J3 : Inv X (pins ++ ((a, go) :: pv')) σ' H2 (s4.setGen g (.suspended k' l' c' p' fs' false)) := by
      refine (J2.gens hbare4).pins_of fun q hq => ?_
      have young : ∀ b, sc.heap.objs.size ≤ b → b ≠ X.env.locals ∧ b ∉ X.fs := fun b hb => ⟨Nat.ne_of_gt (Nat.lt_of_lt_of_le I1.lt hb), I1.nofs hb⟩
      rcases List.mem_append.mp hq with z | z
      · exact J2.pin q (List.mem_append_right _ z)
      · rcases List.mem_cons.mp z with rfl | z
        · obtain ⟨y1, y2⟩ := young a (Nat.le_of_lt ha1)
          exact ⟨ha4, hHa2, y1, y2, fun v q => by
            have q' : go.data = .cell v := q
            rw [gc2] at q'
            cases q'⟩
        · obtain ⟨h1, h2, h3, h4, _⟩ := kp.pvs q z
          obtain ⟨y1, y2⟩ := young q.1 h1
          exact ⟨h2, hpv2 q z, y1, y2, h3⟩
    have hg4 : (s4.setGen g (.suspended k' l' c' p' fs' false)).gens[g]? = some (.suspended k' l' c' p' fs' false) := setGen_at (by
      have q : (s4.setGen g (.suspended k' l' c' p' fs' false)).gens.size = s4.gens.size := setGen_size _ _ _
      omega)
    refine wpAny_passesOwn hp (go_of (n := "generator") (vs := #[.int g 0, nm, qn]) ha4 gc1 gc2 (by decide) ?_)
    refine wpAny_passesOwn hp (assign_asleep J3 L2' (dpMono sg2 _ _ Dx) rv' (turn _ d ρ' hd hPj) fun s5 σ5 H5 B5 ρ5 J5 L5 sb5 hbody slp5 => ?_)
    refine wpAny_passesOwn hp (thn (PSs.asleep (pss_w (X := X.nox)) (D := De X.K W B5 { nx := P (j' + 1), rt := fun _ => False, ct := P (j' + 1) }) J5 (hbody.run σ5 H5 B5 L5)) fun fl s6 ⟨q6, slp6⟩ => ?_)
    have hg6 := slp6 g _ (slp5 g _ hg4 rfl) rfl
    have hjl : j' < outs.length := (List.getElem?_eq_some_iff.mp hd).1
    have again : ∀ {σ6 : L2.St} {H6 : Hp}, Inv X (pins ++ ((a, go) :: pv')) σ6 H6 s6 → (∃ B6 ρ6, Same B5 B6 ∧ Lay X.K W B6 H6 σ6 ρ6 ∧ P (j' + 1) ρ6) → ∃ m', m' < m ∧ ∃ j, m' + j = outs.length ∧ ∃ gs Bg pv, C j s6 Bg pv ∧ s6.gens[g]? = some gs ∧
        ∀ s', C j s' Bg pv → GenState.Goes (model X.prog X.w) X.A.in1 (Rq (GYx X.prog X.w X.K X.mg X.base N qual scp f' cdv X.A.in1 X.stack sc H1) outs C) (Yq (GYx X.prog X.w X.K X.mg X.base N qual scp f' cdv X.A.in1 X.stack sc H1) outs C) (sizeLine - j) gs (.send .none) s' := by
      rintro σ6 H6 J6 ⟨B6, ρ6, sb6, L6, hP6⟩
      have pin6 : ∀ q ∈ (a, go) :: pv', s6.heap.get? q.1 = some q.2 ∧ H6 q.1 = none := fun q hq => by
        have := J6.pin q (List.mem_append_right _ (List.mem_append_right _ hq))
        exact ⟨this.1, this.2.1⟩
      refine ⟨m - 1, by omega, j' + 1, by omega, _, Bg', pv', ?_, hg6, fun s' c => ?_⟩
      · exact ⟨σ6, H6, B6, ρ6, J6.unpinned, L6, sB'.trans (sb2.trans (sb5.trans sb6)), hP6, sg2.trans (sb5.trans sb6), kp.smp, fun q hq => ⟨(pin6 q (List.mem_cons_of_mem _ hq)).1, (pin6 q (List.mem_cons_of_mem _ hq)).2, (kp.pvs q hq).1, hpva q hq⟩, (pin6 _ List.mem_cons_self).1, (pin6 _ List.mem_cons_self).2⟩
      · have hk2 := hkap s' c
        obtain ⟨n', hn'⟩ : ∃ n', sizeLine - j' = n' + 1 := ⟨sizeLine - j' - 1, by omega⟩
        have e2 : sizeLine - (j' + 1) = n' := by omega
        rw [hn'] at hk2
        rw [e2]
        exact hk2
    cases fl with
    | next => obtain ⟨σ6, H6, J6, q⟩ := q6; exact again J6 q
    | cont => obtain ⟨σ6, H6, J6, q⟩ := q6; exact again J6 q
    | brk => obtain ⟨σ6, H6, J6, B6, ρ6, _, _, q⟩ := q6; exact False.elim q
    | ret v => obtain ⟨x6, σ6, H6, J6, _, B6, d6, _, _, q⟩ := q6; exact False.elim q
  · obtain ⟨hr4, sw, Bw, pw, Bg', hn, c0, kp⟩ := hx
    refine ⟨hr4, fun h' hk' _ => ?_⟩
    obtain ⟨σ', H', B', ρ', I', L', sB', hPj, sBw, smpw, hpw, hao, hHa⟩ := c0
    obtain ⟨H2, B2, J2, L2', sb2, sg2, hpv2, sub2, hfree⟩ := co_back (Y := GYx X.prog X.w X.K X.mg X.base N qual scp f' cdv X.A.in1 X.stack sc H1) I' L' sBw (fun q hq => ⟨(hpw q hq).2.1, (hpw q hq).2.2.1⟩) kp rfl rfl rfl I1.sz I1.lt hcell hpin
    have J3 : Inv X pins σ' H2 { s4.setGen g .finished with heap := h' } := (J2.gens (allBare_setGen kp.bare rfl)).kept (t' := s4.toks) hk'
    exact wpAny_execs_nil ⟨σ', H2, J3, B2, ρ', sB1.trans (sB'.trans sb2), L2', fin ρ' hPj⟩
end
end Z

local macro_rules | `(tactic| walk_at "nin") => `(tactic| assumption)
local macro_rules | `(tactic| walk_at "fit") => `(tactic| assumption)
local macro_rules | `(tactic| walk_at "fln") => `(tactic| first | (show 0 < 1000; decide) | (show 1 < 1000; decide) | (show 2 < 1000; decide) | (show 3 < 1000; decide))
local macro_rules | `(tactic| walk_at "fl") => `(tactic| first | rfl | decide)
local macro_rules | `(tactic| walk_at "zs") => `(tactic| first | assumption | omega | exact Z.divs (by omega) (by omega) | exact Z.mull (by omega) (by omega) | exact Z.mulr (by omega) (by omega) | decide)
local macro_rules | `(tactic| walk_at "sh") => `(tactic| first | rfl | assumption | decide)
local macro_rules | `(tactic| walk_at "pre") => `(tactic| first | assumption | omega | (refine ⟨⟨?_, ?_⟩, ⟨?_, ?_⟩, ?_, ?_⟩ <;> omega) | decide)
local macro_rules | `(tactic| walk_at "wk") => `(tactic| repeat (first | exact Z.Wk.nil | apply Z.Wk.eq | apply Z.Wk.no))
local macro_rules | `(tactic| walk_at "sz") => `(tactic| first | (simp only [List.length_cons, List.length_nil]; decide) | decide)
namespace Law
open PySem PySem.Spec PyProof.Rows L2 Z
def topS (i : Nat) : Stmt := PySem.Challenge.pw_wallrolls_k14_whole_multiplied_papers.main.body.getD i (.Pass ⟨0, 0, 0, 0⟩)
abbrev s_step : Stmt := topS 1
abbrev s_best_lines : Stmt := topS 2
abbrev s_least_step : Stmt := topS 3
abbrev s_most_strips : Stmt := topS 4
abbrev s_phase : Stmt := topS 6
abbrev s_can_cut : Stmt := topS 7
abbrev s_all_can_be_cut : Stmt := topS 8
abbrev s_begin_behind : Stmt := topS 9
abbrev s_strips_from : Stmt := topS 11
abbrev s_rolls_of_line : Stmt := topS 12
abbrev s_rolls_by_turns : Stmt := topS 13
abbrev s_layout : Stmt := topS 14
abbrev s__law_draw : Stmt := topS 16
abbrev s__law_numbers : Stmt := topS 17
abbrev s__law_size : Stmt := topS 18
abbrev s_law : Stmt := topS 19
theorem sc_step : FnScope ["paper", "length", "lines", "repeat", "drop", "roll"] ["paper", "length", "lines"] (defScope s_step) := ⟨rfl, rfl, rfl, by decide +kernel, rfl, by decide +kernel, by decide +kernel⟩
theorem sc_best_lines : FnScope ["paper", "length", "best", "lines"] ["paper", "length"] (defScope s_best_lines) := ⟨rfl, rfl, rfl, by decide +kernel, rfl, by decide +kernel, by decide +kernel⟩
theorem sc_least_step : FnScope ["paper", "length"] ["paper", "length"] (defScope s_least_step) := ⟨rfl, rfl, rfl, by decide +kernel, rfl, by decide +kernel, by decide +kernel⟩
theorem sc_most_strips : FnScope ["paper", "length"] ["paper", "length"] (defScope s_most_strips) := ⟨rfl, rfl, rfl, by decide +kernel, rfl, by decide +kernel, by decide +kernel⟩
theorem sc_phase : FnScope ["paper", "place"] ["paper", "place"] (defScope s_phase) := ⟨rfl, rfl, rfl, by decide +kernel, rfl, by decide +kernel, by decide +kernel⟩
theorem sc_can_cut : FnScope ["paper", "length", "place"] ["paper", "length", "place"] (defScope s_can_cut) := ⟨rfl, rfl, rfl, by decide +kernel, rfl, by decide +kernel, by decide +kernel⟩
theorem sc_all_can_be_cut : FnScope ["paper", "length", "number", "place"] ["paper", "length", "number"] (defScope s_all_can_be_cut) := ⟨rfl, rfl, rfl, by decide +kernel, rfl, by decide +kernel, by decide +kernel⟩
theorem sc_begin_behind : FnScope ["paper", "free", "place"] ["paper", "free", "place"] (defScope s_begin_behind) := ⟨rfl, rfl, rfl, by decide +kernel, rfl, by decide +kernel, by decide +kernel⟩
theorem sc_strips_from : FnScope ["paper", "length", "lines", "place"] ["paper", "length", "lines", "place"] (defScope s_strips_from) := ⟨rfl, rfl, rfl, by decide +kernel, rfl, by decide +kernel, by decide +kernel⟩
theorem sc_rolls_of_line : FnScope ["paper", "length", "lines", "line", "count", "seen", "rolls", "done", "place", "begin", "before", "cut", "turns"] ["paper", "length", "lines", "line", "count"] (defScope s_rolls_of_line) := ⟨rfl, rfl, rfl, by decide +kernel, rfl, by decide +kernel, by decide +kernel⟩
theorem sc_rolls_by_turns : FnScope ["paper", "length", "lines", "number", "total", "line"] ["paper", "length", "lines", "number"] (defScope s_rolls_by_turns) := ⟨rfl, rfl, rfl, by decide +kernel, rfl, by decide +kernel, by decide +kernel⟩
theorem sc_layout : GScope ["paper", "length", "lines", "number", "line", "roll", "free", "place", "begin"] ["paper", "length", "lines", "number"] (defScope s_layout) := ⟨rfl, rfl, rfl, by decide +kernel, rfl, by decide +kernel, by decide +kernel⟩
theorem sc__law_draw : FnScope ["tape", "many", "prime", "cell", "found"] ["tape", "many"] (defScope s__law_draw) := ⟨rfl, rfl, rfl, by decide +kernel, rfl, by decide +kernel, by decide +kernel⟩
theorem sc__law_numbers : FnScope ["tape", "most", "far", "repeat", "some"] ["tape", "most", "far"] (defScope s__law_numbers) := ⟨rfl, rfl, rfl, by decide +kernel, rfl, by decide +kernel, by decide +kernel⟩
theorem sc__law_size : FnScope ["tape", "kind", "part"] ["tape", "kind"] (defScope s__law_size) := ⟨rfl, rfl, rfl, by decide +kernel, rfl, by decide +kernel, by decide +kernel⟩
theorem sc_law : FnScope ["script", "tape", "turn", "kind", "factor", "wide", "size", "lines", "number", "few", "rows", "roll", "back", "own", "place", "begin"] ["script"] (defScope s_law) := ⟨rfl, rfl, rfl, by decide +kernel, rfl, by decide +kernel, by decide +kernel⟩
structure En (K : PySem.W.Frag) (mg : Str → Option Value) where
  f_step : Addr
  fd_step : FuncData
  F_step : Fun K "step" "step" s_step f_step fd_step
  b_step : Binds K fd_step ["paper", "length", "lines"] []
  g_step : mg "step" = some (.ref f_step)
  f_best_lines : Addr
  fd_best_lines : FuncData
  F_best_lines : Fun K "best_lines" "best_lines" s_best_lines f_best_lines fd_best_lines
  b_best_lines : Binds K fd_best_lines ["paper", "length"] []
  g_best_lines : mg "best_lines" = some (.ref f_best_lines)
  f_least_step : Addr
  fd_least_step : FuncData
  F_least_step : Fun K "least_step" "least_step" s_least_step f_least_step fd_least_step
  b_least_step : Binds K fd_least_step ["paper", "length"] []
  g_least_step : mg "least_step" = some (.ref f_least_step)
  f_most_strips : Addr
  fd_most_strips : FuncData
  F_most_strips : Fun K "most_strips" "most_strips" s_most_strips f_most_strips fd_most_strips
  b_most_strips : Binds K fd_most_strips ["paper", "length"] []
  g_most_strips : mg "most_strips" = some (.ref f_most_strips)
  f_phase : Addr
  fd_phase : FuncData
  F_phase : Fun K "phase" "phase" s_phase f_phase fd_phase
  b_phase : Binds K fd_phase ["paper", "place"] []
  g_phase : mg "phase" = some (.ref f_phase)
  f_can_cut : Addr
  fd_can_cut : FuncData
  F_can_cut : Fun K "can_cut" "can_cut" s_can_cut f_can_cut fd_can_cut
  b_can_cut : Binds K fd_can_cut ["paper", "length", "place"] []
  g_can_cut : mg "can_cut" = some (.ref f_can_cut)
  f_all_can_be_cut : Addr
  fd_all_can_be_cut : FuncData
  F_all_can_be_cut : Fun K "all_can_be_cut" "all_can_be_cut" s_all_can_be_cut f_all_can_be_cut fd_all_can_be_cut
  b_all_can_be_cut : Binds K fd_all_can_be_cut ["paper", "length", "number"] []
  g_all_can_be_cut : mg "all_can_be_cut" = some (.ref f_all_can_be_cut)
  f_begin_behind : Addr
  fd_begin_behind : FuncData
  F_begin_behind : Fun K "begin_behind" "begin_behind" s_begin_behind f_begin_behind fd_begin_behind
  b_begin_behind : Binds K fd_begin_behind ["paper", "free", "place"] []
  g_begin_behind : mg "begin_behind" = some (.ref f_begin_behind)
  f_strips_from : Addr
  fd_strips_from : FuncData
  F_strips_from : Fun K "strips_from" "strips_from" s_strips_from f_strips_from fd_strips_from
  b_strips_from : Binds K fd_strips_from ["paper", "length", "lines", "place"] []
  g_strips_from : mg "strips_from" = some (.ref f_strips_from)
  f_rolls_of_line : Addr
  fd_rolls_of_line : FuncData
  F_rolls_of_line : Fun K "rolls_of_line" "rolls_of_line" s_rolls_of_line f_rolls_of_line fd_rolls_of_line
  b_rolls_of_line : Binds K fd_rolls_of_line ["paper", "length", "lines", "line", "count"] []
  g_rolls_of_line : mg "rolls_of_line" = some (.ref f_rolls_of_line)
  f_rolls_by_turns : Addr
  fd_rolls_by_turns : FuncData
  F_rolls_by_turns : Fun K "rolls_by_turns" "rolls_by_turns" s_rolls_by_turns f_rolls_by_turns fd_rolls_by_turns
  b_rolls_by_turns : Binds K fd_rolls_by_turns ["paper", "length", "lines", "number"] []
  g_rolls_by_turns : mg "rolls_by_turns" = some (.ref f_rolls_by_turns)
  f_layout : Addr
  fd_layout : FuncData
  F_layout : Fun K "layout" "layout" s_layout f_layout fd_layout
  b_layout : Binds K fd_layout ["paper", "length", "lines", "number"] []
  g_layout : mg "layout" = some (.ref f_layout)
  f__law_draw : Addr
  fd__law_draw : FuncData
  F__law_draw : Fun K "_law_draw" "_law_draw" s__law_draw f__law_draw fd__law_draw
  b__law_draw : Binds K fd__law_draw ["tape", "many"] []
  g__law_draw : mg "_law_draw" = some (.ref f__law_draw)
  f__law_numbers : Addr
  fd__law_numbers : FuncData
  F__law_numbers : Fun K "_law_numbers" "_law_numbers" s__law_numbers f__law_numbers fd__law_numbers
  b__law_numbers : Binds K fd__law_numbers ["tape", "most", "far"] []
  g__law_numbers : mg "_law_numbers" = some (.ref f__law_numbers)
  f__law_size : Addr
  fd__law_size : FuncData
  F__law_size : Fun K "_law_size" "_law_size" s__law_size f__law_size fd__law_size
  b__law_size : Binds K fd__law_size ["tape", "kind"] []
  g__law_size : mg "_law_size" = some (.ref f__law_size)
  n_all : mg "all" = none
  n_len : mg "len" = none
  n_list : mg "list" = none
  n_max : mg "max" = none
  n_min : mg "min" = none
  n_range : mg "range" = none
  n_tuple : mg "tuple" = none
/-! ### papers -/
abbrev pap (r d l : Int) : PyData := .tuple [.int r, .int d, .int l]
def POk (r d l : Int) : Prop := (1 ≤ r ∧ r ≤ 200) ∧ (0 ≤ d ∧ d < r) ∧ (1 ≤ l ∧ l ≤ 10000)

/-! ### papers in naturals; strips of a roll -/
/-- the least multiple of g that is at least z -/
def up (g z : Int) : Int := (z + g - 1) / g * g
theorem up_spec {g z : Int} (hg : 0 < g) : z ≤ up g z ∧ up g z < z + g ∧ up g z % g = 0 := by
  unfold up
  have h1 := Int.emod_add_mul_ediv (z + g - 1) g
  have h2 := Int.emod_nonneg (z + g - 1) (show g ≠ 0 by omega)
  have h3 := Int.emod_lt_of_pos (z + g - 1) hg
  rw [Int.mul_comm] at h1
  refine ⟨by omega, by omega, Int.mul_emod_left _ _⟩
/-- a multiple that is at least z is at least up g z -/
theorem up_le {g z m : Int} (hg : 0 < g) (hm : m % g = 0) (hz : z ≤ m) : up g z ≤ m := by
  obtain ⟨q, rfl⟩ := Int.dvd_of_emod_eq_zero hm
  have h := up_spec (z := z) hg
  obtain ⟨p, hp⟩ := Int.dvd_of_emod_eq_zero h.2.2
  rw [hp]
  rw [hp] at h
  have : g * p < g * q + g := by omega
  have h4 : g * p < g * (q + 1) := by rw [Int.mul_add]; omega
  have h5 : p < q + 1 := Int.lt_of_mul_lt_mul_left h4 (by omega)
  exact Int.mul_le_mul_of_nonneg_left (by omega) (by omega)
theorem up_neg {g z : Int} (hg : 0 < g) : -((-z) / g) * g = up g z := by
  have h := up_spec (z := z) hg
  have h1 := Int.emod_add_mul_ediv (-z) g
  have h2 := Int.emod_nonneg (-z) (show g ≠ 0 by omega)
  have h3 := Int.emod_lt_of_pos (-z) hg
  have e : -((-z) / g) * g = z + (-z) % g := by
    rw [Int.neg_mul, Int.mul_comm]
    omega
  rw [e]
  apply Int.le_antisymm
  · obtain ⟨p, hp⟩ := Int.dvd_of_emod_eq_zero h.2.2
    have : (z + -z % g) % g = 0 := by
      rw [← e]
      exact Int.mul_emod_left _ _
    obtain ⟨q, hq⟩ := Int.dvd_of_emod_eq_zero this
    rw [hp, hq]
    rw [hp] at h
    have h6 : g * q < z + g := by rw [← hq]; omega
    have h4 : g * q < g * (p + 1) := by rw [Int.mul_add]; omega
    have h5 : q < p + 1 := Int.lt_of_mul_lt_mul_left h4 (by omega)
    exact Int.mul_le_mul_of_nonneg_left (by omega) (by omega)
  · refine up_le hg ?_ (by omega)
    rw [← e]
    exact Int.mul_emod_left _ _
/-- the divisor of a paper's drop and repeat -/
def pg (r d : Int) : Int := (Nat.gcd r.toNat d.toNat : Nat)
theorem pg_pos {r d : Int} (h : 1 ≤ r) : 0 < pg r d := by
  unfold pg
  have : 0 < Nat.gcd r.toNat d.toNat := Nat.gcd_pos_of_pos_left _ (by omega)
  omega
theorem pg_le {r d : Int} (h : 1 ≤ r) : pg r d ≤ r := by
  unfold pg
  have : Nat.gcd r.toNat d.toNat ≤ r.toNat := Nat.gcd_le_left _ (by omega)
  omega
/-- the most strips of a roll l, begins being multiples of g -/
def most (g l z : Int) : Int := 1 + (l - z) / up g z
def strip (g l z : Int) : Int := if z ≤ l then most g l z else 0

-- NEEDS gcd
/-! ### steps -/
def stp (r d z s : Int) : Int := z + (s * d - z) % r
theorem bezout : ∀ (a b : Nat), ∃ x y : Int, ((Nat.gcd a b : Nat) : Int) = a * x + b * y
  | 0, b => ⟨0, 1, by rw [Nat.gcd_zero_left]; omega⟩
  | a + 1, b => by
    have hlt : b % (a + 1) < a + 1 := Nat.mod_lt _ (Nat.succ_pos a)
    obtain ⟨x, y, h⟩ := bezout (b % (a + 1)) (a + 1)
    refine ⟨y - ((b / (a + 1) : Nat) : Int) * x, x, ?_⟩
    rw [Nat.gcd_rec, h]
    have e : ((b % (a + 1) : Nat) : Int) = (b : Int) - ((a + 1 : Nat) : Int) * ((b / (a + 1) : Nat) : Int) := by
      have := Nat.mod_add_div b (a + 1)
      have h2 : ((b % (a + 1) : Nat) : Int) + ((a + 1 : Nat) : Int) * ((b / (a + 1) : Nat) : Int) = (b : Int) := by exact_mod_cast this
      omega
    rw [e, Int.sub_mul, Int.mul_sub, Int.mul_assoc]
    omega
  termination_by a _ => a
theorem pg_dvd_r {r d : Int} (h : 0 ≤ r) : pg r d ∣ r := by
  unfold pg
  have := Nat.gcd_dvd_left r.toNat d.toNat
  have h2 := Int.natCast_dvd_natCast.mpr this
  rwa [Int.toNat_of_nonneg h] at h2
theorem pg_dvd_d {r d : Int} (h : 0 ≤ d) : pg r d ∣ d := by
  unfold pg
  have := Nat.gcd_dvd_right r.toNat d.toNat
  have h2 := Int.natCast_dvd_natCast.mpr this
  rwa [Int.toNat_of_nonneg h] at h2
theorem stp_ge {r d z s : Int} (hr : 0 < r) : z ≤ stp r d z s ∧ stp r d z s < z + r := by
  unfold stp
  have := Int.emod_nonneg (s * d - z) (show r ≠ 0 by omega)
  have := Int.emod_lt_of_pos (s * d - z) hr
  omega
theorem stp_mod {r d z s : Int} (hr : 0 < r) (hd : 0 ≤ d) : stp r d z s % pg r d = 0 := by
  unfold stp
  have h1 := Int.emod_add_mul_ediv (s * d - z) r
  have e : z + (s * d - z) % r = s * d - r * ((s * d - z) / r) := by omega
  rw [e]
  exact Int.emod_eq_zero_of_dvd (Int.dvd_sub (Int.dvd_mul_of_dvd_right (pg_dvd_d hd)) (Int.dvd_mul_of_dvd_left (pg_dvd_r (by omega))))
theorem stp_up {r d z s : Int} (hr : 0 < r) (hd : 0 ≤ d) : up (pg r d) z ≤ stp r d z s :=
  up_le (pg_pos (by omega)) (stp_mod hr hd) (stp_ge hr).1
/-- some number of lines up to the repeat has that step -/
theorem stp_ex {r d z : Int} (hr : 0 < r) (hd : 0 ≤ d) : ∃ s : Int, 1 ≤ s ∧ s ≤ r ∧ stp r d z s = up (pg r d) z := by
  have hg := pg_pos (d := d) (show 1 ≤ r by omega)
  have hu := up_spec (z := z) hg
  obtain ⟨q, hq⟩ := Int.dvd_of_emod_eq_zero hu.2.2
  obtain ⟨x, y, hb⟩ := bezout r.toNat d.toNat
  rw [Int.toNat_of_nonneg (by omega), Int.toNat_of_nonneg hd] at hb
  have hb' : pg r d = r * x + d * y := hb
  -- y * q lines, reduced to 1 .. r
  have hle := pg_le (d := d) (show 1 ≤ r by omega)
  have m0 := Int.emod_nonneg (y * q - 1) (show r ≠ 0 by omega)
  have m1 := Int.emod_lt_of_pos (y * q - 1) hr
  refine ⟨(y * q - 1) % r + 1, by omega, by omega, ?_⟩
  have hm := Int.emod_add_mul_ediv (y * q - 1) r
  have key : ((y * q - 1) % r + 1) * d - z = (up (pg r d) z - z) + r * (-(x * q) - (y * q - 1) / r * d) := by
    have e1 : (y * q - 1) % r + 1 = y * q - r * ((y * q - 1) / r) := by omega
    rw [e1, hq, hb', Int.sub_mul, Int.add_mul, Int.mul_sub, Int.mul_neg]
    have e2 : y * q * d = d * y * q := by rw [Int.mul_comm (y * q) d, Int.mul_assoc]
    have e3 : r * ((y * q - 1) / r) * d = r * ((y * q - 1) / r * d) := Int.mul_assoc _ _ _
    have e4 : r * x * q = r * (x * q) := Int.mul_assoc _ _ _
    rw [e2, e3, e4]
    omega
  unfold stp
  rw [key, Int.add_mul_emod_self_left, Int.emod_eq_of_lt (by omega) (by omega)]
  omega
/-- b is the smallest number of lines with the smallest step -/
def Best (r d z b : Int) : Prop := (1 ≤ b ∧ b ≤ r) ∧ (∀ s, 1 ≤ s → s ≤ r → stp r d z b ≤ stp r d z s) ∧ ∀ s, 1 ≤ s → s < b → stp r d z b < stp r d z s
theorem Best.uniq {r d z b b' : Int} (h : Best r d z b) (h' : Best r d z b') : b = b' := by
  rcases Int.lt_trichotomy b b' with l | e | l
  · have h1 := h'.2.2 b h.1.1 l
    have h2 := h.2.1 b' h'.1.1 h'.1.2
    omega
  · exact e
  · have h1 := h.2.2 b' h'.1.1 l
    have h2 := h'.2.1 b h.1.1 h.1.2
    omega
theorem Best.stp {r d z b : Int} (hr : 0 < r) (hd : 0 ≤ d) (h : Best r d z b) : stp r d z b = up (pg r d) z := by
  obtain ⟨s, h1, h2, h3⟩ := stp_ex (z := z) hr hd
  have := h.2.1 s h1 h2
  have := stp_up (z := z) (s := b) hr hd
  omega

/-! ### the next begin -/
def nxt (r d f n : Int) : Int := f + (n * d - f) % r
theorem nxt_spec {r d f n : Int} (hr : 0 < r) : f ≤ nxt r d f n ∧ nxt r d f n < f + r ∧ nxt r d f n % r = n * d % r := by
  unfold nxt
  have h0 := Int.emod_nonneg (n * d - f) (show r ≠ 0 by omega)
  have h1 := Int.emod_lt_of_pos (n * d - f) hr
  refine ⟨by omega, by omega, ?_⟩
  have h2 := Int.emod_add_mul_ediv (n * d - f) r
  have e : f + (n * d - f) % r = n * d + r * (-((n * d - f) / r)) := by
    rw [Int.mul_neg]
    omega
  rw [e, Int.add_mul_emod_self_left]
theorem nxt_min {r d f n x : Int} (hr : 0 < r) (h1 : f ≤ x) (h2 : x % r = n * d % r) : nxt r d f n ≤ x := by
  have h := nxt_spec (d := d) (f := f) (n := n) hr
  have e : (x - nxt r d f n) % r = 0 := by
    rw [Int.sub_emod, h2, h.2.2, Int.sub_self]
    rfl
  obtain ⟨q, hq⟩ := Int.dvd_of_emod_eq_zero e
  rcases Int.lt_or_le q 0 with hq0 | hq0
  · have : r * q ≤ r * (-1) := Int.mul_le_mul_of_nonneg_left (by omega) (by omega)
    omega
  · have : 0 ≤ r * q := Int.mul_nonneg (by omega) hq0
    omega
theorem nxt_zero {r d n : Int} : nxt r d 0 n = n * d % r := by
  unfold nxt
  rw [Int.zero_add, Int.sub_zero]

-- NEEDS steps
-- NEEDS next
theorem up_add {g m z : Int} (hg : 0 < g) (hm : m % g = 0) : up g (m + z) = m + up g z := by
  obtain ⟨c, rfl⟩ := Int.dvd_of_emod_eq_zero hm
  unfold up
  have e : g * c + z + g - 1 = (z + g - 1) + c * g := by rw [Int.mul_comm g c]; omega
  rw [e, Int.add_mul_ediv_right _ _ (by omega), Int.add_mul, Int.mul_comm g c]
  omega
theorem up_mul {g z : Int} (hg : 0 < g) (k : Int) : (k * up g z) % g = 0 := by
  rw [Int.mul_emod, (up_spec (z := z) hg).2.2]
  simp
theorem up_pos {g z : Int} (hg : 0 < g) (hz : 1 ≤ z) : 0 < up g z := by
  have := (up_spec (z := z) hg).1
  omega
theorem most_eq {g l z k : Int} (hu : 0 < up g z) (h1 : (k - 1) * up g z + z ≤ l) (h2 : l < k * up g z + z) : most g l z = k := by
  unfold most
  have a1 : k - 1 ≤ (l - z) / up g z := (Int.le_ediv_iff_mul_le hu).mpr (by omega)
  have a2 : (l - z) / up g z < k := (Int.ediv_lt_iff_lt_mul hu).mpr (by omega)
  omega
theorem most_le {g l z : Int} (hu : 0 < up g z) (hz : z ≤ l) (h0 : 0 ≤ z) : 1 ≤ most g l z ∧ most g l z ≤ 1 + l := by
  unfold most
  have a1 : 0 ≤ (l - z) / up g z := Int.ediv_nonneg (by omega) (by omega)
  have a2 : (l - z) / up g z ≤ l - z := Int.ediv_le_self _ (by omega)
  omega
theorem most_mono {g l z : Int} (hg : 0 < g) (hz : 1 < z) (hl : z ≤ l) : most g l z ≤ most g l (z - 1) := by
  have u1 := up_spec (z := z) hg
  have u2 := up_spec (z := z - 1) hg
  have u3 : up g (z - 1) ≤ up g z := up_le hg u1.2.2 (by omega)
  unfold most
  have hu : 0 < up g z := by omega
  have hu2 : 0 < up g (z - 1) := by omega
  have a0 : 0 ≤ (l - z) / up g z := Int.ediv_nonneg (by omega) (by omega)
  have a1 : (l - z) / up g z * up g z ≤ l - z := Int.ediv_mul_le _ (by omega)
  have a2 : (l - z) / up g z * up g (z - 1) ≤ (l - z) / up g z * up g z := Int.mul_le_mul_of_nonneg_left u3 a0
  have a3 : (l - z) / up g z ≤ (l - (z - 1)) / up g (z - 1) := (Int.le_ediv_iff_mul_le hu2).mpr (by omega)
  omega
/-! strips cut one behind another -/
def bgs (r d l z : Int) : Int → List Int → List Int → Option (List Int)
  | _, acc, [] => some acc
  | f, acc, p :: ps => if l < nxt r d f p + z then none else bgs r d l z (nxt r d f p + z) (acc ++ [nxt r d f p]) ps
def optL : Option (List Int) → PyData
  | none => .none
  | some ns => .list (ns.map PyData.int)
inductive Cut (r d l z : Int) : List Int → Int → Prop
  | nil : Cut r d l z [] 0
  | snoc {ps : List Int} {f p : Int} : Cut r d l z ps f → nxt r d f p + z ≤ l → Cut r d l z (ps ++ [p]) (nxt r d f p + z)
theorem Cut.run {r d l z f : Int} {ps : List Int} (h : Cut r d l z ps f) : ∃ acc, ∀ qs, bgs r d l z 0 [] (ps ++ qs) = bgs r d l z f acc qs := by
  induction h with
  | nil => exact ⟨[], fun qs => rfl⟩
  | @snoc ps f p h1 h2 ih =>
    obtain ⟨acc, ih⟩ := ih
    refine ⟨acc ++ [nxt r d f p], fun qs => ?_⟩
    rw [List.append_assoc, ih]
    show (if l < nxt r d f p + z then none else _) = _
    rw [if_neg (by omega)]
    rfl
theorem Cut.all {r d l z f : Int} {ps : List Int} (h : Cut r d l z ps f) : ∃ acc, bgs r d l z 0 [] ps = some acc := by
  obtain ⟨acc, h⟩ := h.run
  have := h []
  rw [List.append_nil] at this
  exact ⟨acc, this⟩
theorem nxt_add {r d f p k : Int} : nxt r d f (p + r * k) = nxt r d f p := by
  unfold nxt
  have e : (p + r * k) * d - f = (p * d - f) + r * (k * d) := by rw [Int.add_mul, Int.mul_assoc]; omega
  rw [e, Int.add_mul_emod_self_left]
theorem nxt_up {r d f : Int} (hr : 0 < r) (hd : 0 ≤ d) : (∀ p, up (pg r d) f ≤ nxt r d f p) ∧ ∃ p : Int, 0 ≤ p ∧ p < r ∧ nxt r d f p = up (pg r d) f := by
  refine ⟨fun p => stp_up hr hd, ?_⟩
  obtain ⟨s, s1, s2, s3⟩ := stp_ex (z := f) hr hd
  by_cases h : s = r
  · refine ⟨0, Int.le_refl _, hr, ?_⟩
    subst h
    have : nxt s d f (0 + s * 1) = nxt s d f 0 := nxt_add
    rw [← this]
    have e : (0 : Int) + s * 1 = s := by omega
    rw [e]
    exact s3
  · exact ⟨s, by omega, by omega, s3⟩

-- NEEDS most
/-! rolls of a line -/
/-- how many strips a roll gives that begins with a place -/
def sf (r d l z s p : Int) : Int := if p * d % r + z ≤ l then 1 + (l - z - p * d % r) / stp r d z s else 0
theorem sf_pos {r d l z s p : Int} (hr : 0 < r) (hz : 1 ≤ z) (h : p * d % r + z ≤ l) : 1 ≤ sf r d l z s p := by
  unfold sf
  rw [if_pos h]
  have h1 := stp_ge (d := d) (z := z) (s := s) hr
  have := Int.ediv_nonneg (a := l - z - p * d % r) (b := stp r d z s) (by omega) (by omega)
  omega
/-- rolls until c strips are cut: g x strips come from the roll that begins behind x strips -/
def rlF (g : Int → Int) (c : Int) : Nat → Int → Int
  | 0, _ => 0
  | n + 1, x => if x < c then 1 + rlF g c n (x + g x) else 0
def rl (g : Int → Int) (c x : Int) : Int := rlF g c (c - x).toNat x
theorem rlF_eq {g : Int → Int} {c : Int} (hg : ∀ x, 0 ≤ x → x < c → 1 ≤ g x) : ∀ (n m : Nat) (x : Int), 0 ≤ x → (c - x).toNat ≤ n → (c - x).toNat ≤ m → rlF g c n x = rlF g c m x
  | 0, 0, _, _, _, _ => rfl
  | 0, m + 1, x, _, h, _ => by
    rw [rlF, rlF, if_neg (by omega)]
  | n + 1, 0, x, _, _, h => by
    rw [rlF, rlF, if_neg (by omega)]
  | n + 1, m + 1, x, h0, h1, h2 => by
    rw [rlF, rlF]
    by_cases h : x < c
    · rw [if_pos h, if_pos h]
      have := hg x h0 h
      rw [rlF_eq hg n m (x + g x) (by omega) (by omega) (by omega)]
    · rw [if_neg h, if_neg h]
theorem rl_end {g : Int → Int} {c x : Int} (h : c ≤ x) : rl g c x = 0 := by
  unfold rl
  have e : (c - x).toNat = 0 := by omega
  rw [e]
  rfl
theorem rl_step {g : Int → Int} {c x : Int} (hg : ∀ x, 0 ≤ x → x < c → 1 ≤ g x) (h0 : 0 ≤ x) (h : x < c) : rl g c x = 1 + rl g c (x + g x) := by
  have hx := hg x h0 h
  have e : (c - x).toNat = ((c - x).toNat - 1) + 1 := by omega
  unfold rl
  rw [e, rlF, if_pos h]
  rw [rlF_eq hg _ (c - (x + g x)).toNat (x + g x) (by omega) (by omega) (by omega)]
theorem rl_nonneg {g : Int → Int} {c : Int} : ∀ (n : Nat) (x : Int), 0 ≤ rlF g c n x
  | 0, _ => Int.le_refl _
  | n + 1, x => by
    rw [rlF]
    split
    · have := rl_nonneg (g := g) (c := c) n (x + g x)
      omega
    · exact Int.le_refl _
theorem rl_le {g : Int → Int} {c : Int} (hg : ∀ x, 0 ≤ x → x < c → 1 ≤ g x) : ∀ (n : Nat) (x : Int), 0 ≤ x → x ≤ c → (c - x).toNat = n → rl g c x ≤ c - x := by
  intro n
  induction n using Nat.strongRecOn with
  | _ n ih =>
    intro x h0 h1 hn
    by_cases h : x < c
    · rw [rl_step hg h0 h]
      have hx := hg x h0 h
      by_cases h2 : x + g x ≤ c
      · have := ih (c - (x + g x)).toNat (by omega) (x + g x) (by omega) h2 rfl
        omega
      · rw [rl_end (by omega)]
        omega
    · rw [rl_end (by omega)]
      omega
/-- each roll gives at most M strips -/
theorem rl_ge {g : Int → Int} {c M : Int} (hg : ∀ x, 0 ≤ x → x < c → 1 ≤ g x) (hM : ∀ x, 0 ≤ x → x < c → g x ≤ M) (hM0 : 0 ≤ M) : ∀ (n : Nat) (x : Int), 0 ≤ x → (c - x).toNat = n → c - x ≤ rl g c x * M := by
  intro n
  induction n using Nat.strongRecOn with
  | _ n ih =>
    intro x h0 hn
    by_cases h : x < c
    · rw [rl_step hg h0 h]
      have hx := hg x h0 h
      have hy := hM x h0 h
      have := ih (c - (x + g x)).toNat (by omega) (x + g x) (by omega) rfl
      rw [Int.add_mul, Int.one_mul]
      omega
    · rw [rl_end (by omega)]
      omega
/-- from a, after n rolls, b: each begun before c -/
inductive Rch (g : Int → Int) (c : Int) : Int → Nat → Int → Prop
  | refl (a : Int) : Rch g c a 0 a
  | step {a b : Int} {n : Nat} : Rch g c a n b → b < c → Rch g c a (n + 1) (b + g b)
section
variable {g : Int → Int} {c a b : Int} {n : Nat}
theorem Rch.le (hg : ∀ x, 0 ≤ x → x < c → 1 ≤ g x) (ha : 0 ≤ a) (h : Rch g c a n b) : a + n ≤ b := by
  induction h with
  | refl => omega
  | @step b n h hb ih =>
    have := hg b (by omega) hb
    omega
theorem Rch.rl (hg : ∀ x, 0 ≤ x → x < c → 1 ≤ g x) (ha : 0 ≤ a) (h : Rch g c a n b) : rl g c a = n + rl g c b := by
  induction h with
  | refl => simp
  | @step b n h hb ih =>
    have := h.le hg ha
    rw [ih, rl_step hg (by omega) hb]
    omega
theorem Rch.shift {κ : Int → Int} (hg : ∀ x, 0 ≤ x → x < c → 1 ≤ g x) (hk : ∀ x y, κ x = κ y → g x = g y) (hs : ∀ x y u, κ x = κ y → κ (x + u) = κ (y + u)) (ha : 0 ≤ a) (h : Rch g c a n b) {y : Int} (hy : κ y = κ a) (hc : y + (b - a) ≤ c) : Rch g c y n (y + (b - a)) := by
  induction h with
  | refl => 
    have e : y + (a - a) = y := by omega
    rw [e]
    exact .refl y
  | @step b n h hb ih =>
    have h1 := h.le hg ha
    have h2 := hg b (by omega) hb
    have h3 := ih (by omega)
    have h4 := Rch.step h3 (by omega)
    have e1 : κ (y + (b - a)) = κ b := by
      have := hs y a (b - a) hy
      rw [this]
      congr 1
      omega
    rw [hk _ _ e1] at h4
    have e2 : y + (b - a) + g b = y + (b + g b - a) := by omega
    rw [e2] at h4
    exact h4
theorem rl_turns {κ : Int → Int} (hg : ∀ x, 0 ≤ x → x < c → 1 ≤ g x) (hk : ∀ x y, κ x = κ y → g x = g y) (hs : ∀ x y u, κ x = κ y → κ (x + u) = κ (y + u)) (ha : 0 ≤ a) (h : Rch g c a n b) (hab : κ b = κ a) : ∀ (t : Nat) (y : Int), 0 ≤ y → κ y = κ a → y + t * (b - a) ≤ c → rl g c y = t * n + rl g c (y + t * (b - a)) ∧ κ (y + t * (b - a)) = κ a
  | 0, y, _, hy, _ => by simp [hy]
  | t + 1, y, h0, hy, hc => by
    have h1 := h.le hg ha
    have e1 : ((t + 1 : Nat) : Int) * (b - a) = t * (b - a) + (b - a) := by
      rw [Int.natCast_add, Int.add_mul]
      simp
    rw [e1] at hc ⊢
    have h2 : 0 ≤ (t : Int) * (b - a) := Int.mul_nonneg (by omega) (by omega)
    have h3 := (h.shift hg hk hs ha hy (by omega)).rl hg h0
    have e2 : κ (y + (b - a)) = κ a := by
      rw [hs y a (b - a) hy]
      have e3 : a + (b - a) = b := by omega
      rw [e3, hab]
    obtain ⟨h4, h5⟩ := rl_turns hg hk hs ha h hab t (y + (b - a)) (by omega) e2 (by omega)
    have e4 : y + (b - a) + t * (b - a) = y + (t * (b - a) + (b - a)) := by omega
    rw [e4] at h4 h5
    refine ⟨?_, h5⟩
    rw [h3, h4, Int.natCast_add, Int.add_mul]
    simp
    omega
end
/-- how many strips the roll of a line gives that begins behind x strips -/
def gl (r d l z s line : Int) (x : Int) : Int := sf r d l z s (line + x * s)
theorem gl_key {r d l z s line x y : Int} (h : (line + x * s) * d % r = (line + y * s) * d % r) : gl r d l z s line x = gl r d l z s line y := by
  unfold gl sf
  rw [h]
theorem key_add {r d s line x y : Int} (u : Int) (h : (line + x * s) * d % r = (line + y * s) * d % r) : (line + (x + u) * s) * d % r = (line + (y + u) * s) * d % r := by
  have e : ∀ v : Int, (line + (v + u) * s) * d = (line + v * s) * d + u * s * d := fun v => by
    rw [Int.add_mul v, ← Int.add_assoc, Int.add_mul (line + v * s)]
  rw [e x, e y, Int.add_emod, h, ← Int.add_emod]
theorem sf_le {r d l z s p : Int} (hr : 0 < r) (hd : 0 ≤ d) (hz : 1 ≤ z) (hl : z ≤ l) : sf r d l z s p ≤ most (pg r d) l z := by
  have hm := most_le (g := pg r d) (up_pos (pg_pos (d := d) (by omega)) hz) hl (by omega)
  unfold sf
  split
  · rename_i h
    unfold most
    have h1 := stp_up (z := z) (s := s) hr hd
    have h2 := up_pos (z := z) (pg_pos (d := d) (show 1 ≤ r by omega)) hz
    have h3 := Int.emod_nonneg (p * d) (show r ≠ 0 by omega)
    have h4 : 0 ≤ (l - z - p * d % r) / stp r d z s := Int.ediv_nonneg (by omega) (by omega)
    have h5 : (l - z - p * d % r) / stp r d z s * stp r d z s ≤ l - z - p * d % r := Int.ediv_mul_le _ (by omega)
    have h6 : (l - z - p * d % r) / stp r d z s * up (pg r d) z ≤ (l - z - p * d % r) / stp r d z s * stp r d z s := Int.mul_le_mul_of_nonneg_left h1 h4
    have h7 : (l - z - p * d % r) / stp r d z s ≤ (l - z) / up (pg r d) z := (Int.le_ediv_iff_mul_le h2).mpr (by omega)
    omega
  · omega
/-! all places -/
def allC (r d l z n : Int) : Bool := (List.range (min n r).toNat).all fun p => decide (((p : Nat) : Int) * d % r + z ≤ l)
theorem allC_at {r d l z n : Int} (hr : 0 < r) (h : allC r d l z n = true) {p : Int} (h0 : 0 ≤ p) (h1 : p < n) : p * d % r + z ≤ l := by
  unfold allC at h
  rw [List.all_eq_true] at h
  by_cases hp : p < r
  · have := of_decide_eq_true (h p.toNat (List.mem_range.mpr (by omega)))
    have e : ((p.toNat : Nat) : Int) = p := by omega
    rw [e] at this
    exact this
  · have a1 := Int.emod_nonneg p (show r ≠ 0 by omega)
    have a2 := Int.emod_lt_of_pos p hr
    have := of_decide_eq_true (h (p % r).toNat (List.mem_range.mpr (by omega)))
    have e : (((p % r).toNat : Nat) : Int) = p % r := by omega
    rw [e, Int.mul_emod, Int.emod_emod_of_dvd _ (Int.dvd_refl r), ← Int.mul_emod] at this
    exact this
/-- the strips of a line -/
def cnt (s n i : Int) : Int := (n - i + s - 1) / s
theorem cnt_lt {s n i x : Int} (hs : 0 < s) (hx : x < cnt s n i) : i + x * s < n := by
  unfold cnt at hx
  have : x * s + s ≤ n - i + s - 1 := by
    have := (Int.le_ediv_iff_mul_le (a := x + 1) (b := n - i + s - 1) hs).mp (by omega)
    rw [Int.add_mul, Int.one_mul] at this
    exact this
  omega
def rbF (r d l z s n : Int) : Nat → Int
  | 0 => 0
  | i + 1 => rbF r d l z s n i + rl (gl r d l z s (i : Nat)) (cnt s n (i : Nat)) 0
/-- the rolls by turns -/
def rbt (r d l z s n : Int) : Option Int := if allC r d l z n = true then some (rbF r d l z s n (min s n).toNat) else none
def optI : Option Int → PyData
  | none => .none
  | some i => .int i
theorem gl_pos {r d l z s n i : Int} (hr : 0 < r) (hz : 1 ≤ z) (hs : 0 < s) (hi : 0 ≤ i) (h : allC r d l z n = true) : ∀ x, 0 ≤ x → x < cnt s n i → 1 ≤ gl r d l z s i x := fun x h0 h1 =>
  sf_pos hr hz (allC_at hr h (by have := Int.mul_nonneg h0 (show 0 ≤ s by omega); omega) (cnt_lt hs h1))
theorem cnt_bd {s n i : Int} (hs : 0 < s) (hi : 0 ≤ i) (h : i ≤ n) : 0 ≤ cnt s n i ∧ cnt s n i ≤ n := by
  unfold cnt
  refine ⟨Int.ediv_nonneg (by omega) (by omega), ?_⟩
  have : (n - i + s - 1) / s < n + 1 := (Int.ediv_lt_iff_lt_mul hs).mpr (by
    have : n * 1 ≤ n * s := Int.mul_le_mul_of_nonneg_left (by omega) (by omega)
    rw [Int.add_mul]
    omega)
  omega
/-! keys of a dict of phases -/
def keysOk (r : Int) (kvs : List (Key × PyData)) : Prop := (kvs.map (·.1)).Nodup ∧ ∀ p ∈ kvs, ∃ k : Int, p.1 = Sum.inl k ∧ 0 ≤ k ∧ k < r
theorem keysOk_len {r : Int} {kvs : List (Key × PyData)} (h : keysOk r kvs) : kvs.length ≤ r.toNat := by
  obtain ⟨h1, h2⟩ := h
  have hn : (kvs.map fun p => (Sum.elim Int.toNat (fun _ => 0) p.1 : Nat)).Nodup := by
    unfold List.Nodup at h1 ⊢
    rw [List.pairwise_map] at h1 ⊢
    refine List.Pairwise.imp_of_mem (fun {p q} hp hq hne => ?_) h1
    obtain ⟨k, e1, k0, k1⟩ := h2 p hp
    obtain ⟨k', e2, k2, k3⟩ := h2 q hq
    rw [e1, e2] at hne ⊢
    intro hc
    apply hne
    have hc : k.toNat = k'.toNat := hc
    congr 1
    omega
  have := nat_nodup_len _ (List.range r.toNat) hn fun x hx => by
    obtain ⟨p, hp, rfl⟩ := List.mem_map.mp hx
    obtain ⟨k, e1, k0, k1⟩ := h2 p hp
    rw [e1]
    exact List.mem_range.mpr (show k.toNat < r.toNat by omega)
  simpa using this
theorem keysOk_put {r : Int} {kvs : List (Key × PyData)} (h : keysOk r kvs) {k : Int} (k0 : 0 ≤ k) (k1 : k < r) (d : PyData) : keysOk r (ptD kvs (Sum.inl k) d) := by
  obtain ⟨h1, h2⟩ := h
  unfold ptD
  split
  · refine ⟨?_, fun p hp => ?_⟩
    · rw [List.map_map]
      have e : ((fun x : Key × PyData => x.1) ∘ fun kv : Key × PyData => if kv.1 = Sum.inl k then (kv.1, d) else kv) = fun x => x.1 := by
        funext x
        simp only [Function.comp]
        split <;> rfl
      rw [e]
      exact h1
    · obtain ⟨q, hq, rfl⟩ := List.mem_map.mp hp
      split
      · exact h2 q hq
      · exact h2 q hq
  · rename_i hn
    refine ⟨?_, fun p hp => ?_⟩
    · rw [List.map_append, List.nodup_append]
      refine ⟨h1, by simp, fun x hx y hy => ?_⟩
      simp at hy
      subst hy
      obtain ⟨p, hp, rfl⟩ := List.mem_map.mp hx
      intro e
      apply hn
      unfold gtD
      rw [Option.isSome_map, List.find?_isSome]
      exact ⟨p, hp, decide_eq_true e⟩
    · rcases List.mem_append.mp hp with hp | hp
      · exact h2 p hp
      · simp at hp
        subst hp
        exact ⟨k, rfl, k0, k1⟩

-- NEEDS most
/-! the rolls of all lines, strip by strip -/
def lineT (r d l z : Int) : List Int → List (List Int) × List Int → Option (List (List Int) × List Int)
  | [], st => some st
  | p :: ps, (rs, ro) => if l < p * d % r + z then none else if (bgs r d l z 0 [] (ro ++ [p])).isNone = true then lineT r d l z ps (rs ++ [ro], [p]) else lineT r d l z ps (rs, ro ++ [p])
/-- the places of a line -/
def plc (s n i : Int) : List Int := (List.range (rgN i n s)).map fun j => i + ((j : Nat) : Int) * s
def turnA (r d l z s n : Int) : List Int → List (List Int) → Option (List (List Int))
  | [], rs => some rs
  | i :: is, rs => match lineT r d l z (plc s n i) (rs, []) with
    | none => none
    | some (rs', ro) => turnA r d l z s n is (rs' ++ [ro])
def linesI (k : Nat) : List Int := (List.range k).map fun i => 0 + ((i : Nat) : Int)
def turned (r d l z s n : Int) : Option (List (List Int)) := turnA r d l z s n (linesI (min s n).toNat) []
def optR : Option (List (List Int)) → PyData
  | none => .none
  | some rs => .list (rs.map fun ro => .tuple (ro.map PyData.int))
theorem rgN_le {i n s : Int} (hs : 0 < s) (hi : 0 ≤ i) (hn : 0 ≤ n) : rgN i n s ≤ n.toNat := by
  unfold rgN
  split
  · have h1 := Int.ediv_nonneg (a := n - i - 1) (b := s) (by omega) (by omega)
    have h2 := Int.ediv_le_self s (show (0 : Int) ≤ n - i - 1 by omega)
    omega
  · simp
theorem plc_D (s n i : Int) : rng3D i s (rgN i n s) = (plc s n i).map PyData.int := by
  unfold rng3D plc
  rw [List.map_map]
  rfl
theorem plc_len {s n i : Int} : (plc s n i).length = rgN i n s := by simp [plc]
theorem linesI_D (k : Nat) : rngD 0 k = (linesI k).map PyData.int := by
  unfold rngD linesI
  rw [List.map_map]
  rfl
theorem linesI_at {k i : Nat} (h : i < k) : (linesI k)[i]? = some ((i : Nat) : Int) := by
  unfold linesI
  simp [h]
theorem linesI_len {k : Nat} : (linesI k).length = k := by simp [linesI]

-- NEEDS turned
/-! the strips of all rolls, line by line -/
def layL (r d l z : Int) : List Int → List (List (Int × Int)) → List (Int × Int) → Int → List (List (Int × Int)) × List (Int × Int)
  | [], o, ro, _ => (o, ro)
  | p :: ps, o, ro, f => if l < nxt r d f p + z then layL r d l z ps (o ++ [ro]) [(p, p * d % r)] (p * d % r + z) else layL r d l z ps o (ro ++ [(p, nxt r d f p)]) (nxt r d f p + z)
def layA (r d l z s n : Int) : List Int → List (List (Int × Int)) → List (List (Int × Int))
  | [], o => o
  | i :: is, o => layA r d l z s n is ((layL r d l z (plc s n i) o [] 0).1 ++ [(layL r d l z (plc s n i) o [] 0).2])
def lay (r d l z s n : Int) : List (List (Int × Int)) := layA r d l z s n (linesI (min s n).toNat) []
def pcut (q : Int × Int) : PyData := .tuple [.int q.1, .int q.2]
def prow (ro : List (Int × Int)) : PyData := .tuple (ro.map pcut)

/-! ### plain data of bounded depth -/
def Sim : Nat → PyData → Prop
  | _, .none => True
  | _, .bool _ => True
  | _, .int _ => True
  | _, .str x => PyData.strOk x = true
  | n + 1, .list ds => ds.length ≤ 1000000 ∧ ∀ d ∈ ds, Sim n d
  | n + 1, .tuple ds => ds.length ≤ 1000000 ∧ ∀ d ∈ ds, Sim n d
  | 0, .list _ => False
  | 0, .tuple _ => False
  | _, .dict _ => False
theorem canLayAll_of : ∀ {ds : List PyData}, (∀ d ∈ ds, d.canLay0 = true) → PyData.canLayAll0 ds = true
  | [], _ => by simp [PyData.canLayAll0]
  | d :: ds, h => by
    simp only [PyData.canLayAll0, Bool.and_eq_true]
    exact ⟨h d (by simp), canLayAll_of fun e he => h e (by simp [he])⟩
theorem depthAll_of {n : Nat} : ∀ {ds : List PyData}, (∀ d ∈ ds, d.depth ≤ n) → PyData.depthAll ds ≤ n
  | [], _ => by simp [PyData.depthAll]
  | d :: ds, h => by
    simp only [PyData.depthAll]
    have h1 := h d (by simp)
    have h2 := depthAll_of (ds := ds) fun e he => h e (by simp [he])
    omega
theorem Sim.lay : ∀ {n : Nat} {d : PyData}, Sim n d → d.canLay0 = true ∧ d.depth ≤ n
  | n, .none, _ => by simp [PyData.canLay0, PyData.depth]
  | n, .bool _, _ => by simp [PyData.canLay0, PyData.depth]
  | n, .int _, _ => by simp [PyData.canLay0, PyData.depth]
  | n, .str x, h => by
    have h : PyData.strOk x = true := by cases n <;> exact h
    simp [PyData.canLay0, PyData.depth, h]
  | n + 1, .list ds, h => by
    simp only [PyData.canLay0, PyData.depth]
    refine ⟨canLayAll_of fun d hd => (Sim.lay (h.2 d hd)).1, ?_⟩
    have := depthAll_of (n := n) (ds := ds) fun d hd => (Sim.lay (h.2 d hd)).2
    omega
  | n + 1, .tuple ds, h => by
    simp only [PyData.canLay0, PyData.depth]
    refine ⟨canLayAll_of fun d hd => (Sim.lay (h.2 d hd)).1, ?_⟩
    have := depthAll_of (n := n) (ds := ds) fun d hd => (Sim.lay (h.2 d hd)).2
    omega
  | 0, .list _, h => h.elim
  | 0, .tuple _, h => h.elim
  | n, .dict _, h => by cases n <;> exact h.elim
theorem Sim.shaped {n : Nat} {d : PyData} (h : Sim n d) (hn : n ≤ 64) : SeqAt.shaped d = true := by
  unfold SeqAt.shaped
  rw [Bool.and_eq_true]
  exact ⟨h.lay.1, decide_eq_true (Nat.le_trans h.lay.2 hn)⟩
theorem eqvAll_self : ∀ {ds : List PyData}, (∀ d ∈ ds, PyData.eqv d d = true) → PyData.eqvAll ds ds = true
  | [], _ => by simp [PyData.eqvAll]
  | d :: ds, h => by
    simp only [PyData.eqvAll, Bool.and_eq_true]
    exact ⟨h d (by simp), eqvAll_self fun e he => h e (by simp [he])⟩
theorem Sim.self : ∀ {n : Nat} {d : PyData}, Sim n d → PyData.eqv d d = true
  | n, .none, _ => by simp [PyData.eqv]
  | n, .bool _, _ => by simp [PyData.eqv]
  | n, .int _, _ => by simp [PyData.eqv]
  | n, .str x, h => by simp [PyData.eqv]
  | n + 1, .list ds, h => by
    simp only [PyData.eqv]
    exact eqvAll_self fun d hd => Sim.self (h.2 d hd)
  | n + 1, .tuple ds, h => by
    simp only [PyData.eqv]
    exact eqvAll_self fun d hd => Sim.self (h.2 d hd)
  | 0, .list _, h => h.elim
  | 0, .tuple _, h => h.elim
  | n, .dict _, h => by cases n <;> exact h.elim
theorem Sim.up : ∀ {n m : Nat} {d : PyData}, Sim n d → n ≤ m → Sim m d
  | n, m, .none, _, _ => by cases m <;> trivial
  | n, m, .bool _, _, _ => by cases m <;> trivial
  | n, m, .int _, _, _ => by cases m <;> trivial
  | n, m, .str x, h, _ => by
    have h : PyData.strOk x = true := by cases n <;> exact h
    cases m <;> exact h
  | n + 1, 0, .list ds, h, e => by omega
  | n + 1, m + 1, .list ds, h, e => ⟨h.1, fun d hd => (h.2 d hd).up (by omega)⟩
  | n + 1, 0, .tuple ds, h, e => by omega
  | n + 1, m + 1, .tuple ds, h, e => ⟨h.1, fun d hd => (h.2 d hd).up (by omega)⟩
  | 0, _, .list _, h, _ => h.elim
  | 0, _, .tuple _, h, _ => h.elim
  | n, _, .dict _, h, _ => by cases n <;> exact h.elim
theorem sim_dict {n : Nat} {k : List (PyData × PyData)} (h : Sim n (.dict k)) : False := by cases n <;> exact h
theorem sim_int {n : Nat} {i : Int} : Sim n (.int i) := by cases n <;> trivial
theorem sim_bool {n : Nat} {i : Bool} : Sim n (.bool i) := by cases n <;> trivial
theorem sim_none {n : Nat} : Sim n .none := by cases n <;> trivial
theorem sim_ints {n : Nat} {ns : List Int} (h : ns.length ≤ 1000000) : Sim (n + 1) (.list (ns.map PyData.int)) := ⟨by rw [List.length_map]; exact h, fun d hd => by
  obtain ⟨i, _, rfl⟩ := List.mem_map.mp hd
  exact sim_int⟩
theorem sim_intsT {n : Nat} {ns : List Int} (h : ns.length ≤ 1000000) : Sim (n + 1) (.tuple (ns.map PyData.int)) := ⟨by rw [List.length_map]; exact h, fun d hd => by
  obtain ⟨i, _, rfl⟩ := List.mem_map.mp hd
  exact sim_int⟩
/-- == of ints' data is equality -/
theorem eqvAll_ints : ∀ {ns ms : List Int}, PyData.eqvAll (ns.map PyData.int) (ms.map PyData.int) = decide (ns = ms)
  | [], [] => by simp [PyData.eqvAll]
  | [], m :: ms => by simp [PyData.eqvAll]
  | n :: ns, [] => by simp [PyData.eqvAll]
  | n :: ns, m :: ms => by
    simp only [List.map_cons, PyData.eqvAll, PyData.eqv]
    rw [eqvAll_ints]
    by_cases h1 : n = m
    · by_cases h2 : ns = ms
      · simp [h1, h2]
      · simp [h1, h2]
    · simp [h1]
theorem eqv_ints {ns ms : List Int} : PyData.eqv (.list (ns.map PyData.int)) (.list (ms.map PyData.int)) = decide (ns = ms) := by
  simp only [PyData.eqv]
  exact eqvAll_ints
theorem eqv_intsT {ns ms : List Int} : PyData.eqv (.tuple (ns.map PyData.int)) (.tuple (ms.map PyData.int)) = decide (ns = ms) := by
  simp only [PyData.eqv]
  exact eqvAll_ints

-- NEEDS turns
-- NEEDS layout
-- NEEDS sim
/-! papers multiplied -/
theorem stp_sc {f r d z s : Int} (hf : 0 < f) : stp (f * r) (f * d) (f * z) s = f * stp r d z s := by
  unfold stp
  have e : s * (f * d) - f * z = f * (s * d - z) := by rw [Int.mul_sub, Int.mul_left_comm]
  rw [e, Int.mul_emod_mul_of_pos _ _ hf, Int.mul_add]
theorem ph_sc {f r d p : Int} (hf : 0 < f) : p * (f * d) % (f * r) = f * (p * d % r) := by
  rw [Int.mul_left_comm, Int.mul_emod_mul_of_pos _ _ hf]
theorem nxt_sc {f r d x p : Int} (hf : 0 < f) : nxt (f * r) (f * d) (f * x) p = f * nxt r d x p := by
  unfold nxt
  have e : p * (f * d) - f * x = f * (p * d - x) := by rw [Int.mul_sub, Int.mul_left_comm]
  rw [e, Int.mul_emod_mul_of_pos _ _ hf, Int.mul_add]
theorem pg_sc {f r d : Int} (hf : 0 < f) (hr : 0 ≤ r) (hd : 0 ≤ d) : pg (f * r) (f * d) = f * pg r d := by
  unfold pg
  rw [Int.toNat_mul (by omega) hr, Int.toNat_mul (by omega) hd, Nat.gcd_mul_left, Int.natCast_mul, Int.toNat_of_nonneg (by omega)]
theorem up_sc {f g z : Int} (hf : 0 < f) (hg : 0 < g) : up (f * g) (f * z) = f * up g z := by
  have hfg : 0 < f * g := Int.mul_pos hf hg
  have h1 := up_spec (z := z) hg
  have h2 := up_spec (z := f * z) hfg
  apply Int.le_antisymm
  · refine up_le hfg ?_ (Int.mul_le_mul_of_nonneg_left h1.1 (by omega))
    rw [Int.mul_emod_mul_of_pos _ _ hf, h1.2.2]
    simp
  · obtain ⟨q, hq⟩ := Int.dvd_of_emod_eq_zero h2.2.2
    rw [hq, Int.mul_assoc]
    refine Int.mul_le_mul_of_nonneg_left (up_le hg (Int.mul_emod_right _ _) ?_) (by omega)
    have h3 := h2.1
    rw [hq, Int.mul_assoc] at h3
    exact Int.le_of_mul_le_mul_left h3 hf
theorem most_sc {f g l z : Int} (hf : 0 < f) (hg : 0 < g) : most (f * g) (f * l) (f * z) = most g l z := by
  unfold most
  rw [up_sc hf hg, ← Int.mul_sub, Int.mul_ediv_mul_of_pos _ _ hf]
theorem stp_per {r d z s : Int} (k : Int) : stp r d z (s + r * k) = stp r d z s := by
  unfold stp
  have e : (s + r * k) * d - z = s * d - z + r * (k * d) := by rw [Int.add_mul, Int.mul_assoc]; omega
  rw [e, Int.add_mul_emod_self_left]
/-- the best number of lines stays -/
theorem best_sc {f r d z b b' : Int} (hf : 0 < f) (hr : 0 < r) (hd : 0 ≤ d) (h : Best r d z b) (h' : Best (f * r) (f * d) (f * z) b') : b' = b := by
  obtain ⟨⟨b1, b2⟩, b3, b4⟩ := h
  have hle : r ≤ f * r := by
    have : 1 * r ≤ f * r := Int.mul_le_mul_of_nonneg_right (by omega) (by omega)
    omega
  refine h'.uniq ⟨⟨b1, by omega⟩, fun s s1 s2 => ?_, fun s s1 s2 => ?_⟩
  · rw [stp_sc hf, stp_sc hf]
    refine Int.mul_le_mul_of_nonneg_left ?_ (by omega)
    have m0 := Int.emod_nonneg (s - 1) (show r ≠ 0 by omega)
    have m1 := Int.emod_lt_of_pos (s - 1) hr
    have hm := Int.emod_add_mul_ediv (s - 1) r
    have e : s = (s - 1) % r + 1 + r * ((s - 1) / r) := by omega
    rw [e, stp_per]
    exact b3 _ (by omega) (by omega)
  · rw [stp_sc hf, stp_sc hf]
    exact Int.mul_lt_mul_of_pos_left (b4 s s1 s2) hf
theorem ds_sc {f a l : Int} (hf : 0 < f) : f * a ≤ f * l ↔ a ≤ l := by
  exact ⟨fun h => Int.le_of_mul_le_mul_left h hf, fun h => Int.mul_le_mul_of_nonneg_left h (by omega)⟩
theorem allC_mk {r d l z n : Int} (h : ∀ p, 0 ≤ p → p < n → p * d % r + z ≤ l) : allC r d l z n = true := by
  unfold allC
  rw [List.all_eq_true]
  intro p hp
  have := List.mem_range.mp hp
  exact decide_eq_true (h _ (by omega) (by omega))
theorem allC_sc {f r d l z n : Int} (hf : 0 < f) (hr : 0 < r) : allC (f * r) (f * d) (f * l) (f * z) n = allC r d l z n := by
  have key : ∀ p : Int, p * (f * d) % (f * r) + f * z ≤ f * l ↔ p * d % r + z ≤ l := fun p => by
    rw [ph_sc hf, ← Int.mul_add, ds_sc hf]
  rw [Bool.eq_iff_iff]
  constructor
  · intro h
    exact allC_mk fun p p0 p1 => by
      have := allC_at (Int.mul_pos hf hr) h p0 p1
      rw [key] at this
      exact this
  · intro h
    exact allC_mk fun p p0 p1 => by
      rw [key]
      exact allC_at hr h p0 p1
theorem sf_sc {f r d l z s p : Int} (hf : 0 < f) : sf (f * r) (f * d) (f * l) (f * z) s p = sf r d l z s p := by
  unfold sf
  rw [ph_sc hf, stp_sc hf, ← Int.mul_add, ← Int.mul_sub, ← Int.mul_sub, Int.mul_ediv_mul_of_pos _ _ hf]
  by_cases h : p * d % r + z ≤ l
  · rw [if_pos h, if_pos ((ds_sc hf).mpr h)]
  · rw [if_neg h, if_neg fun q => h ((ds_sc hf).mp q)]
theorem gl_sc {f r d l z s i : Int} (hf : 0 < f) : gl (f * r) (f * d) (f * l) (f * z) s i = gl r d l z s i := by
  funext x
  exact sf_sc hf
theorem rbF_sc {f r d l z s n : Int} (hf : 0 < f) : ∀ k : Nat, rbF (f * r) (f * d) (f * l) (f * z) s n k = rbF r d l z s n k
  | 0 => rfl
  | k + 1 => by rw [rbF, rbF, rbF_sc hf k, gl_sc hf]
theorem rbt_sc {f r d l z s n : Int} (hf : 0 < f) (hr : 0 < r) : rbt (f * r) (f * d) (f * l) (f * z) s n = rbt r d l z s n := by
  unfold rbt
  rw [allC_sc hf hr, rbF_sc hf]
/-! the layout multiplied -/
def scR (f : Int) (ro : List (Int × Int)) : List (Int × Int) := ro.map fun q => (q.1, f * q.2)
theorem layL_sc {f r d l z : Int} (hf : 0 < f) : ∀ (ps : List Int) (o : List (List (Int × Int))) (ro : List (Int × Int)) (x : Int),
    layL (f * r) (f * d) (f * l) (f * z) ps (o.map (scR f)) (scR f ro) (f * x) = ((layL r d l z ps o ro x).1.map (scR f), scR f (layL r d l z ps o ro x).2)
  | [], o, ro, x => rfl
  | p :: ps, o, ro, x => by
    rw [layL, layL, nxt_sc hf, ← Int.mul_add]
    by_cases h : l < nxt r d x p + z
    · have h' : f * l < f * (nxt r d x p + z) := Int.mul_lt_mul_of_pos_left h hf
      rw [if_pos h, if_pos h', ph_sc hf, ← Int.mul_add]
      have e1 : o.map (scR f) ++ [scR f ro] = (o ++ [ro]).map (scR f) := by rw [List.map_append]; rfl
      rw [e1]
      exact layL_sc hf ps (o ++ [ro]) [(p, p * d % r)] (p * d % r + z)
    · have h' : ¬ f * l < f * (nxt r d x p + z) := fun q => h (Int.lt_of_mul_lt_mul_left q (by omega))
      rw [if_neg h, if_neg h']
      have e1 : scR f ro ++ [(p, f * nxt r d x p)] = scR f (ro ++ [(p, nxt r d x p)]) := by unfold scR; rw [List.map_append]; rfl
      rw [e1]
      exact layL_sc hf ps o (ro ++ [(p, nxt r d x p)]) (nxt r d x p + z)
theorem layA_sc {f r d l z s n : Int} (hf : 0 < f) : ∀ (is : List Int) (o : List (List (Int × Int))), layA (f * r) (f * d) (f * l) (f * z) s n is (o.map (scR f)) = (layA r d l z s n is o).map (scR f)
  | [], o => rfl
  | i :: is, o => by
    have h := layL_sc (r := r) (d := d) (l := l) (z := z) hf (plc s n i) o [] 0
    rw [Int.mul_zero] at h
    have h : layL (f * r) (f * d) (f * l) (f * z) (plc s n i) (o.map (scR f)) [] 0 = _ := h
    rw [layA, layA, h, ← layA_sc hf is]
    congr 1
    rw [List.map_append]
    rfl
theorem lay_sc {f r d l z s n : Int} (hf : 0 < f) : lay (f * r) (f * d) (f * l) (f * z) s n = (lay r d l z s n).map (scR f) := by
  unfold lay
  exact layA_sc hf _ []
/-! what is laid stays ahead -/
theorem layL_pre {r d l z : Int} : ∀ (ps : List Int) (o : List (List (Int × Int))) (ro : List (Int × Int)) (x : Int), ∃ t, (layL r d l z ps o ro x).1 = o ++ t
  | [], o, ro, x => ⟨[], (List.append_nil o).symm⟩
  | p :: ps, o, ro, x => by
    rw [layL]
    by_cases h : l < nxt r d x p + z
    · rw [if_pos h]
      obtain ⟨t, ht⟩ := layL_pre (r := r) (d := d) (l := l) (z := z) ps (o ++ [ro]) [(p, p * d % r)] (p * d % r + z)
      exact ⟨ro :: t, by rw [ht, List.append_assoc]; rfl⟩
    · rw [if_neg h]
      exact layL_pre ps o _ _
theorem layA_pre {r d l z s n : Int} : ∀ (is : List Int) (o : List (List (Int × Int))), ∃ t, layA r d l z s n is o = o ++ t
  | [], o => ⟨[], (List.append_nil o).symm⟩
  | i :: is, o => by
    rw [layA]
    obtain ⟨t1, h1⟩ := layL_pre (r := r) (d := d) (l := l) (z := z) (plc s n i) o [] 0
    obtain ⟨t2, h2⟩ := layA_pre (r := r) (d := d) (l := l) (z := z) (s := s) (n := n) is ((layL r d l z (plc s n i) o [] 0).1 ++ [(layL r d l z (plc s n i) o [] 0).2])
    rw [h2, h1, List.append_assoc, List.append_assoc]
    exact ⟨_, rfl⟩
theorem layL_len {r d l z : Int} : ∀ (ps : List Int) (o : List (List (Int × Int))) (ro : List (Int × Int)) (x : Int), (layL r d l z ps o ro x).1.length ≤ o.length + ps.length ∧ (layL r d l z ps o ro x).2.length ≤ ro.length + ps.length
  | [], o, ro, x => ⟨Nat.le_refl _, Nat.le_refl _⟩
  | p :: ps, o, ro, x => by
    rw [layL]
    by_cases h : l < nxt r d x p + z
    · rw [if_pos h]
      have := layL_len (r := r) (d := d) (l := l) (z := z) ps (o ++ [ro]) [(p, p * d % r)] (p * d % r + z)
      simp only [List.length_append, List.length_cons, List.length_nil] at this ⊢
      omega
    · rw [if_neg h]
      have := layL_len (r := r) (d := d) (l := l) (z := z) ps o (ro ++ [(p, nxt r d x p)]) (nxt r d x p + z)
      simp only [List.length_append, List.length_cons, List.length_nil] at this ⊢
      omega
theorem layA_len {r d l z s n : Int} {M : Nat} (hM : ∀ i, (plc s n i).length ≤ M ∨ i < 0) : ∀ (is : List Int) (o : List (List (Int × Int))), (∀ i ∈ is, 0 ≤ i) → (layA r d l z s n is o).length ≤ o.length + is.length * (M + 1)
  | [], o, _ => Nat.le_add_right _ _
  | i :: is, o, h => by
    rw [layA]
    have h1 := layL_len (r := r) (d := d) (l := l) (z := z) (plc s n i) o [] 0
    have h2 := layA_len (r := r) (d := d) (l := l) (z := z) hM is ((layL r d l z (plc s n i) o [] 0).1 ++ [(layL r d l z (plc s n i) o [] 0).2]) fun j hj => h j (List.mem_cons_of_mem _ hj)
    rw [List.length_append, List.length_singleton] at h2
    have h3 : (plc s n i).length ≤ M := (hM i).resolve_right (by have := h i List.mem_cons_self; omega)
    rw [List.length_cons, Nat.succ_mul]
    omega
theorem lay_few {r d l z s n : Int} (s1 : 1 ≤ s) (s2 : s ≤ 100) (n0 : 0 ≤ n) (n1 : n ≤ 1000) : (lay r d l z s n).length ≤ 100 * 1001 := by
  unfold lay
  have h := layA_len (r := r) (d := d) (l := l) (z := z) (s := s) (n := n) (M := 1000) (fun i => by
    by_cases hi : i < 0
    · exact .inr hi
    · left
      rw [plc_len]
      have := rgN_le (i := i) (n := n) (s := s) (by omega) (by omega) n0
      omega) (linesI (min s n).toNat) [] (fun i hi => by
    obtain ⟨j, _, rfl⟩ := List.mem_map.mp hi
    omega)
  rw [linesI_len] at h
  have h2 : (min s n).toNat * (1000 + 1) ≤ 100 * 1001 := Nat.mul_le_mul (by omega) (by omega)
  simp only [List.length_nil] at h
  omega
/-! the opposite drop -/
theorem back_d {r d : Int} (hr : 0 < r) (h0 : 0 ≤ d) (h1 : d < r) : (0 ≤ (r - d) % r ∧ (r - d) % r < r) ∧ pg r ((r - d) % r) = pg r d := by
  refine ⟨⟨Int.emod_nonneg _ (by omega), Int.emod_lt_of_pos _ hr⟩, ?_⟩
  by_cases hd : d = 0
  · subst hd
    rw [Int.sub_zero, Int.emod_self]
  · have e : (r - d) % r = r - d := Int.emod_eq_of_lt (by omega) (by omega)
    rw [e]
    unfold pg
    have e2 : (r - d).toNat = r.toNat - d.toNat := by omega
    rw [e2, Nat.gcd_self_sub_right (by omega)]
theorem back_stp {r d z s : Int} : stp r ((r - d) % r) z s = z + (0 - s * d - z) % r := by
  unfold stp
  congr 1
  have e : (s * ((r - d) % r) - z) % r = (s * (r - d) - z) % r := by
    rw [Int.sub_emod, Int.mul_emod, Int.emod_emod_of_dvd _ (Int.dvd_refl r), ← Int.mul_emod, ← Int.sub_emod]
  rw [e]
  have e2 : s * (r - d) - z = 0 - s * d - z + r * s := by rw [Int.mul_sub, Int.mul_comm r s]; omega
  rw [e2, Int.add_mul_emod_self_left]
/-! how long the rolls are -/
theorem layL_rows {r d l z : Int} {M : Nat} : ∀ (ps : List Int) (o : List (List (Int × Int))) (ro : List (Int × Int)) (x : Int), (∀ q ∈ o, q.length ≤ M) → ro.length + ps.length ≤ M → (∀ q ∈ (layL r d l z ps o ro x).1, q.length ≤ M) ∧ (layL r d l z ps o ro x).2.length ≤ M
  | [], o, ro, x, h1, h2 => ⟨h1, h2⟩
  | p :: ps, o, ro, x, h1, h2 => by
    rw [List.length_cons] at h2
    rw [layL]
    by_cases h : l < nxt r d x p + z
    · rw [if_pos h]
      refine layL_rows ps _ _ _ (fun q hq => ?_) (by simp only [List.length_cons, List.length_nil]; omega)
      rcases List.mem_append.mp hq with hq | hq
      · exact h1 q hq
      · rw [List.mem_singleton.mp hq]
        omega
    · rw [if_neg h]
      exact layL_rows ps _ _ _ h1 (by rw [List.length_append, List.length_singleton]; omega)
theorem layA_rows {r d l z s n : Int} {M : Nat} (hM : ∀ i, (plc s n i).length ≤ M ∨ i < 0) : ∀ (is : List Int) (o : List (List (Int × Int))), (∀ i ∈ is, 0 ≤ i) → (∀ q ∈ o, q.length ≤ M) → ∀ q ∈ layA r d l z s n is o, q.length ≤ M
  | [], o, _, h => h
  | i :: is, o, hi, h => by
    rw [layA]
    have h3 : (plc s n i).length ≤ M := (hM i).resolve_right (by have := hi i List.mem_cons_self; omega)
    obtain ⟨a1, a2⟩ := layL_rows (r := r) (d := d) (l := l) (z := z) (M := M) (plc s n i) o [] 0 h (by rw [List.length_nil]; omega)
    refine layA_rows hM is _ (fun j hj => hi j (List.mem_cons_of_mem _ hj)) fun q hq => ?_
    rcases List.mem_append.mp hq with hq | hq
    · exact a1 q hq
    · rw [List.mem_singleton.mp hq]
      exact a2
theorem lay_rows {r d l z s n : Int} (s1 : 1 ≤ s) (n0 : 0 ≤ n) (n1 : n ≤ 1000) : ∀ q ∈ lay r d l z s n, q.length ≤ 1000 := by
  unfold lay
  refine layA_rows (fun i => ?_) _ [] (fun i hi => ?_) fun q hq => by simp at hq
  · by_cases hi : i < 0
    · exact .inr hi
    · left
      rw [plc_len]
      have := rgN_le (i := i) (n := n) (s := s) (by omega) (by omega) n0
      omega
  · obtain ⟨j, _, rfl⟩ := List.mem_map.mp hi
    omega
theorem sim_lay {n : Nat} {rs : List (List (Int × Int))} (h : rs.length ≤ 1000000) (h2 : ∀ ro ∈ rs, ro.length ≤ 1000000) : Sim (n + 3) (.list (rs.map prow)) := by
  refine ⟨by rw [List.length_map]; exact h, fun d hd => ?_⟩
  obtain ⟨ro, h3, rfl⟩ := List.mem_map.mp hd
  refine ⟨by rw [List.length_map]; exact h2 ro h3, fun d hd => ?_⟩
  obtain ⟨q, h4, rfl⟩ := List.mem_map.mp hd
  exact sim_intsT (ns := [q.1, q.2]) (show 2 ≤ 1000000 by decide)
theorem neSelf {d : PyData} {n : Nat} {A B : Prop} (e : Sim n d) (h : B) : ((!PyData.eqv d d) = true → A) ∧ ((!PyData.eqv d d) = false → B) := by
  rw [e.self]
  exact ⟨fun z => (by cases z), fun _ => h⟩
theorem sim_optI {o : Option Int} : Sim 1 (optI o) := by
  cases o with
  | none => exact sim_none
  | some i => exact sim_int

section
variable {P : Program} {w : World} {K : PySem.W.Frag} {mg : Str → Option Value} {base : Heap}
-- NEEDS base
-- NEEDS steps
-- FILL: ⟨_, _, _, _, _, rfl, by walk_at "pre", ?_⟩
def p_step : List PyData → (PyData → Prop) → Prop := fun ds R => ∃ r d l z s : Int, ds = [pap r d l, .int z, .int s] ∧ POk r d l ∧ R (.int (stp r d z s))
theorem ok_step (T : En K mg) : FnOk P w K mg base CX0 1 T.f_step T.fd_step ["paper", "length", "lines"] (Con K p_step) := by
  refine fn_con T.F_step sc_step (fun ds R h => ?_) (fun cdv A outer s H E W ds R hr h => ?_)
  · obtain ⟨r, d, l, z, s, rfl, _⟩ := h
    rfl
  · obtain ⟨r, d, l, z, n, rfl, ⟨⟨h1, h2⟩, ⟨h3, h4⟩, h5⟩, hR⟩ := h
    refine ess_cons (es_asg ?_)
    refine ev_name 0 rfl ?_
    refine tg_tup rfl (tgs_name 3 (tgs_name 4 (tgs_name 5 (tgs_nil ?_) sc_step.nd) sc_step.nd) sc_step.nd)
    refine ess_one (es_ret ?_)
    refine ev_bin oz_add ?_
    refine ev_name 1 rfl ?_
    refine ev_bin oz_mod ?_
    refine ev_bin oz_sub ?_
    refine ev_bin oz_mul ?_
    refine ev_name 2 rfl ?_
    refine ev_name 4 rfl ?_
    refine ⟨by walk_at "zs", ?_⟩
    refine ev_name 1 rfl ?_
    refine ev_name 3 rfl ?_
    refine ⟨by walk_at "zs", ?_⟩
    exact hR

-- FILL: ⟨_, _, _, _, rfl, by walk_at "pre", fun $1 $1a => ?_⟩
def p_best_lines : List PyData → (PyData → Prop) → Prop := fun ds R => ∃ r d l z : Int, ds = [pap r d l, .int z] ∧ POk r d l ∧ ∀ b, Best r d z b → R (.int b)
theorem ok_best_lines (T : En K mg) : FnOk P w K mg base CX0 2 T.f_best_lines T.fd_best_lines ["paper", "length"] (Con K p_best_lines) := by
  refine fn_con T.F_best_lines sc_best_lines (fun ds R h => ?_) (fun cdv A outer s H E W ds R hr h => ?_)
  · obtain ⟨r, d, l, z, rfl, _⟩ := h
    rfl
  · obtain ⟨r, d, l, z, rfl, hp, hR⟩ := h
    obtain ⟨⟨h1, h2⟩, ⟨h3, h4⟩, h5, h6⟩ := id hp
    refine ess_cons (es_set 2 ?_ sc_best_lines.nd)
    refine ev_int ?_
    refine ess_cons (es_for .never rfl ?_)
    refine ei_range2 T.n_range ?_
    refine ev_int ?_
    refine ev_bin oz_add ?_
    refine ev_ix ?_
    refine ev_name 0 rfl ?_
    refine ev_int ?_
    refine ⟨_, rfl, ?_⟩
    refine ev_int ?_
    refine ⟨⟨by omega, by omega, by omega, by omega⟩, ?_⟩
    refine ⟨fun i ρ => ∃ (b : Int) (x : Sl), (1 ≤ b ∧ b ≤ 1 + (i : Nat)) ∧ (∀ s : Int, 1 ≤ s → s ≤ 1 + (i : Nat) → stp r d z b ≤ stp r d z s) ∧ (∀ s : Int, 1 ≤ s → s < b → stp r d z b < stp r d z s) ∧ ρ = [.im (pap r d l), .im (.int z), .im (.int b), x],
      ⟨1, _, by omega, fun s s1 s2 => ?_, fun s s1 s2 => by omega, rfl⟩, fun i x ρ hx hP => ?_, fun ρ hP => ?_⟩
    · have e : s = 1 := by omega
      subst e
      exact Int.le_refl _
    · obtain ⟨b, y, ⟨b1, b2⟩, b3, b4, rfl⟩ := hP
      have hi := (List.getElem?_eq_some_iff.mp hx).1
      rw [rngD_len] at hi
      rw [rngD_get hi] at hx
      cases hx
      refine tg_name 3 ?_ sc_best_lines.nd
      refine ess_one (es_if ?_)
      refine et_cmp oz_lt ?_
      refine ev_call (ok_step T) hr T.g_step T.F_step.kp T.b_step ?_
      refine ea_cons ?_
      refine ev_name 0 rfl ?_
      refine ea_cons ?_
      refine ev_name 1 rfl ?_
      refine ea_cons ?_
      refine ev_name 3 rfl ?_
      refine ea_nil ⟨_, _, _, _, _, rfl, by walk_at "pre", ?_⟩
      refine ev_call (ok_step T) hr T.g_step T.F_step.kp T.b_step ?_
      refine ea_cons ?_
      refine ev_name 0 rfl ?_
      refine ea_cons ?_
      refine ev_name 1 rfl ?_
      refine ea_cons ?_
      refine ev_name 2 rfl ?_
      refine ea_nil ⟨_, _, _, _, _, rfl, by walk_at "pre", ?_⟩
      refine dB (fun hz => ?_) fun hz => ?_
      · refine ess_one (es_set 2 ?_ sc_best_lines.nd)
        refine ev_name 3 rfl ?_
        refine ⟨2 + (i : Nat), _, by omega, fun s s1 s2 => ?_, fun s s1 s2 => ?_, rfl⟩
        · by_cases e : s = 2 + (i : Nat)
          · rw [e]
            exact Int.le_refl _
          · have := b3 s s1 (by omega)
            omega
        · have := b3 s s1 (by omega)
          omega
      · refine ess_nil ⟨b, _, by omega, fun s s1 s2 => ?_, b4, rfl⟩
        by_cases e : s = 2 + (i : Nat)
        · rw [e]
          omega
        · exact b3 s s1 (by omega)
    · obtain ⟨b, y, ⟨b1, b2⟩, b3, b4, rfl⟩ := hP
      rw [rngD_len] at b2 b3
      refine ess_one (es_ret ?_)
      refine ev_name 2 rfl ?_
      exact hR b ⟨⟨b1, by omega⟩, fun s s1 s2 => b3 s s1 (by omega), b4⟩

-- FILL: ⟨_, _, _, _, rfl, by walk_at "pre", ?_⟩
def p_least_step : List PyData → (PyData → Prop) → Prop := fun ds R => ∃ r d l z : Int, ds = [pap r d l, .int z] ∧ POk r d l ∧ R (.int (up (pg r d) z))
theorem ok_least_step (T : En K mg) : FnOk P w K mg base CX0 3 T.f_least_step T.fd_least_step ["paper", "length"] (Con K p_least_step) := by
  refine fn_con T.F_least_step sc_least_step (fun ds R h => ?_) (fun cdv A outer s H E W ds R hr h => ?_)
  · obtain ⟨r, d, l, z, rfl, _⟩ := h
    rfl
  · obtain ⟨r, d, l, z, rfl, hp, hR⟩ := h
    obtain ⟨⟨h1, h2⟩, ⟨h3, h4⟩, h5, h6⟩ := id hp
    refine ess_one (es_ret ?_)
    refine ev_call (ok_step T) (hr.mono (by decide)) T.g_step T.F_step.kp T.b_step ?_
    refine ea_cons ?_
    refine ev_name 0 rfl ?_
    refine ea_cons ?_
    refine ev_name 1 rfl ?_
    refine ea_cons ?_
    refine ev_call (ok_best_lines T) hr T.g_best_lines T.F_best_lines.kp T.b_best_lines ?_
    refine ea_cons ?_
    refine ev_name 0 rfl ?_
    refine ea_cons ?_
    refine ev_name 1 rfl ?_
    refine ea_nil ⟨_, _, _, _, rfl, by walk_at "pre", fun b ba => ?_⟩
    refine ea_nil ⟨_, _, _, _, _, rfl, by walk_at "pre", ?_⟩
    rw [ba.stp (by omega) h3]
    exact hR

-- FILL: ⟨_, _, _, _, rfl, by walk_at "pre", by walk_at "zs", by walk_at "zs", ?_⟩
def p_most_strips : List PyData → (PyData → Prop) → Prop := fun ds R => ∃ r d l z : Int, ds = [pap r d l, .int z] ∧ POk r d l ∧ 1 ≤ z ∧ z ≤ 10000 ∧ R (.int (most (pg r d) l z))
theorem ok_most_strips (T : En K mg) : FnOk P w K mg base CX0 4 T.f_most_strips T.fd_most_strips ["paper", "length"] (Con K p_most_strips) := by
  refine fn_con T.F_most_strips sc_most_strips (fun ds R h => ?_) (fun cdv A outer s H E W ds R hr h => ?_)
  · obtain ⟨r, d, l, z, rfl, _⟩ := h
    rfl
  · obtain ⟨r, d, l, z, rfl, hp, z1, z2, hR⟩ := h
    obtain ⟨⟨h1, h2⟩, ⟨h3, h4⟩, h5, h6⟩ := id hp
    have hu := up_spec (z := z) (pg_pos (d := d) h1)
    have hg := pg_le (d := d) h1
    refine ess_one (es_ret ?_)
    refine ev_bin oz_add ?_
    refine ev_int ?_
    refine ev_bin oz_div ?_
    refine ev_bin oz_sub ?_
    refine ev_ix ?_
    refine ev_name 0 rfl ?_
    refine ev_int ?_
    refine ⟨_, rfl, ?_⟩
    refine ev_name 1 rfl ?_
    refine ev_call (ok_least_step T) hr T.g_least_step T.F_least_step.kp T.b_least_step ?_
    refine ea_cons ?_
    refine ev_name 0 rfl ?_
    refine ea_cons ?_
    refine ev_name 1 rfl ?_
    refine ea_nil ⟨_, _, _, _, rfl, by walk_at "pre", ?_⟩
    exact ⟨divs (show 0 < up (pg r d) z by omega) (show up (pg r d) z < 10 ^ 60 by omega), hR⟩

-- FILL: ⟨_, _, _, _, rfl, by walk_at "pre", ?_⟩
-- NEEDS base
def p_phase : List PyData → (PyData → Prop) → Prop := fun ds R => ∃ r d l n, ds = [pap r d l, .int n] ∧ POk r d l ∧ R (.int (n * d % r))
theorem ok_phase (T : En K mg) : FnOk P w K mg base CX0 1 T.f_phase T.fd_phase ["paper", "place"] (Con K p_phase) := by
  refine fn_con T.F_phase sc_phase (fun ds R h => ?_) (fun cdv A outer s H E W ds R hr h => ?_)
  · obtain ⟨r, d, l, n, rfl, _⟩ := h
    rfl
  · obtain ⟨r, d, l, n, rfl, ⟨⟨h1, h2⟩, ⟨h3, h4⟩, h5⟩, hR⟩ := h
    refine ess_one (es_ret ?_)
    refine ev_bin oz_mod ?_
    refine ev_bin oz_mul ?_
    refine ev_name 1 rfl ?_
    refine ev_ix ?_
    refine ev_name 0 rfl ?_
    refine ev_int ?_
    refine ⟨_, rfl, ?_⟩
    refine ⟨by walk_at "zs", ?_⟩
    refine ev_ix ?_
    refine ev_name 0 rfl ?_
    refine ev_int ?_
    refine ⟨_, rfl, ?_⟩
    exact ⟨by walk_at "zs", hR⟩

-- FILL: ⟨_, _, _, _, _, rfl, by walk_at "pre", ?_⟩
def p_can_cut : List PyData → (PyData → Prop) → Prop := fun ds R => ∃ r d l z n, ds = [pap r d l, .int z, .int n] ∧ POk r d l ∧ R (.bool (decide (n * d % r + z ≤ l)))
theorem ok_can_cut (T : En K mg) : FnOk P w K mg base CX0 2 T.f_can_cut T.fd_can_cut ["paper", "length", "place"] (Con K p_can_cut) := by
  refine fn_con T.F_can_cut sc_can_cut (fun ds R h => ?_) (fun cdv A outer s H E W ds R hr h => ?_)
  · obtain ⟨r, d, l, z, n, rfl, _⟩ := h
    rfl
  · obtain ⟨r, d, l, z, n, rfl, hp, hR⟩ := h
    refine ess_one (es_ret ?_)
    refine ev_cmp oz_le ?_
    refine ev_bin oz_add ?_
    refine ev_call (ok_phase T) hr T.g_phase T.F_phase.kp T.b_phase ?_
    refine ea_cons ?_
    refine ev_name 0 rfl ?_
    refine ea_cons ?_
    refine ev_name 2 rfl ?_
    refine ea_nil ?_
    refine ⟨r, d, l, n, rfl, hp, ?_⟩
    refine ev_name 1 rfl ?_
    refine ev_ix ?_
    refine ev_name 0 rfl ?_
    refine ev_int ?_
    exact ⟨_, rfl, hR⟩

-- NEEDS turns
-- FILL: ⟨_, _, _, _, _, rfl, by walk_at "pre", by walk_at "zs", by walk_at "zs", ?_⟩
def p_all_can_be_cut : List PyData → (PyData → Prop) → Prop := fun ds R => ∃ r d l z n : Int, ds = [pap r d l, .int z, .int n] ∧ POk r d l ∧ 0 ≤ n ∧ n ≤ 10 ^ 13 ∧ R (.bool (allC r d l z n))
theorem ok_all_can_be_cut (T : En K mg) : FnOk P w K mg base CX0 3 T.f_all_can_be_cut T.fd_all_can_be_cut ["paper", "length", "number"] (Con K p_all_can_be_cut) := by
  refine fn_con T.F_all_can_be_cut sc_all_can_be_cut (fun ds R h => ?_) (fun cdv A outer s H E W ds R hr h => ?_)
  · obtain ⟨r, d, l, z, n, rfl, _⟩ := h
    rfl
  · obtain ⟨r, d, l, z, n, rfl, hp, n0, n1, hR⟩ := h
    obtain ⟨⟨h1, h2⟩, ⟨h3, h4⟩, h5, h6⟩ := id hp
    refine ess_one (es_ret ?_)
    refine ev_all rfl T.n_all ?_
    refine ev_el (el_lc (own := [("place", 3)]) (gg_name 3) (fun _ _ _ _ _ => pg_name sc_all_can_be_cut.nd rfl (.inl rfl)) rfl sc_all_can_be_cut.nd (blkOk_by (N := ["paper", "length", "number", "place"]) (sc := defScope s_all_can_be_cut) (by decide +kernel)) rfl ?_)
    refine ei_range1 T.n_range ?_
    refine ev_min2 rfl T.n_min ?_
    refine ev_name 2 rfl ?_
    refine ev_ix ?_
    refine ev_name 0 rfl ?_
    refine ev_int ?_
    refine ⟨_, rfl, ?_⟩
    intro m ma mb mc
    have em : m = min n r := by omega
    subst em
    refine ⟨by omega, by omega, ?_⟩
    refine ⟨by rw [rngD_len]; exact Nat.le_trans (show (min n r).toNat ≤ 10000 by omega) (by decide), fun i acc => acc = ((List.range i).map fun p => decide (((p : Nat) : Int) * d % r + z ≤ l)).map PyData.bool, rfl, fun i x acc hx ha _ => ⟨[x], rfl, ?_⟩, fun acc ha hlen => ?_⟩
    · have hi := (List.getElem?_eq_some_iff.mp hx).1
      rw [rngD_len] at hi
      rw [rngD_get hi] at hx
      cases hx
      subst ha
      rintro _ ⟨s', H', C, cl, fp, rfl⟩ W' _
      have e0 : (0 : Int) + (i : Nat) = (i : Nat) := by omega
      rw [e0]
      refine ev_call (ok_can_cut T) hr T.g_can_cut T.F_can_cut.kp T.b_can_cut ?_
      refine ea_cons ?_
      refine ev_name 0 rfl ?_
      refine ea_cons ?_
      refine ev_name 1 rfl ?_
      refine ea_cons ?_
      refine ev_name 3 rfl ?_
      refine ea_nil ⟨_, _, _, _, _, rfl, by walk_at "pre", ?_⟩
      show _ = ((List.range (i + 1)).map fun p => decide (((p : Nat) : Int) * d % r + z ≤ l)).map PyData.bool
      rw [List.range_succ, List.map_append, List.map_append]
      rfl
    · subst ha
      rw [rngD_len]
      refine ⟨_, rfl, ?_⟩
      have e : ((List.range (min n r).toNat).map fun p => decide (((p : Nat) : Int) * d % r + z ≤ l)).all id = allC r d l z n := by
        unfold allC
        rw [List.all_map]
        rfl
      rw [e]
      exact hR

-- NEEDS next
-- FILL: ⟨_, _, _, _, _, rfl, by walk_at "pre", ?_⟩
def p_begin_behind : List PyData → (PyData → Prop) → Prop := fun ds R => ∃ r d l f n : Int, ds = [pap r d l, .int f, .int n] ∧ POk r d l ∧ R (.int (nxt r d f n))
theorem ok_begin_behind (T : En K mg) : FnOk P w K mg base CX0 2 T.f_begin_behind T.fd_begin_behind ["paper", "free", "place"] (Con K p_begin_behind) := by
  refine fn_con T.F_begin_behind sc_begin_behind (fun ds R h => ?_) (fun cdv A outer s H E W ds R hr h => ?_)
  · obtain ⟨r, d, l, f, n, rfl, _⟩ := h
    rfl
  · obtain ⟨r, d, l, f, n, rfl, hp, hR⟩ := h
    obtain ⟨⟨h1, h2⟩, ⟨h3, h4⟩, h5, h6⟩ := id hp
    refine ess_one (es_ret ?_)
    refine ev_bin oz_add ?_
    refine ev_name 1 rfl ?_
    refine ev_bin oz_mod ?_
    refine ev_bin oz_sub ?_
    refine ev_call (ok_phase T) hr T.g_phase T.F_phase.kp T.b_phase ?_
    refine ea_cons ?_
    refine ev_name 0 rfl ?_
    refine ea_cons ?_
    refine ev_name 2 rfl ?_
    refine ea_nil ⟨_, _, _, _, rfl, by walk_at "pre", ?_⟩
    refine ev_name 1 rfl ?_
    refine ev_ix ?_
    refine ev_name 0 rfl ?_
    refine ev_int ?_
    refine ⟨_, rfl, ?_⟩
    refine ⟨by walk_at "zs", ?_⟩
    have e : f + (n * d % r - f) % r = nxt r d f n := by
      unfold nxt
      rw [Int.sub_emod, Int.emod_emod_of_dvd _ (Int.dvd_refl r), ← Int.sub_emod]
    show R (.int (f + (n * d % r - f) % r))
    rw [e]
    exact hR

-- NEEDS turns
-- FILL: ⟨_, _, _, _, _, _, rfl, by walk_at "pre", by walk_at "zs", by walk_at "zs", ?_⟩
def p_strips_from : List PyData → (PyData → Prop) → Prop := fun ds R => ∃ r d l z s p : Int, ds = [pap r d l, .int z, .int s, .int p] ∧ POk r d l ∧ 1 ≤ z ∧ z ≤ 10000 ∧ R (.int (sf r d l z s p))
theorem ok_strips_from (T : En K mg) : FnOk P w K mg base CX0 3 T.f_strips_from T.fd_strips_from ["paper", "length", "lines", "place"] (Con K p_strips_from) := by
  refine fn_con T.F_strips_from sc_strips_from (fun ds R h => ?_) (fun cdv A outer s H E W ds R hr h => ?_)
  · obtain ⟨r, d, l, z, s, p, rfl, _⟩ := h
    rfl
  · obtain ⟨r, d, l, z, s, p, rfl, hp, z1, z2, hR⟩ := h
    obtain ⟨⟨h1, h2⟩, ⟨h3, h4⟩, h5, h6⟩ := id hp
    have hs := stp_ge (d := d) (z := z) (s := s) (show 0 < r by omega)
    refine ess_cons (es_if ?_)
    refine et_not ?_
    refine et_val ?_
    refine ev_call (ok_can_cut T) hr T.g_can_cut T.F_can_cut.kp T.b_can_cut ?_
    refine ea_cons ?_
    refine ev_name 0 rfl ?_
    refine ea_cons ?_
    refine ev_name 1 rfl ?_
    refine ea_cons ?_
    refine ev_name 3 rfl ?_
    refine ea_nil ⟨_, _, _, _, _, rfl, by walk_at "pre", ?_⟩
    refine dN (fun hq => ?_) fun hq => ?_
    · refine ess_one (es_ret ?_)
      refine ev_int ?_
      unfold sf at hR
      rw [if_neg hq] at hR
      exact hR
    · refine ess_nil ?_
      refine ess_one (es_ret ?_)
      refine ev_bin oz_add ?_
      refine ev_int ?_
      refine ev_bin oz_div ?_
      refine ev_bin oz_sub ?_
      refine ev_bin oz_sub ?_
      refine ev_ix ?_
      refine ev_name 0 rfl ?_
      refine ev_int ?_
      refine ⟨_, rfl, ?_⟩
      refine ev_name 1 rfl ?_
      refine ev_call (ok_phase T) (hr.mono (by decide)) T.g_phase T.F_phase.kp T.b_phase ?_
      refine ea_cons ?_
      refine ev_name 0 rfl ?_
      refine ea_cons ?_
      refine ev_name 3 rfl ?_
      refine ea_nil ⟨_, _, _, _, rfl, by walk_at "pre", ?_⟩
      refine ev_call (ok_step T) (hr.mono (by decide)) T.g_step T.F_step.kp T.b_step ?_
      refine ea_cons ?_
      refine ev_name 0 rfl ?_
      refine ea_cons ?_
      refine ev_name 1 rfl ?_
      refine ea_cons ?_
      refine ev_name 2 rfl ?_
      refine ea_nil ⟨_, _, _, _, _, rfl, by walk_at "pre", ?_⟩
      refine ⟨divs (show 0 < stp r d z s by omega) (show stp r d z s < 10 ^ 60 by omega), ?_⟩
      unfold sf at hR
      rw [if_pos hq] at hR
      exact hR

-- NEEDS turns
-- FILL: ⟨_, _, _, _, _, _, _, rfl, by walk_at "pre", by walk_at "zs", by walk_at "zs", by walk_at "zs", by walk_at "zs", by walk_at "zs", by walk_at "zs", by walk_at "zs", ?_, ?_⟩
def p_rolls_of_line : List PyData → (PyData → Prop) → Prop := fun ds R => ∃ r d l z s i c : Int, ds = [pap r d l, .int z, .int s, .int i, .int c] ∧ POk r d l ∧ 1 ≤ z ∧ z ≤ 10000 ∧ 1 ≤ s ∧ s ≤ 10000 ∧ 0 ≤ i ∧ i ≤ 10 ^ 13 ∧ c ≤ 10 ^ 13 ∧ (∀ x, 0 ≤ x → x < c → 1 ≤ gl r d l z s i x) ∧ R (.int (rl (gl r d l z s i) c 0))
theorem ok_rolls_of_line (T : En K mg) : FnOk P w K mg base CX0 4 T.f_rolls_of_line T.fd_rolls_of_line ["paper", "length", "lines", "line", "count"] (Con K p_rolls_of_line) := by
  refine fn_con T.F_rolls_of_line sc_rolls_of_line (fun ds R h => ?_) (fun cdv A outer s H E W ds R hr h => ?_)
  · obtain ⟨r, d, l, z, s, i, c, rfl, _⟩ := h
    rfl
  · obtain ⟨r, d, l, z, s, i, c, rfl, hp, z1, z2, s1, s2, i1, i2, c1, hg, hR⟩ := h
    obtain ⟨⟨h1, h2⟩, ⟨h3, h4⟩, h5, h6⟩ := id hp
    have hr0 : 0 < r := by omega
    generalize hgl : gl r d l z s i = g at hg hR
    refine ess_cons (es_par3D 5 6 7 ?_ rfl sc_rolls_of_line.nd)
    refine ess_cons (es_set 8 ?_ sc_rolls_of_line.nd)
    refine ev_name 3 rfl ?_
    refine ess_cons (es_while (fun m ρ => ∃ (kvs : List (Key × PyData)) (ro dn : Int) (a b c' d' : Sl), 0 ≤ dn ∧ ro + rl g c dn = rl g c 0 ∧ keysOk r kvs ∧ (∀ k x, gtD kvs (Sum.inl k) = some x → ∃ (r0 d0 : Int) (n : Nat), x = .tuple [.int r0, .int d0] ∧ (i + d0 * s) * d % r = k ∧ 0 ≤ d0 ∧ ro = r0 + n ∧ 1 ≤ n ∧ Rch g c d0 n dn) ∧ m = (c - dn).toNat ∧ ρ = [.im (pap r d l), .im (.int z), .im (.int s), .im (.int i), .im (.int c), .dic kvs, .im (.int ro), .im (.int dn), .im (.int (i + dn * s)), a, b, c', d']) (c - 0).toNat ⟨[], 0, 0, _, _, _, _, Int.le_refl _, by omega, ⟨by simp, by simp⟩, (fun k x hx => by cases hx), rfl, by rw [Int.zero_mul, Int.add_zero]; rfl⟩ .never fun m ρ hP => ?_)
    obtain ⟨kvs, ro, dn, a, b, c', d', n0, hro, hk, hs, rfl, rfl⟩ := hP
    refine et_cmp oz_lt ?_
    refine ev_name 7 rfl ?_
    refine ev_name 4 rfl ?_
    refine dB (fun hz => ?_) fun hz => ?_
    · have hklen := keysOk_len hk
      refine ess_cons (es_set 9 ?_ sc_rolls_of_line.nd)
      refine ev_call (ok_phase T) (hr.mono (by decide)) T.g_phase T.F_phase.kp T.b_phase ?_
      refine ea_cons ?_
      refine ev_name 0 rfl ?_
      refine ea_cons ?_
      refine ev_name 8 rfl ?_
      refine ea_nil ⟨_, _, _, _, rfl, by walk_at "pre", ?_⟩
      have k0 := Int.emod_nonneg ((i + dn * s) * d) (show r ≠ 0 by omega)
      have k1 := Int.emod_lt_of_pos ((i + dn * s) * d) hr0
      have hgd := hg dn n0 hz
      refine ess_cut (fun ρ => ∃ a b c' : Sl, ρ = [.im (pap r d l), .im (.int z), .im (.int s), .im (.int i), .im (.int c), .dic kvs, .im (.int ro), .im (.int dn), .im (.int (i + dn * s)), .im (.int ((i + dn * s) * d % r)), a, b, c']) (es_if ?_) ?_
      · refine et_inD 5 rfl (zu1 hr) ?_
        refine ev_name 9 rfl ?_
        refine ⟨fun hin => ?_, fun _ => ess_nil ⟨_, _, _, rfl⟩⟩
        obtain ⟨x, hx⟩ := Option.isSome_iff_exists.mp hin
        obtain ⟨r0, d0, n, rfl, e1, d00, e2, n1, hrch⟩ := hs _ _ hx
        have hle := hrch.le hg d00
        refine ess_cons (es_asg ?_)
        refine ev_ixD 5 rfl (zu1 hr) ?_
        refine ev_name 9 rfl ?_
        refine ⟨_, hx, ?_⟩
        refine tg_tup rfl (tgs_name 10 (tgs_name 11 (tgs_nil ?_) sc_rolls_of_line.nd) sc_rolls_of_line.nd)
        refine ess_cons (es_set 12 ?_ sc_rolls_of_line.nd)
        refine ev_bin oz_div ?_
        refine ev_bin oz_sub ?_
        refine ev_name 4 rfl ?_
        refine ev_name 7 rfl ?_
        refine ev_bin oz_sub ?_
        refine ev_name 7 rfl ?_
        refine ev_name 11 rfl ?_
        refine ⟨divs (show 0 < dn - d0 by omega) (show dn - d0 < 10 ^ 60 by omega), ?_⟩
        have ht1 : (c - dn) / (dn - d0) * (dn - d0) ≤ c - dn := Int.ediv_mul_le _ (by omega)
        have ht2 : (c - dn) / (dn - d0) ≤ c - dn := Int.ediv_le_self _ (by omega)
        have ht3 : 0 ≤ (c - dn) / (dn - d0) := Int.ediv_nonneg (by omega) (by omega)
        refine ess_one (es_if ?_)
        refine et_cmp oz_gt ?_
        refine ev_name 12 rfl ?_
        refine ev_int ?_
        refine dB (fun hq => ?_) fun hq => ess_nil ⟨_, _, _, rfl⟩
        have hturn := rl_turns (κ := fun x => (i + x * s) * d % r) hg (fun x y hxy => by rw [← hgl]; exact gl_key hxy) (fun x y u hxy => key_add u hxy) d00 hrch e1.symm ((c - dn) / (dn - d0)).toNat dn n0 e1.symm
        have et : ((((c - dn) / (dn - d0)).toNat : Nat) : Int) = (c - dn) / (dn - d0) := by omega
        rw [et] at hturn
        have hturn := (hturn (by omega)).1
        have e3 : ro - r0 = n := by omega
        refine ess_cons (es_aug 6 rfl ?_ sc_rolls_of_line.nd)
        refine ev_bin oz_mul ?_
        refine ev_name 12 rfl ?_
        refine ev_bin oz_sub ?_
        refine ev_name 6 rfl ?_
        refine ev_name 10 rfl ?_
        refine ⟨mull (by omega) (by omega), ?_⟩
        refine ess_cons (es_aug 7 rfl ?_ sc_rolls_of_line.nd)
        refine ev_bin oz_mul ?_
        refine ev_name 12 rfl ?_
        refine ev_bin oz_sub ?_
        refine ev_name 7 rfl ?_
        refine ev_name 11 rfl ?_
        refine ⟨mull (by omega) (by omega), ?_⟩
        refine ess_cons (es_dic 5 ?_ sc_rolls_of_line.nd)
        refine ess_cons (es_set 8 ?_ sc_rolls_of_line.nd)
        refine ev_bin oz_add ?_
        refine ev_name 3 rfl ?_
        refine ev_bin oz_mul ?_
        refine ev_name 7 rfl ?_
        refine ev_name 2 rfl ?_
        refine ⟨mulr (by omega) (by omega), ?_⟩
        have ht4 : 0 < (c - dn) / (dn - d0) * (dn - d0) := Int.mul_pos hq (by omega)
        refine ess_one (es_continue ⟨(c - (dn + (c - dn) / (dn - d0) * (dn - d0))).toNat, by omega, [], ro + (c - dn) / (dn - d0) * (ro - r0), _, _, _, _, _, by omega, ?_, ⟨by simp, by simp⟩, (fun k x hx => by cases hx), rfl, rfl⟩)
        rw [e3]
        omega
      rintro _ ⟨a, b, c', rfl⟩
      refine ess_cons (es_putD 5 rfl (zu1 hr) ?_)
      refine ev_tup ?_
      refine ea_cons ?_
      refine ev_name 6 rfl ?_
      refine ea_cons ?_
      refine ev_name 7 rfl ?_
      refine ea_nil ⟨by walk_at "sz", ?_⟩
      refine ev_name 9 rfl ?_
      refine ⟨Nat.lt_of_le_of_lt (show kvs.length ≤ 10000 by omega) (by decide), ?_⟩
      refine ess_cons (es_aug 7 rfl ?_ sc_rolls_of_line.nd)
      refine ev_call (ok_strips_from T) hr T.g_strips_from T.F_strips_from.kp T.b_strips_from ?_
      refine ea_cons ?_
      refine ev_name 0 rfl ?_
      refine ea_cons ?_
      refine ev_name 1 rfl ?_
      refine ea_cons ?_
      refine ev_name 2 rfl ?_
      refine ea_cons ?_
      refine ev_name 8 rfl ?_
      refine ea_nil ⟨_, _, _, _, _, _, rfl, by walk_at "pre", by walk_at "zs", by walk_at "zs", ?_⟩
      refine ess_cons (es_aug 6 rfl ?_ sc_rolls_of_line.nd)
      refine ev_int ?_
      refine ess_one (es_set 8 ?_ sc_rolls_of_line.nd)
      refine ev_bin oz_add ?_
      refine ev_name 3 rfl ?_
      refine ev_bin oz_mul ?_
      refine ev_name 7 rfl ?_
      refine ev_name 2 rfl ?_
      refine ⟨mulr (by omega) (by omega), ?_⟩
      have hstep := rl_step hg n0 hz
      have egl : sf r d l z s (i + dn * s) = g dn := by rw [← hgl]; rfl
      rw [egl]
      refine ⟨(c - (dn + g dn)).toNat, by omega, ptD kvs (Sum.inl ((i + dn * s) * d % r)) (.tuple [.int ro, .int dn]), ro + 1, dn + g dn, _, _, _, _, by omega, by omega, keysOk_put hk k0 k1 _, fun k x hx => ?_, rfl, rfl⟩
      rw [gtD_put] at hx
      by_cases e : (Sum.inl k : Key) = Sum.inl ((i + dn * s) * d % r)
      · rw [if_pos e] at hx
        cases hx
        injection e with e
        exact ⟨ro, dn, 1, rfl, e.symm, n0, rfl, Nat.le_refl _, .step (.refl dn) hz⟩
      · rw [if_neg e] at hx
        obtain ⟨r0, d0, n, rfl, e1, d00, e2, n1, hrch⟩ := hs _ _ hx
        exact ⟨r0, d0, n + 1, rfl, e1, d00, by omega, by omega, .step hrch hz⟩
    · refine ess_one (es_ret ?_)
      refine ev_name 6 rfl ?_
      rw [rl_end (show c ≤ dn by omega)] at hro
      have e : ro = rl g c 0 := by omega
      rw [e]
      exact hR

-- NEEDS turns
-- FILL: ⟨_, _, _, _, _, _, rfl, by walk_at "pre", by walk_at "zs", by walk_at "zs", by walk_at "zs", by walk_at "zs", by walk_at "zs", by walk_at "zs", ?_⟩
def p_rolls_by_turns : List PyData → (PyData → Prop) → Prop := fun ds R => ∃ r d l z s n : Int, ds = [pap r d l, .int z, .int s, .int n] ∧ POk r d l ∧ 1 ≤ z ∧ z ≤ 10000 ∧ 1 ≤ s ∧ s ≤ 10000 ∧ 0 ≤ n ∧ n ≤ 10 ^ 13 ∧ R (optI (rbt r d l z s n))
theorem ok_rolls_by_turns (T : En K mg) : FnOk P w K mg base CX0 5 T.f_rolls_by_turns T.fd_rolls_by_turns ["paper", "length", "lines", "number"] (Con K p_rolls_by_turns) := by
  refine fn_con T.F_rolls_by_turns sc_rolls_by_turns (fun ds R h => ?_) (fun cdv A outer s H E W ds R hr h => ?_)
  · obtain ⟨r, d, l, z, s, n, rfl, _⟩ := h
    rfl
  · obtain ⟨r, d, l, z, s, n, rfl, hp, z1, z2, s1, s2, n1, n2, hR⟩ := h
    obtain ⟨⟨h1, h2⟩, ⟨h3, h4⟩, h5, h6⟩ := id hp
    have hr0 : 0 < r := by omega
    refine ess_cons (es_if ?_)
    refine et_not (et_val ?_)
    refine ev_call (ok_all_can_be_cut T) (hr.mono (by decide)) T.g_all_can_be_cut T.F_all_can_be_cut.kp T.b_all_can_be_cut ?_
    refine ea_cons ?_
    refine ev_name 0 rfl ?_
    refine ea_cons ?_
    refine ev_name 1 rfl ?_
    refine ea_cons ?_
    refine ev_name 3 rfl ?_
    refine ea_nil ⟨_, _, _, _, _, rfl, by walk_at "pre", by walk_at "zs", by walk_at "zs", ?_⟩
    unfold rbt at hR
    cases hac : allC r d l z n with
    | false =>
      refine yesT ?_
      refine ess_one (es_ret ?_)
      refine ev_none ?_
      rw [hac, if_neg Bool.false_ne_true] at hR
      exact hR
    | true =>
      refine noF (ess_nil ?_)
      rw [hac, if_pos rfl] at hR
      refine ess_cons (es_set 4 ?_ sc_rolls_by_turns.nd)
      refine ev_int ?_
      refine ess_cons (es_for .never rfl ?_)
      refine ei_range1 T.n_range ?_
      refine ev_min2 rfl T.n_min ?_
      refine ev_name 2 rfl ?_
      refine ev_name 3 rfl ?_
      intro m ma mb mc
      have em : m = min s n := by omega
      subst em
      refine ⟨by omega, by omega, ?_⟩
      refine ⟨fun i ρ => ∃ (a : Sl) (x : Int), x = rbF r d l z s n i ∧ ρ = [.im (pap r d l), .im (.int z), .im (.int s), .im (.int n), .im (.int x), a], ⟨_, _, rfl, rfl⟩, fun i x ρ hx hP => ?_, fun ρ hP => ?_⟩
      · obtain ⟨a, _, rfl, rfl⟩ := hP
        have hi := (List.getElem?_eq_some_iff.mp hx).1
        rw [rngD_len] at hi
        rw [rngD_get hi] at hx
        cases hx
        refine tg_name 5 ?_ sc_rolls_by_turns.nd
        have e0 : (0 : Int) + (i : Nat) = (i : Nat) := by omega
        rw [e0]
        have hcb := cnt_bd (s := s) (n := n) (i := (i : Nat)) (by omega) (by omega) (by omega)
        refine ess_one (es_aug 4 rfl ?_ sc_rolls_by_turns.nd)
        refine ev_call (ok_rolls_of_line T) hr T.g_rolls_of_line T.F_rolls_of_line.kp T.b_rolls_of_line ?_
        refine ea_cons ?_
        refine ev_name 0 rfl ?_
        refine ea_cons ?_
        refine ev_name 1 rfl ?_
        refine ea_cons ?_
        refine ev_name 2 rfl ?_
        refine ea_cons ?_
        refine ev_name 5 rfl ?_
        refine ea_cons ?_
        refine ev_bin oz_div ?_
        refine ev_bin oz_sub ?_
        refine ev_bin oz_add ?_
        refine ev_bin oz_sub ?_
        refine ev_name 3 rfl ?_
        refine ev_name 5 rfl ?_
        refine ev_name 2 rfl ?_
        refine ev_int ?_
        refine ev_name 2 rfl ?_
        refine ⟨divs (show 0 < s by omega) (show s < 10 ^ 60 by omega), ?_⟩
        refine ea_nil ⟨r, d, l, z, s, (i : Nat), cnt s n (i : Nat), rfl, hp, z1, z2, s1, s2, by omega, by omega, by omega, ?_, ?_⟩
        · exact gl_pos hr0 z1 (by omega) (by omega) hac
        · exact ⟨_, _, rfl, rfl⟩
      · obtain ⟨a, _, rfl, rfl⟩ := hP
        rw [rngD_len]
        refine ess_one (es_ret ?_)
        refine ev_name 4 rfl ?_
        exact hR

-- NEEDS layout
-- NEEDS scale
-- LAYER Zq5
-- FILL: ⟨_, _, _, _, _, _, rfl, by walk_at "pre", by walk_at "zs", by walk_at "zs", by walk_at "zs", by walk_at "zs", ?_⟩
def p_layout : List PyData → (List PyData → Prop) → Prop := fun ds R => ∃ (r d l z s n : Int), ds = [pap r d l, .int z, .int s, .int n] ∧ POk r d l ∧ 1 ≤ s ∧ s ≤ 100 ∧ 0 ≤ n ∧ n ≤ 1000 ∧ R ((lay r d l z s n).map prow)
theorem ok_layout (T : En K mg) : GFn P w K mg base 3 T.f_layout T.fd_layout ["paper", "length", "lines", "number"] (ConG K p_layout) := by
  refine fn_conG T.F_layout sc_layout (fun ds R h => ?_) (fun cdv A outer s H E pn W ds R hr h => ?_)
  · obtain ⟨r, d, l, z, s, n, rfl, _⟩ := h
    rfl
  · obtain ⟨r, d, l, z, s, n, rfl, hp, s1, s2, n0, n1, hR⟩ := h
    obtain ⟨⟨h1, h2⟩, ⟨h3, h4⟩, h5, h6⟩ := id hp
    have hsz : (10 : Nat) ^ 6 < sizeLine := by decide
    refine gzs_one (gz_for owns_gcx rfl ?_)
    refine ei_range1 T.n_range ?_
    refine ev_min2 rfl T.n_min ?_
    refine ev_name 2 rfl ?_
    refine ev_name 3 rfl ?_
    intro m ma mb mc
    have em : m = min s n := by omega
    subst em
    refine ⟨by omega, by omega, ?_⟩
    have hnn : (n.toNat : Int) = n := by omega
    refine ⟨fun i o ρ => ∃ (rs : List (List (Int × Int))) (a b c d' e : Sl), lay r d l z s n = layA r d l z s n ((linesI (min s n).toNat).drop i) rs ∧ rs.length ≤ i * (n.toNat + 1) ∧ o = rs.map prow ∧ ρ = [.im (pap r d l), .im (.int z), .im (.int s), .im (.int n), a, b, c, d', e], ⟨[], _, _, _, _, _, rfl, Nat.zero_le _, rfl, rfl⟩, fun i x o ρ hx hP => ?_, fun o ρ hP => ?_⟩
    · obtain ⟨rs, a, b, c, d', e, q1, q2, rfl, rfl⟩ := hP
      have hi := (List.getElem?_eq_some_iff.mp hx).1
      rw [rngD_len] at hi
      rw [rngD_get hi] at hx
      cases hx
      have ed : (linesI (min s n).toNat).drop i = ((i : Nat) : Int) :: (linesI (min s n).toNat).drop (i + 1) := by
        rw [List.drop_eq_getElem_cons (by rw [linesI_len]; exact hi)]
        congr 1
        exact (List.getElem?_eq_some_iff.mp (linesI_at hi)).2
      rw [ed, layA] at q1
      refine tg_name 4 ?_ sc_layout.nd
      have e0 : (0 : Int) + (i : Nat) = (i : Nat) := by omega
      rw [e0]
      have hrg := rgN_le (i := (i : Nat)) (n := n) (s := s) (by omega) (by omega) n0
      have hi2 : i * (n.toNat + 1) ≤ 100 * 1001 := Nat.mul_le_mul (by omega) (by omega)
      have hi3 : (i + 1) * (n.toNat + 1) = i * (n.toNat + 1) + (n.toNat + 1) := Nat.succ_mul i _
      refine gzs_plain (es_asg ?_)
      refine ev_tup ?_
      refine ea_cons ?_
      refine ev_tup ?_
      refine ea_nil ⟨by walk_at "sz", ?_⟩
      refine ea_cons ?_
      refine ev_int ?_
      refine ea_nil ⟨by walk_at "sz", ?_⟩
      refine tg_tup rfl (tgs_name 5 (tgs_name 6 (tgs_nil ?_) sc_layout.nd) sc_layout.nd)
      refine gzs_cons (gz_for owns_gcx rfl ?_)
      refine ei_range3 T.n_range ?_
      refine ea_cons ?_
      refine ev_name 4 rfl ?_
      refine ea_cons ?_
      refine ev_name 3 rfl ?_
      refine ea_cons ?_
      refine ev_name 2 rfl ?_
      refine ea_nil ?_
      refine ⟨⟨by omega, by omega, by omega, by omega, by omega, by omega⟩, ?_⟩
      rw [plc_D]
      refine ⟨fun j o ρ => ∃ (rs' : List (List (Int × Int))) (ro : List (Int × Int)) (x : PyData) (f : Int) (a b : Sl), layL r d l z (plc s n (i : Nat)) rs [] 0 = layL r d l z ((plc s n (i : Nat)).drop j) rs' ro f ∧ rs'.length ≤ rs.length + j ∧ ro.length ≤ j ∧ o = rs'.map prow ∧ x = prow ro ∧ ρ = [.im (pap r d l), .im (.int z), .im (.int s), .im (.int n), .im (.int (i : Nat)), .im x, .im (.int f), a, b], ⟨rs, [], _, _, _, _, rfl, Nat.le_refl _, Nat.le_refl _, rfl, rfl, rfl⟩, fun j x o ρ hx hP => ?_, fun o ρ hP => ?_⟩
      · obtain ⟨rs', ro, _, f, a, b, t1, t2, t4, rfl, rfl, rfl⟩ := hP
        have hj := (List.getElem?_eq_some_iff.mp hx).1
        rw [List.length_map] at hj
        have hj2 := hj
        rw [plc_len] at hj2
        obtain ⟨p, hp1, rfl⟩ : ∃ p, (plc s n (i : Nat))[j]? = some p ∧ x = .int p := by
          rw [List.getElem?_map] at hx
          obtain ⟨t, h6, h7⟩ := Option.map_eq_some_iff.mp hx
          exact ⟨t, h6, h7.symm⟩
        have ed2 : (plc s n (i : Nat)).drop j = p :: (plc s n (i : Nat)).drop (j + 1) := by
          rw [List.drop_eq_getElem_cons hj]
          congr 1
          exact (List.getElem?_eq_some_iff.mp hp1).2
        rw [ed2, layL] at t1
        refine tg_name 7 ?_ sc_layout.nd
        refine gzs_plain (es_set 8 ?_ sc_layout.nd)
        refine ev_call (ok_begin_behind T) hr T.g_begin_behind T.F_begin_behind.kp T.b_begin_behind ?_
        refine ea_cons ?_
        refine ev_name 0 rfl ?_
        refine ea_cons ?_
        refine ev_name 6 rfl ?_
        refine ea_cons ?_
        refine ev_name 7 rfl ?_
        refine ea_nil ⟨_, _, _, _, _, rfl, by walk_at "pre", ?_⟩
        refine gzs_cut (fun o ρ => ∃ (rs' : List (List (Int × Int))) (ro : List (Int × Int)) (x : PyData) (f b : Int), layL r d l z (plc s n (i : Nat)) rs [] 0 = layL r d l z ((plc s n (i : Nat)).drop (j + 1)) rs' (ro ++ [(p, b)]) (b + z) ∧ rs'.length ≤ rs.length + (j + 1) ∧ ro.length ≤ j ∧ o = rs'.map prow ∧ x = prow ro ∧ ρ = [.im (pap r d l), .im (.int z), .im (.int s), .im (.int n), .im (.int (i : Nat)), .im x, .im (.int f), .im (.int p), .im (.int b)]) (gz_if ?_) ?_
        · refine et_cmp oz_gt ?_
          refine ev_bin oz_add ?_
          refine ev_name 8 rfl ?_
          refine ev_name 1 rfl ?_
          refine ev_ix ?_
          refine ev_name 0 rfl ?_
          refine ev_int ?_
          refine ⟨_, rfl, ?_⟩
          refine dB (fun hz => ?_) fun hz => ?_
          · rw [if_pos hz] at t1
            refine gzs_cons (gz_yield ?_ (by rw [List.length_map]; omega))
            refine ev_name 5 rfl ?_
            refine ⟨by rw [List.length_map]; omega, ?_⟩
            refine gzs_plain (es_par 5 8 ?_ rfl sc_layout.nd)
            refine ea_cons ?_
            refine ev_tup ?_
            refine ea_nil ⟨by walk_at "sz", ?_⟩
            refine ea_cons ?_
            refine ev_call (ok_phase T) (hr.mono (by decide)) T.g_phase T.F_phase.kp T.b_phase ?_
            refine ea_cons ?_
            refine ev_name 0 rfl ?_
            refine ea_cons ?_
            refine ev_name 7 rfl ?_
            refine ea_nil ⟨_, _, _, _, rfl, by walk_at "pre", ?_⟩
            refine ea_nil ?_
            refine gzs_nil ⟨rs' ++ [ro], [], _, _, _, t1, ?_, Nat.zero_le _, ?_, rfl, rfl⟩
            · rw [List.length_append]
              simp
              omega
            · rw [List.map_append]
              rfl
          · rw [if_neg hz] at t1
            exact gzs_nil ⟨rs', ro, _, _, _, t1, by omega, t4, rfl, rfl, rfl⟩
        rintro _ _ ⟨rs', ro, _, f, b, t1, t2, t4, rfl, rfl, rfl⟩
        refine gzs_plain (es_set 5 ?_ sc_layout.nd)
        refine ev_tup ?_
        refine ea_star ?_
        refine ev_name 5 rfl ?_
        refine ea_cons ?_
        refine ev_tup ?_
        refine ea_cons ?_
        refine ev_name 7 rfl ?_
        refine ea_cons ?_
        refine ev_name 8 rfl ?_
        refine ea_nil ⟨by walk_at "sz", ?_⟩
        refine ea_nil ⟨?_, ?_⟩
        · rw [List.length_append, List.length_map]
          exact Nat.le_trans (show ro.length + 1 ≤ 10 ^ 6 by omega) (by decide)
        refine gzs_plain (es_set 6 ?_ sc_layout.nd)
        refine ev_bin oz_add ?_
        refine ev_name 8 rfl ?_
        refine ev_name 1 rfl ?_
        refine gzs_nil ⟨rs', ro ++ [(p, b)], _, _, _, _, t1, by omega, ?_, rfl, ?_, rfl⟩
        · rw [List.length_append]
          simp
          omega
        · unfold prow
          rw [List.map_append]
          rfl
      · obtain ⟨rs', ro, _, f, a, b, t1, t2, t4, rfl, rfl, rfl⟩ := hP
        rw [List.length_map, List.drop_length, layL] at t1
        rw [List.length_map, plc_len] at t2 t4
        rw [t1] at q1
        refine gzs_one (gz_yield ?_ (by rw [List.length_map]; omega))
        refine ev_name 5 rfl ?_
        refine ⟨by rw [List.length_map]; omega, ?_⟩
        refine ⟨rs' ++ [ro], _, _, _, _, _, q1, ?_, ?_, rfl⟩
        · rw [List.length_append]
          simp
          omega
        · rw [List.map_append]
          rfl
    · obtain ⟨rs, a, b, c, d', e, q1, q2, rfl, rfl⟩ := hP
      rw [rngD_len] at q1 q2
      have ed : (linesI (min s n).toNat).drop (min s n).toNat = [] := by
        have := linesI_len (k := (min s n).toNat)
        conv => lhs; arg 1; rw [← this]
        exact List.drop_length
      rw [ed, layA] at q1
      rw [q1] at hR
      exact hR
/-! .. and for those who walk over it -/
def p_layoutR : List PyData → List PyData → Prop := fun ds outs => ∃ (r d l z s n : Int), ds = [pap r d l, .int z, .int s, .int n] ∧ POk r d l ∧ 1 ≤ s ∧ s ≤ 100 ∧ 0 ≤ n ∧ n ≤ 1000 ∧ outs = (lay r d l z s n).map prow
theorem ok_layoutR (T : En K mg) : GFnR P w K mg base 3 T.f_layout T.fd_layout ["paper", "length", "lines", "number"] p_layoutR := by
  refine fn_conR T.F_layout sc_layout (fun _ => rfl) (fun ds outs h => ?_) (fun ds outs h => ?_) (fun cdv A outer s H C ds outs hr h => ?_)
  · obtain ⟨r, d, l, z, s, n, rfl, _⟩ := h
    rfl
  · obtain ⟨r, d, l, z, s, n, _, _, s1, s2, n0, n1, rfl⟩ := h
    have h1 := lay_few (r := r) (d := d) (l := l) (z := z) (s := s) (n := n) s1 s2 n0 n1
    have hsz : (10 : Nat) ^ 6 < sizeLine := by decide
    rw [List.length_map]
    omega
  · obtain ⟨r, d, l, z, s, n, rfl, hp, s1, s2, n0, n1, hR⟩ := h
    obtain ⟨⟨h1, h2⟩, ⟨h3, h4⟩, h5, h6⟩ := id hp
    have hsz : (10 : Nat) ^ 6 < sizeLine := by decide
    refine gqs_one (gq_for fun _ _ _ => ?_)
    refine eir_range1 T.n_range ?_
    refine ev_min2 rfl T.n_min ?_
    refine ev_name 2 rfl ?_
    refine ev_name 3 rfl ?_
    intro m ma mb mc
    have em : m = min s n := by omega
    subst em
    refine ⟨by omega, by omega, ?_⟩
    have hnn : (n.toNat : Int) = n := by omega
    refine ⟨fun i o ρ => ∃ (rs : List (List (Int × Int))) (a b c d' e : Sl), lay r d l z s n = layA r d l z s n ((linesI (min s n).toNat).drop i) rs ∧ rs.length ≤ i * (n.toNat + 1) ∧ o = rs.map prow ∧ a.calm = true ∧ b.calm = true ∧ c.calm = true ∧ d'.calm = true ∧ e.calm = true ∧ ρ = [.im (pap r d l), .im (.int z), .im (.int s), .im (.int n), a, b, c, d', e], ⟨[], _, _, _, _, _, rfl, Nat.zero_le _, rfl, rfl, rfl, rfl, rfl, rfl, rfl⟩, fun i x o ρ hx hP => ?_, fun o ρ hP => ?_⟩
    · obtain ⟨rs, a, b, c, d', e, q1, q2, rfl, ca, cb, cc, cd, ce, rfl⟩ := hP
      have hi := (List.getElem?_eq_some_iff.mp hx).1
      rw [rngD_len] at hi
      rw [rngD_get hi] at hx
      cases hx
      have ed : (linesI (min s n).toNat).drop i = ((i : Nat) : Int) :: (linesI (min s n).toNat).drop (i + 1) := by
        rw [List.drop_eq_getElem_cons (by rw [linesI_len]; exact hi)]
        congr 1
        exact (List.getElem?_eq_some_iff.mp (linesI_at hi)).2
      rw [ed, layA] at q1
      intro s1' H1' W1'
      refine tg_name 4 ?_ sc_layout.nd
      have e0 : (0 : Int) + (i : Nat) = (i : Nat) := by omega
      rw [e0]
      have hrg := rgN_le (i := (i : Nat)) (n := n) (s := s) (by omega) (by omega) n0
      have hi2 : i * (n.toNat + 1) ≤ 100 * 1001 := Nat.mul_le_mul (by omega) (by omega)
      have hi3 : (i + 1) * (n.toNat + 1) = i * (n.toNat + 1) + (n.toNat + 1) := Nat.succ_mul i _
      refine gqs_plain fun _ _ _ => es_asg ?_
      refine ev_tup ?_
      refine ea_cons ?_
      refine ev_tup ?_
      refine ea_nil ⟨by walk_at "sz", ?_⟩
      refine ea_cons ?_
      refine ev_int ?_
      refine ea_nil ⟨by walk_at "sz", ?_⟩
      refine tg_tup rfl (tgs_name 5 (tgs_name 6 (tgs_nil ?_) sc_layout.nd) sc_layout.nd)
      refine gqs_cons (gq_for fun _ _ _ => ?_)
      refine eir_range3 T.n_range ?_
      refine ea_cons ?_
      refine ev_name 4 rfl ?_
      refine ea_cons ?_
      refine ev_name 3 rfl ?_
      refine ea_cons ?_
      refine ev_name 2 rfl ?_
      refine ea_nil ?_
      refine ⟨⟨by omega, by omega, by omega, by omega, by omega, by omega⟩, ?_⟩
      rw [plc_D]
      refine ⟨fun j o ρ => ∃ (rs' : List (List (Int × Int))) (ro : List (Int × Int)) (x : PyData) (f : Int) (a b : Sl), layL r d l z (plc s n (i : Nat)) rs [] 0 = layL r d l z ((plc s n (i : Nat)).drop j) rs' ro f ∧ rs'.length ≤ rs.length + j ∧ ro.length ≤ j ∧ o = rs'.map prow ∧ x = prow ro ∧ a.calm = true ∧ b.calm = true ∧ ρ = [.im (pap r d l), .im (.int z), .im (.int s), .im (.int n), .im (.int (i : Nat)), .im x, .im (.int f), a, b], ⟨rs, [], _, _, _, _, rfl, Nat.le_refl _, Nat.le_refl _, rfl, rfl, cd, ce, rfl⟩, fun j x o ρ hx hP => ?_, fun o ρ hP => ?_⟩
      · obtain ⟨rs', ro, _, f, a, b, t1, t2, t4, rfl, rfl, ca', cb', rfl⟩ := hP
        have hj := (List.getElem?_eq_some_iff.mp hx).1
        rw [List.length_map] at hj
        have hj2 := hj
        rw [plc_len] at hj2
        obtain ⟨p, hp1, rfl⟩ : ∃ p, (plc s n (i : Nat))[j]? = some p ∧ x = .int p := by
          rw [List.getElem?_map] at hx
          obtain ⟨t, h6, h7⟩ := Option.map_eq_some_iff.mp hx
          exact ⟨t, h6, h7.symm⟩
        have ed2 : (plc s n (i : Nat)).drop j = p :: (plc s n (i : Nat)).drop (j + 1) := by
          rw [List.drop_eq_getElem_cons hj]
          congr 1
          exact (List.getElem?_eq_some_iff.mp hp1).2
        rw [ed2, layL] at t1
        intro s2' H2' W2'
        refine tg_name 7 ?_ sc_layout.nd
        refine gqs_plain fun _ _ _ => (es_set 8 ?_ sc_layout.nd)
        refine ev_call (ok_begin_behind T) hr T.g_begin_behind T.F_begin_behind.kp T.b_begin_behind ?_
        refine ea_cons ?_
        refine ev_name 0 rfl ?_
        refine ea_cons ?_
        refine ev_name 6 rfl ?_
        refine ea_cons ?_
        refine ev_name 7 rfl ?_
        refine ea_nil ⟨_, _, _, _, _, rfl, by walk_at "pre", ?_⟩
        refine gqs_cut (fun o ρ => ∃ (rs' : List (List (Int × Int))) (ro : List (Int × Int)) (x : PyData) (f b : Int), layL r d l z (plc s n (i : Nat)) rs [] 0 = layL r d l z ((plc s n (i : Nat)).drop (j + 1)) rs' (ro ++ [(p, b)]) (b + z) ∧ rs'.length ≤ rs.length + (j + 1) ∧ ro.length ≤ j ∧ o = rs'.map prow ∧ x = prow ro ∧ ρ = [.im (pap r d l), .im (.int z), .im (.int s), .im (.int n), .im (.int (i : Nat)), .im x, .im (.int f), .im (.int p), .im (.int b)]) (gq_if fun _ _ _ => ?_) ?_
        · refine et_cmp oz_gt ?_
          refine ev_bin oz_add ?_
          refine ev_name 8 rfl ?_
          refine ev_name 1 rfl ?_
          refine ev_ix ?_
          refine ev_name 0 rfl ?_
          refine ev_int ?_
          refine ⟨_, rfl, ?_⟩
          refine dB (fun hz => ?_) fun hz => ?_
          · rw [if_pos hz] at t1
            refine gqs_cons (gq_yield (fun _ _ _ => ?_) (by rw [List.length_map]; omega) rfl)
            refine ev_name 5 rfl ?_
            refine ⟨?_, ?_⟩
            · obtain ⟨u1, w1⟩ := layL_pre (r := r) (d := d) (l := l) (z := z) ((plc s n (i : Nat)).drop (j + 1)) (rs' ++ [ro]) [(p, p * d % r)] (p * d % r + z)
              rw [← t1] at w1
              obtain ⟨u2, w2⟩ := layA_pre (r := r) (d := d) (l := l) (z := z) (s := s) (n := n) ((linesI (min s n).toNat).drop (i + 1)) ((layL r d l z (plc s n (i : Nat)) rs [] 0).1 ++ [(layL r d l z (plc s n (i : Nat)) rs [] 0).2])
              refine ⟨(u1 ++ [(layL r d l z (plc s n (i : Nat)) rs [] 0).2] ++ u2).map prow, ?_⟩
              rw [hR, q1, w2, w1]
              simp only [List.map_append, List.map_cons, List.map_nil, List.append_assoc, List.cons_append, List.nil_append]
            refine gqs_plain fun _ _ _ => (es_par 5 8 ?_ rfl sc_layout.nd)
            refine ea_cons ?_
            refine ev_tup ?_
            refine ea_nil ⟨by walk_at "sz", ?_⟩
            refine ea_cons ?_
            refine ev_call (ok_phase T) (hr.mono (by decide)) T.g_phase T.F_phase.kp T.b_phase ?_
            refine ea_cons ?_
            refine ev_name 0 rfl ?_
            refine ea_cons ?_
            refine ev_name 7 rfl ?_
            refine ea_nil ⟨_, _, _, _, rfl, by walk_at "pre", ?_⟩
            refine ea_nil ?_
            refine gqs_nil ⟨rs' ++ [ro], [], _, _, _, t1, ?_, Nat.zero_le _, ?_, rfl, rfl⟩
            · rw [List.length_append]
              simp
              omega
            · rw [List.map_append]
              rfl
          · rw [if_neg hz] at t1
            exact gqs_nil ⟨rs', ro, _, _, _, t1, by omega, t4, rfl, rfl, rfl⟩
        rintro _ _ ⟨rs', ro, _, f, b, t1, t2, t4, rfl, rfl, rfl⟩
        refine gqs_plain fun _ _ _ => es_set 5 ?_ sc_layout.nd
        refine ev_tup ?_
        refine ea_star ?_
        refine ev_name 5 rfl ?_
        refine ea_cons ?_
        refine ev_tup ?_
        refine ea_cons ?_
        refine ev_name 7 rfl ?_
        refine ea_cons ?_
        refine ev_name 8 rfl ?_
        refine ea_nil ⟨by walk_at "sz", ?_⟩
        refine ea_nil ⟨?_, ?_⟩
        · rw [List.length_append, List.length_map]
          exact Nat.le_trans (show ro.length + 1 ≤ 10 ^ 6 by omega) (by decide)
        refine gqs_plain fun _ _ _ => (es_set 6 ?_ sc_layout.nd)
        refine ev_bin oz_add ?_
        refine ev_name 8 rfl ?_
        refine ev_name 1 rfl ?_
        refine gqs_nil ⟨rs', ro ++ [(p, b)], _, _, _, _, t1, by omega, ?_, rfl, ?_, rfl, rfl, rfl⟩
        · rw [List.length_append]
          simp
          omega
        · unfold prow
          rw [List.map_append]
          rfl
      · obtain ⟨rs', ro, _, f, a, b, t1, t2, t4, rfl, rfl, ca', cb', rfl⟩ := hP
        rw [List.length_map, List.drop_length, layL] at t1
        rw [List.length_map, plc_len] at t2 t4
        rw [t1] at q1
        refine gqs_one (gq_yield (fun _ _ _ => ?_) (by rw [List.length_map]; omega) (by simp only [List.all_cons, List.all_nil, ca', cb']; rfl))
        refine ev_name 5 rfl ?_
        refine ⟨?_, ?_⟩
        · obtain ⟨u2, w2⟩ := layA_pre (r := r) (d := d) (l := l) (z := z) (s := s) (n := n) ((linesI (min s n).toNat).drop (i + 1)) (rs' ++ [ro])
          refine ⟨u2.map prow, ?_⟩
          rw [hR, q1, w2]
          simp only [List.map_append, List.map_cons, List.map_nil, List.append_assoc, List.cons_append, List.nil_append]
        refine ⟨rs' ++ [ro], _, _, _, _, _, q1, ?_, ?_, rfl, rfl, rfl, ca', cb', rfl⟩
        · rw [List.length_append]
          simp
          omega
        · rw [List.map_append]
          rfl
    · obtain ⟨rs, a, b, c, d', e, q1, q2, rfl, _, _, _, _, _, rfl⟩ := hP
      rw [rngD_len] at q1 q2
      have ed : (linesI (min s n).toNat).drop (min s n).toNat = [] := by
        have := linesI_len (k := (min s n).toNat)
        conv => lhs; arg 1; rw [← this]
        exact List.drop_length
      rw [ed, layA] at q1
      rw [hR, q1]

-- FILL: ⟨_, rfl, by walk_at "zs", by walk_at "zs", fun $1 $1a $1b => ?_⟩
/-- a draw: any number below -/
def p__law_draw : List PyData → (PyData → Prop) → Prop := fun ds R => ∃ m : Int, ds = [.int m] ∧ 0 < m ∧ m ≤ 10 ^ 15 ∧ ∀ n : Int, 0 ≤ n → n < m → R (.int n)
theorem ok__law_draw (T : En K mg) : FnOk P w K mg base CX0 1 T.f__law_draw T.fd__law_draw ["tape", "many"] (ConT K p__law_draw) := by
  refine fn_conT T.F__law_draw sc__law_draw (fun ds R h => ?_) (fun cdv A outer s H E W ds R hr h => ?_)
  · obtain ⟨m, rfl, _⟩ := h
    rfl
  · obtain ⟨m, rfl, h0, h1, hR⟩ := h
    have md : ∀ x : Int, 0 ≤ x % 2305843009213693951 ∧ x % 2305843009213693951 < 2305843009213693951 := fun x => ⟨Int.emod_nonneg _ (by decide), Int.emod_lt_of_pos _ (by decide)⟩
    refine ess_cons (es_set 2 ?_ sc__law_draw.nd)
    refine ev_int ?_
    refine ess_cut (fun r => r = [.tape, .im (.int m), .im (.int 2305843009213693951), r.getD 3 .no, .no]) (es_if ?_) fun r hr3 => ?_
    · refine et_cmp oz_lt ?_
      refine ev_tape2 0 rfl fun c c0 => ?_
      refine ev_name 1 rfl ?_
      refine dB (fun h2 => ?_) fun h2 => ?_
      · refine ess_cons (es_set 3 ?_ sc__law_draw.nd)
        refine ev_int ?_
        refine ess_cut (fun r => ∃ z : Int, r = [.tape, .im (.int m), .im (.int 2305843009213693951), .im (.int z), .no]) (es_if ?_) fun r hz => ?_
        · refine et_cmp oz_gt ?_
          refine ev_len T.n_len ?_
          refine ev_tape0 0 rfl ?_
          refine ev_int ?_
          refine dB (fun h3 => ?_) fun h3 => ?_
          · rw [List.length_map] at h3
            refine ess_one (es_set 3 ?_ sc__law_draw.nd)
            refine ev_ix ?_
            refine ev_tape0 0 rfl ?_
            refine ev_bin oz_mod ?_
            refine ev_tape1 0 rfl fun z z0 => ?_
            refine ev_len T.n_len ?_
            refine ev_tape0 0 rfl ?_
            have hl : (0 : Int) < ((W.ns.2.map PyData.int).length : Nat) := by rw [List.length_map]; omega
            refine ⟨hl, ?_⟩
            obtain ⟨x, hx, y, rfl⟩ := pick (ds := W.ns.2.map PyData.int) (n := z % ((W.ns.2.map PyData.int).length : Nat)) (Pr := fun d => ∃ y : Int, d = .int y) (Int.emod_nonneg _ (by omega)) (Int.emod_lt_of_pos _ hl) (fun d hd => by
              obtain ⟨y, _, rfl⟩ := List.mem_map.mp hd
              exact ⟨y, rfl⟩)
            exact ⟨_, hx, y, rfl⟩
          · exact ess_nil ⟨0, rfl⟩
        · obtain ⟨z, rfl⟩ := hz
          refine ess_cut (fun r => ∃ z : Int, 0 ≤ z ∧ r = [.tape, .im (.int m), .im (.int 2305843009213693951), .im (.int z), .no]) (es_if ?_) fun r hz => ?_
          · have big : ∀ z : Int, Ess (Bx P w K mg base ["tape", "many", "prime", "cell", "found"] "_law_draw" (defScope s__law_draw) T.f__law_draw cdv A outer s H E) W (defBody s__law_draw |>.getD 1 (.Pass ⟨0, 0, 0, 0⟩) |> fun st => match st with
                | .If _ b _ _ => (match b.getD 2 (.Pass ⟨0, 0, 0, 0⟩) with | .If _ b _ _ => b | _ => []) | _ => []) [.tape, .im (.int m), .im (.int 2305843009213693951), .im (.int z), .no]
                { nx := fun r => ∃ z : Int, 0 ≤ z ∧ r = [.tape, .im (.int m), .im (.int 2305843009213693951), .im (.int z), .no], rt := R } := fun z => by
              refine ess_cons (es_set 3 ?_ sc__law_draw.nd)
              refine ev_bin oz_mod ?_
              refine ev_bin oz_add ?_
              refine ev_name 3 rfl ?_
              refine ev_bin oz_mul ?_
              refine ev_int ?_
              refine ev_tape1 0 rfl fun i i0 => ?_
              refine ⟨by walk_at "zs", ?_⟩
              refine ev_name 2 rfl ?_
              refine ⟨(show (0 : Int) < 2305843009213693951 by decide), ?_⟩
              obtain ⟨a0, a1⟩ := md (z + 1000003 * i)
              refine ess_cons (es_set 3 ?_ sc__law_draw.nd)
              refine ev_bin oz_mod ?_
              refine ev_bin oz_add ?_
              refine ev_bin oz_add ?_
              refine ev_bin oz_mul ?_
              refine ev_name 3 rfl ?_
              refine ev_name 3 rfl ?_
              refine ⟨mull (by omega) (by omega), ?_⟩
              refine ev_bin oz_mul ?_
              refine ev_int ?_
              refine ev_name 3 rfl ?_
              refine ⟨mull (by omega) (by omega), ?_⟩
              refine ev_int ?_
              refine ev_name 2 rfl ?_
              refine ⟨(show (0 : Int) < 2305843009213693951 by decide), ?_⟩
              refine ess_one (es_set 3 ?_ sc__law_draw.nd)
              refine ev_bin oz_mod ?_
              refine ev_bin oz_add ?_
              refine ev_bin oz_mul ?_
              refine ev_name 3 rfl ?_
              refine ev_name 3 rfl ?_
              refine ⟨mull (Int.le_trans (by decide) (md _).1) (Int.le_trans (Int.le_of_lt (md _).2) (by decide)), ?_⟩
              refine ev_int ?_
              refine ev_name 2 rfl ?_
              refine ⟨(show (0 : Int) < 2305843009213693951 by decide), ?_⟩
              exact ⟨_, (md _).1, rfl⟩
            refine et_ew (ew_or ?_)
            refine et_cmp oz_ge ?_
            refine ev_tape1 0 rfl fun i i0 => ?_
            refine ev_len T.n_len ?_
            refine ev_tape0 0 rfl ?_
            refine ⟨fun _ => ⟨fun _ => big z, fun h => by cases h⟩, fun _ => ?_⟩
            refine ew_or1 ?_
            refine et_cmp oz_lt ?_
            refine ev_name 3 rfl ?_
            refine ev_powc (m := 1000000000000000000) ?_
            refine dB (fun _ => big z) fun h4 => ?_
            exact ess_nil ⟨z, by omega, rfl⟩
          · obtain ⟨z, z0, rfl⟩ := hz
            refine ess_cons (es_tape 0 (.inl rfl) rfl ?_)
            refine ev_bin oz_add ?_
            refine ev_tape1 0 rfl fun i i0 => ?_
            refine ev_int ?_
            refine ⟨by omega, ?_⟩
            refine ess_one (es_tape 0 (.inr rfl) rfl ?_)
            refine ev_name 3 rfl ?_
            exact ⟨z0, rfl⟩
      · exact ess_nil rfl
    · rw [hr3]
      refine ess_cons (es_set 4 ?_ sc__law_draw.nd)
      refine ev_bin oz_mod ?_
      refine ev_tape2 0 rfl fun c c0 => ?_
      refine ev_name 1 rfl ?_
      refine ⟨h0, ?_⟩
      refine ess_cons (es_tape 0 (.inr rfl) rfl ?_)
      refine ev_bin oz_div ?_
      refine ev_tape2 0 rfl fun c2 c20 => ?_
      refine ev_name 1 rfl ?_
      refine ⟨divs h0 (by omega), ?_⟩
      refine ⟨Int.ediv_nonneg c20 (by omega), ?_⟩
      refine ess_one (es_ret ?_)
      refine ev_name 4 rfl ?_
      exact hR _ (Int.emod_nonneg _ (by omega)) (Int.emod_lt_of_pos _ h0)

-- FILL: ⟨_, _, rfl, by decide, by decide, fun $1 $2 $3 $1a $1b $2a $2b $3a $3b => ?_⟩
-- NEEDS base
/-- a drawn paper -/
def p__law_numbers : List PyData → (PyData → Prop) → Prop := fun ds R => ∃ m f : Int, ds = [.int m, .int f] ∧ (8 ≤ m ∧ m ≤ 200) ∧ (1 ≤ f ∧ f ≤ 10000) ∧ ∀ r d l : Int, 1 ≤ r → r ≤ m → 0 ≤ d → d < r → 1 ≤ l → l ≤ f → R (pap r d l)
theorem ok__law_numbers (T : En K mg) : FnOk P w K mg base CX0 2 T.f__law_numbers T.fd__law_numbers ["tape", "most", "far"] (ConT K p__law_numbers) := by
  refine fn_conT T.F__law_numbers sc__law_numbers (fun ds R h => ?_) (fun cdv A outer s H E W ds R hr h => ?_)
  · obtain ⟨m, f, rfl, _⟩ := h
    rfl
  · obtain ⟨m, f, rfl, ⟨m0, m1⟩, ⟨f0, f1⟩, hR⟩ := h
    refine ess_cons (es_set 3 ?_ sc__law_numbers.nd)
    refine ev_bin oz_add ?_
    refine ev_int ?_
    refine ev_callT 0 rfl (ok__law_draw T) hr T.g__law_draw T.F__law_draw.kp T.b__law_draw ?_
    refine ea_cons ?_
    refine ev_ix ?_
    refine ev_el (el_lst ?_)
    refine ea_cons ?_
    refine ev_name 1 rfl ?_
    refine ea_cons ?_
    refine ev_int ?_
    refine ea_cons ?_
    refine ev_name 1 rfl ?_
    refine ea_nil ⟨by walk_at "sz", ?_⟩
    refine ev_callT 0 rfl (ok__law_draw T) hr T.g__law_draw T.F__law_draw.kp T.b__law_draw ?_
    refine ea_cons ?_
    refine ev_int ?_
    refine ea_nil ⟨3, rfl, by decide, by decide, fun n n0 n1 => ?_⟩
    obtain ⟨x, hx, y, rfl, y0, y1⟩ := pick (ds := [.int m, .int 8, .int m]) (Pr := fun d => ∃ y : Int, d = .int y ∧ 8 ≤ y ∧ y ≤ m) n0 n1 (by
      intro d hd
      simp only [List.mem_cons, List.not_mem_nil, or_false] at hd
      rcases hd with rfl | rfl | rfl
      · exact ⟨m, rfl, m0, Int.le_refl _⟩
      · exact ⟨8, rfl, by omega, m0⟩
      · exact ⟨m, rfl, m0, Int.le_refl _⟩)
    refine ⟨_, hx, ?_⟩
    refine ea_nil ⟨y, rfl, by omega, by omega, fun r r0 r1 => ?_⟩
    refine ess_cons (es_set 4 ?_ sc__law_numbers.nd)
    refine ev_el (el_lst ?_)
    refine ea_cons ?_
    refine ev_int ?_
    refine ea_cons ?_
    refine ev_bin oz_div ?_
    refine ev_name 3 rfl ?_
    refine ev_int ?_
    refine ⟨divs (by decide) (by decide), ?_⟩
    refine ea_cons ?_
    refine ev_bin oz_div ?_
    refine ev_name 3 rfl ?_
    refine ev_int ?_
    refine ⟨divs (by decide) (by decide), ?_⟩
    refine ea_cons ?_
    refine ev_callT 0 rfl (ok__law_draw T) hr T.g__law_draw T.F__law_draw.kp T.b__law_draw ?_
    refine ea_cons ?_
    refine ev_name 3 rfl ?_
    refine ea_nil ⟨_, rfl, by omega, by omega, fun d1 d10 d11 => ?_⟩
    refine ea_cons ?_
    refine ev_bin oz_sub ?_
    refine ev_name 3 rfl ?_
    refine ev_int ?_
    refine ea_cons ?_
    refine ev_callT 0 rfl (ok__law_draw T) hr T.g__law_draw T.F__law_draw.kp T.b__law_draw ?_
    refine ea_cons ?_
    refine ev_name 3 rfl ?_
    refine ea_nil ⟨_, rfl, by omega, by omega, fun d2 d20 d21 => ?_⟩
    refine ea_nil ⟨by walk_at "sz", ?_⟩
    refine ess_one (es_ret ?_)
    refine ev_tup ?_
    refine ea_cons ?_
    refine ev_name 3 rfl ?_
    refine ea_cons ?_
    refine ev_ix ?_
    refine ev_name 4 rfl ?_
    refine ev_callT 0 rfl (ok__law_draw T) hr T.g__law_draw T.F__law_draw.kp T.b__law_draw ?_
    refine ea_cons ?_
    refine ev_int ?_
    refine ea_nil ⟨6, rfl, by decide, by decide, fun n n0 n1 => ?_⟩
    obtain ⟨x, hx, d, rfl, d0, d1⟩ := pick (ds := [.int 0, .int ((1 + r) / 2), .int ((1 + r) / 3), .int d1, .int ((1 + r) - 1), .int d2]) (Pr := fun e => ∃ d : Int, e = .int d ∧ 0 ≤ d ∧ d < 1 + r) n0 n1 (by
      intro e he
      simp only [List.mem_cons, List.not_mem_nil, or_false] at he
      rcases he with rfl | rfl | rfl | rfl | rfl | rfl
      · exact ⟨_, rfl, by omega, by omega⟩
      · exact ⟨_, rfl, by omega, by omega⟩
      · exact ⟨_, rfl, by omega, by omega⟩
      · exact ⟨_, rfl, by omega, by omega⟩
      · exact ⟨_, rfl, by omega, by omega⟩
      · exact ⟨_, rfl, by omega, by omega⟩)
    refine ⟨_, hx, ?_⟩
    refine ea_cons ?_
    refine ev_bin oz_add ?_
    refine ev_int ?_
    refine ev_callT 0 rfl (ok__law_draw T) hr T.g__law_draw T.F__law_draw.kp T.b__law_draw ?_
    refine ea_cons ?_
    refine ev_name 2 rfl ?_
    refine ea_nil ⟨f, rfl, by omega, by omega, fun l l0 l1 => ?_⟩
    refine ea_nil ⟨by walk_at "sz", ?_⟩
    exact hR (1 + r) d (1 + l) (by omega) (by omega) d0 d1 (by omega) (by omega)

-- FILL: ⟨_, _, _, rfl, by walk_at "pre", fun $1 $1a $1b => ?_⟩
-- NEEDS base
/-- a drawn length -/
def p__law_size : List PyData → (PyData → Prop) → Prop := fun ds R => ∃ r d l : Int, ds = [pap r d l] ∧ POk r d l ∧ ∀ z : Int, 1 ≤ z → z ≤ l → R (.int z)
theorem ok__law_size (T : En K mg) : FnOk P w K mg base CX0 2 T.f__law_size T.fd__law_size ["tape", "kind"] (ConT K p__law_size) := by
  refine fn_conT T.F__law_size sc__law_size (fun ds R h => ?_) (fun cdv A outer s H E W ds R hr h => ?_)
  · obtain ⟨r, d, l, rfl, _⟩ := h
    rfl
  · obtain ⟨r, d, l, rfl, ⟨⟨h1, h2⟩, ⟨h3, h4⟩, h5, h6⟩, hR⟩ := h
    refine ess_cons (es_set 2 ?_ sc__law_size.nd)
    refine ev_bin oz_add ?_
    refine ev_int ?_
    refine ev_callT 0 rfl (ok__law_draw T) hr T.g__law_draw T.F__law_draw.kp T.b__law_draw ?_
    refine ea_cons ?_
    refine ev_int ?_
    refine ea_nil ⟨6, rfl, by decide, by decide, fun p p0 p1 => ?_⟩
    refine ess_one (es_ret ?_)
    refine ev_ix ?_
    refine ev_el (el_lst ?_)
    refine ea_cons ?_
    refine ev_bin oz_add ?_
    refine ev_int ?_
    refine ev_callT 0 rfl (ok__law_draw T) hr T.g__law_draw T.F__law_draw.kp T.b__law_draw ?_
    refine ea_cons ?_
    refine ev_ix ?_
    refine ev_name 1 rfl ?_
    refine ev_int ?_
    refine ⟨_, rfl, ?_⟩
    refine ea_nil ⟨l, rfl, by omega, by omega, fun z z0 z1 => ?_⟩
    refine ea_cons ?_
    refine ev_max2 rfl T.n_max ?_
    refine ev_int ?_
    refine ev_bin oz_sub ?_
    refine ev_bin oz_div ?_
    refine ev_ix ?_
    refine ev_name 1 rfl ?_
    refine ev_int ?_
    refine ⟨_, rfl, ?_⟩
    refine ev_name 2 rfl ?_
    refine ⟨divs (by omega) (by omega), ?_⟩
    refine ev_callT 0 rfl (ok__law_draw T) hr T.g__law_draw T.F__law_draw.kp T.b__law_draw ?_
    refine ea_cons ?_
    refine ev_int ?_
    refine ea_nil ⟨3, rfl, by decide, by decide, fun q q0 q1 => ?_⟩
    intro m ma mb mc
    have hd : l / (1 + p) ≤ l := Int.ediv_le_self _ (by omega)
    refine ea_nil ⟨by walk_at "sz", ?_⟩
    refine ev_callT 0 rfl (ok__law_draw T) hr T.g__law_draw T.F__law_draw.kp T.b__law_draw ?_
    refine ea_cons ?_
    refine ev_int ?_
    refine ea_nil ⟨2, rfl, by decide, by decide, fun n n0 n1 => ?_⟩
    obtain ⟨x, hx, y, rfl, y0, y1⟩ := pick (ds := [.int (1 + z), .int m]) (Pr := fun e => ∃ y : Int, e = .int y ∧ 1 ≤ y ∧ y ≤ l) n0 n1 (by
      intro e he
      simp only [List.mem_cons, List.not_mem_nil, or_false] at he
      rcases he with rfl | rfl
      · exact ⟨_, rfl, by omega, by omega⟩
      · exact ⟨_, rfl, by omega, by omega⟩)
    exact ⟨_, hx, hR y y0 y1⟩

-- NEEDS scale
-- LAYER Zq5
theorem ok_law (T : En K mg) {f : Addr} {fd : FuncData} (F : Fun K "law" "law" s_law f fd) : FnOk P w K mg base CX0 7 f fd ["script"] (spLaw K) := by
  refine fn_law 1 F sc_law T.n_list rfl rfl rfl (.inl rfl) (.inl rfl) rfl (by decide) fun cdv A outer s H E W hr hns => ?_
  refine ess_cons (es_for .never rfl ?_)
  refine ei_range1 T.n_range ?_
  refine ev_int ?_
  refine ⟨by omega, by omega, ?_⟩
  refine ⟨fun i ρ => ∃ a b c d e f g h i j k l m n : Sl, ρ = [.no, .tape, a, b, c, d, e, f, g, h, i, j, k, l, m, n], ⟨_, _, _, _, _, _, _, _, _, _, _, _, _, _, rfl⟩, fun i x ρ hx hP => ?_, fun ρ hP => ?_⟩
  · obtain ⟨_, _, _, _, _, _, _, _, _, _, _, _, _, _, rfl⟩ := hP
    refine tg_name 2 ?_ sc_law.nd
    refine ess_weak [.no, .tape, .no, .no, .no, .no, .no, .no, .no, .no, .no, .no, .no, .no, .no, .no] (by walk_at "wk") ?_
    refine ess_cons (es_asg ?_)
    refine ev_tup ?_
    refine ea_cons ?_
    refine ev_callT 1 rfl (ok__law_numbers T) (hr.mono (by decide)) T.g__law_numbers T.F__law_numbers.kp T.b__law_numbers ?_
    refine ea_cons ?_
    refine ev_int ?_
    refine ea_cons ?_
    refine ev_int ?_
    refine ea_nil ⟨_, _, rfl, by decide, by decide, fun r d l ra rb da db la lb => ?_⟩
    refine ea_cons ?_
    refine ev_bin oz_add ?_
    refine ev_int ?_
    refine ev_callT 1 rfl (ok__law_draw T) (hr.mono (by decide)) T.g__law_draw T.F__law_draw.kp T.b__law_draw ?_
    refine ea_cons ?_
    refine ev_int ?_
    refine ea_nil ⟨_, rfl, by walk_at "zs", by walk_at "zs", fun t ta tb => ?_⟩
    refine ea_nil ⟨by walk_at "sz", ?_⟩
    refine tg_tup rfl (tgs_name 3 (tgs_name 4 (tgs_nil ?_) sc_law.nd) sc_law.nd)
    have hp : POk r d l := ⟨⟨ra, by omega⟩, ⟨da, db⟩, la, by omega⟩
    have hr0 : 0 < r := by omega
    generalize hf : 1 + t = f
    have f0 : 0 < f := by omega
    have f5 : f ≤ 5 := by omega
    clear hf ta tb
    have m1 : ∀ x : Int, 1 ≤ x → 1 ≤ f * x := fun x hx => by
      have : 1 * 1 ≤ f * x := Int.mul_le_mul (by omega) hx (by omega) (by omega)
      omega
    have m2 : ∀ x y : Int, 0 ≤ x → x ≤ y → f * x ≤ 5 * y := fun x y hx hy => Int.mul_le_mul f5 hy hx (by omega)
    have r1 := m1 r ra
    have r2 := m2 r 40 (by omega) (by omega)
    have l1 := m1 l la
    have l2 := m2 l 2000 (by omega) (by omega)
    have d1 : 0 ≤ f * d := Int.mul_nonneg (by omega) da
    have d2 : f * d < f * r := Int.mul_lt_mul_of_pos_left db f0
    have hpw : POk (f * r) (f * d) (f * l) := ⟨⟨r1, by omega⟩, ⟨d1, d2⟩, l1, by omega⟩
    refine ess_cons (es_set 5 ?_ sc_law.nd)
    refine ev_tupleOf T.n_tuple ?_
    refine ev_el (el_lc (own := [("own", 13)]) (gg_name 13) (fun _ _ _ _ _ => pg_name sc_law.nd rfl (.inl rfl)) rfl sc_law.nd (blkOk_by (N := ["script", "tape", "turn", "kind", "factor", "wide", "size", "lines", "number", "few", "rows", "roll", "back", "own", "place", "begin"]) (sc := defScope s_law) (by decide +kernel)) rfl ?_)
    refine ei_tup ?_
    refine ev_name 3 rfl ?_
    refine ⟨(show 3 ≤ sizeLine by decide), fun i acc => acc = (([r, d, l].take i).map fun y => f * y).map PyData.int, rfl, fun i x acc hx ha _ => ⟨[x], rfl, ?_⟩, fun acc ha hlen => ?_⟩
    · obtain ⟨y, hy, rfl⟩ : ∃ y, [r, d, l][i]? = some y ∧ x = .int y := by
        have hx' : ([r, d, l].map PyData.int)[i]? = some x := hx
        rw [List.getElem?_map] at hx'
        obtain ⟨t, h6, h7⟩ := Option.map_eq_some_iff.mp hx'
        exact ⟨t, h6, h7.symm⟩
      subst ha
      rintro _ ⟨s', H', C, cl, fp, rfl⟩ W' _
      refine ev_bin oz_mul ?_
      refine ev_name 4 rfl ?_
      refine ev_name 13 rfl ?_
      refine ⟨by walk_at "zs", ?_⟩
      show _ = (([r, d, l].take (i + 1)).map fun y => f * y).map PyData.int
      rw [List.take_add_one, hy, List.map_append, List.map_append]
      rfl
    subst ha
    show Ess _ _ _ [.no, .tape, .no, .im (pap r d l), .im (.int f), .im (pap (f * r) (f * d) (f * l)), .no, .no, .no, .no, .no, .no, .no, .no, .no, .no] _
    refine ess_cons (es_par 6 7 ?_ rfl sc_law.nd)
    refine ea_cons ?_
    refine ev_callT 1 rfl (ok__law_size T) (hr.mono (by decide)) T.g__law_size T.F__law_size.kp T.b__law_size ?_
    refine ea_cons ?_
    refine ev_name 3 rfl ?_
    refine ea_nil ⟨_, _, _, rfl, by walk_at "pre", fun z za zb => ?_⟩
    refine ea_cons ?_
    refine ev_bin oz_add ?_
    refine ev_int ?_
    refine ev_callT 1 rfl (ok__law_draw T) (hr.mono (by decide)) T.g__law_draw T.F__law_draw.kp T.b__law_draw ?_
    refine ea_cons ?_
    refine ev_int ?_
    refine ea_nil ⟨_, rfl, by walk_at "zs", by walk_at "zs", fun m ma mb => ?_⟩
    refine ea_nil ?_
    generalize hs : 1 + m = s
    have s1 : 1 ≤ s := by omega
    have s2 : s ≤ 12 := by omega
    clear hs ma mb
    have z1 := m1 z za
    have z2 := m2 z 2000 (by omega) (by omega)
    refine ess_cons (es_set 8 ?_ sc_law.nd)
    refine ev_ix ?_
    refine ev_el (el_lst ?_)
    refine ea_cons ?_
    refine ev_callT 1 rfl (ok__law_draw T) (hr.mono (by decide)) T.g__law_draw T.F__law_draw.kp T.b__law_draw ?_
    refine ea_cons ?_
    refine ev_int ?_
    refine ea_nil ⟨_, rfl, by walk_at "zs", by walk_at "zs", fun m ma mb => ?_⟩
    refine ea_cons ?_
    refine ev_bin oz_mul ?_
    refine ev_callT 1 rfl (ok__law_draw T) (hr.mono (by decide)) T.g__law_draw T.F__law_draw.kp T.b__law_draw ?_
    refine ea_cons ?_
    refine ev_powc (m := 1000000) ?_
    refine ea_nil ⟨_, rfl, by walk_at "zs", by walk_at "zs", fun q qa qb => ?_⟩
    refine ev_powc (m := 1000000) ?_
    refine ⟨by walk_at "zs", ?_⟩
    refine ea_nil ⟨by walk_at "sz", ?_⟩
    refine ev_callT 1 rfl (ok__law_draw T) (hr.mono (by decide)) T.g__law_draw T.F__law_draw.kp T.b__law_draw ?_
    refine ea_cons ?_
    refine ev_int ?_
    refine ea_nil ⟨_, rfl, by walk_at "zs", by walk_at "zs", fun t ta tb => ?_⟩
    obtain ⟨x, hx2, n, rfl, n1, n2⟩ := pick (ds := [.int m, .int (q * 1000000)]) (Pr := fun e => ∃ y : Int, e = .int y ∧ 0 ≤ y ∧ y ≤ 10 ^ 12) ta tb (by
      intro e he
      simp only [List.mem_cons, List.not_mem_nil, or_false] at he
      rcases he with rfl | rfl
      · exact ⟨_, rfl, by omega, by omega⟩
      · exact ⟨_, rfl, by omega, by omega⟩)
    refine ⟨_, hx2, ?_⟩
    clear hx2 ma mb qa qb ta tb
    refine ess_cons (es_if ?_)
    refine et_cmp oz_ne ?_
    refine ev_call (ok_step T) (hr.mono (by decide)) T.g_step T.F_step.kp T.b_step ?_
    refine ea_cons ?_
    refine ev_name 5 rfl ?_
    refine ea_cons ?_
    refine ev_bin oz_mul ?_
    refine ev_name 4 rfl ?_
    refine ev_name 6 rfl ?_
    refine ⟨by walk_at "zs", ?_⟩
    refine ea_cons ?_
    refine ev_name 7 rfl ?_
    refine ea_nil ⟨_, _, _, _, _, rfl, by walk_at "pre", ?_⟩
    refine ev_bin oz_mul ?_
    refine ev_name 4 rfl ?_
    refine ev_call (ok_step T) (hr.mono (by decide)) T.g_step T.F_step.kp T.b_step ?_
    refine ea_cons ?_
    refine ev_name 3 rfl ?_
    refine ea_cons ?_
    refine ev_name 6 rfl ?_
    refine ea_cons ?_
    refine ev_name 7 rfl ?_
    refine ea_nil ⟨_, _, _, _, _, rfl, by walk_at "pre", ?_⟩
    refine ⟨by walk_at "zs", ?_⟩
    rw [stp_sc f0]
    refine dN (fun h => absurd rfl h) fun _ => ess_nil ?_
    refine ess_cons (es_if ?_)
    refine et_cmp oz_ne ?_
    refine ev_call (ok_most_strips T) (hr.mono (by decide)) T.g_most_strips T.F_most_strips.kp T.b_most_strips ?_
    refine ea_cons ?_
    refine ev_name 5 rfl ?_
    refine ea_cons ?_
    refine ev_bin oz_mul ?_
    refine ev_name 4 rfl ?_
    refine ev_name 6 rfl ?_
    refine ⟨by walk_at "zs", ?_⟩
    refine ea_nil ⟨_, _, _, _, rfl, by walk_at "pre", by walk_at "zs", by walk_at "zs", ?_⟩
    refine ev_call (ok_most_strips T) (hr.mono (by decide)) T.g_most_strips T.F_most_strips.kp T.b_most_strips ?_
    refine ea_cons ?_
    refine ev_name 3 rfl ?_
    refine ea_cons ?_
    refine ev_name 6 rfl ?_
    refine ea_nil ⟨_, _, _, _, rfl, by walk_at "pre", by walk_at "zs", by walk_at "zs", ?_⟩
    rw [pg_sc f0 (by omega) da, most_sc f0 (pg_pos ra)]
    refine dN (fun h => absurd rfl h) fun _ => ess_nil ?_
    refine ess_cons (es_if ?_)
    refine et_cmp oz_ne ?_
    refine ev_call (ok_best_lines T) (hr.mono (by decide)) T.g_best_lines T.F_best_lines.kp T.b_best_lines ?_
    refine ea_cons ?_
    refine ev_name 5 rfl ?_
    refine ea_cons ?_
    refine ev_bin oz_mul ?_
    refine ev_name 4 rfl ?_
    refine ev_name 6 rfl ?_
    refine ⟨by walk_at "zs", ?_⟩
    refine ea_nil ⟨_, _, _, _, rfl, by walk_at "pre", fun b ba => ?_⟩
    refine ev_call (ok_best_lines T) (hr.mono (by decide)) T.g_best_lines T.F_best_lines.kp T.b_best_lines ?_
    refine ea_cons ?_
    refine ev_name 3 rfl ?_
    refine ea_cons ?_
    refine ev_name 6 rfl ?_
    refine ea_nil ⟨_, _, _, _, rfl, by walk_at "pre", fun c ca => ?_⟩
    have hbc := best_sc f0 hr0 da ca ba
    subst hbc
    refine dN (fun h => absurd rfl h) fun _ => ess_nil ?_
    have sh1 : SeqAt.shaped (optI (rbt (f * r) (f * d) (f * l) (f * z) s n)) = true := sim_optI.shaped (by decide)
    have sh2 : SeqAt.shaped (optI (rbt r d l z s n)) = true := sim_optI.shaped (by decide)
    refine ess_cons (es_if ?_)
    refine et_cmp (oz_neD (zu hr)) ?_
    refine ev_call (ok_rolls_by_turns T) (hr.mono (by decide)) T.g_rolls_by_turns T.F_rolls_by_turns.kp T.b_rolls_by_turns ?_
    refine ea_cons ?_
    refine ev_name 5 rfl ?_
    refine ea_cons ?_
    refine ev_bin oz_mul ?_
    refine ev_name 4 rfl ?_
    refine ev_name 6 rfl ?_
    refine ⟨by walk_at "zs", ?_⟩
    refine ea_cons ?_
    refine ev_name 7 rfl ?_
    refine ea_cons ?_
    refine ev_name 8 rfl ?_
    refine ea_nil ⟨_, _, _, _, _, _, rfl, by walk_at "pre", by walk_at "zs", by walk_at "zs", by walk_at "zs", by walk_at "zs", by walk_at "zs", by walk_at "zs", ?_⟩
    refine ev_call (ok_rolls_by_turns T) (hr.mono (by decide)) T.g_rolls_by_turns T.F_rolls_by_turns.kp T.b_rolls_by_turns ?_
    refine ea_cons ?_
    refine ev_name 3 rfl ?_
    refine ea_cons ?_
    refine ev_name 6 rfl ?_
    refine ea_cons ?_
    refine ev_name 7 rfl ?_
    refine ea_cons ?_
    refine ev_name 8 rfl ?_
    refine ea_nil ⟨_, _, _, _, _, _, rfl, by walk_at "pre", by walk_at "zs", by walk_at "zs", by walk_at "zs", by walk_at "zs", by walk_at "zs", by walk_at "zs", ?_⟩
    refine ⟨by walk_at "sh", by walk_at "sh", ?_⟩
    rw [rbt_sc f0 hr0]
    refine neSelf sim_optI (ess_nil ?_)
    refine ess_cons (es_set 9 ?_ sc_law.nd)
    refine ev_callT 1 rfl (ok__law_draw T) (hr.mono (by decide)) T.g__law_draw T.F__law_draw.kp T.b__law_draw ?_
    refine ea_cons ?_
    refine ev_int ?_
    refine ea_nil ⟨_, rfl, by walk_at "zs", by walk_at "zs", fun n' n'a n'b => ?_⟩
    refine ess_cut (fun ρ => ∃ a1 a2 a3 a4 a5 a6 : Sl, ρ = [.no, .tape, .no, .im (pap r d l), a1, a2, .im (.int z), .im (.int s), a3, a4, a5, a6, .no, .no, .no, .no]) (es_if ?_) ?_
    · refine et_notN ?_
      refine ev_call (ok_rolls_by_turns T) (hr.mono (by decide)) T.g_rolls_by_turns T.F_rolls_by_turns.kp T.b_rolls_by_turns ?_
      refine ea_cons ?_
      refine ev_name 3 rfl ?_
      refine ea_cons ?_
      refine ev_name 6 rfl ?_
      refine ea_cons ?_
      refine ev_name 7 rfl ?_
      refine ea_cons ?_
      refine ev_name 9 rfl ?_
      refine ea_nil ⟨_, _, _, _, _, _, rfl, by walk_at "pre", by walk_at "zs", by walk_at "zs", by walk_at "zs", by walk_at "zs", by walk_at "zs", by walk_at "zs", ?_⟩
      cases hq : rbt r d l z s n' with
      | none => exact noF (ess_nil ⟨_, _, _, _, _, _, rfl⟩)
      | some v =>
        refine yesT ?_
        have few1 := lay_few (r := r) (d := d) (l := l) (z := z) (s := s) (n := n') s1 (by omega) n'a (by omega)
        have rows1 := lay_rows (r := r) (d := d) (l := l) (z := z) (s := s) (n := n') s1 n'a (by omega)
        refine ess_cons (es_setL 10 (el_lst (ea_nil ⟨by walk_at "sz", ?_⟩)) sc_law.nd)
        refine ess_cons (es_forG (ok_layoutR T) (hr.mono (by decide)) T.g_layout T.F_layout.kp T.b_layout rfl .never ?_)
        refine ea_cons ?_
        refine ev_name 3 rfl ?_
        refine ea_cons ?_
        refine ev_name 6 rfl ?_
        refine ea_cons ?_
        refine ev_name 7 rfl ?_
        refine ea_cons ?_
        refine ev_name 9 rfl ?_
        refine ea_nil ⟨(lay r d l z s n').map prow, ⟨_, _, _, _, _, _, rfl, hp, s1, by omega, n'a, by omega, rfl⟩, ?_⟩
        refine ⟨fun i ρ => ∃ (a : Sl) (xs : List PyData), xs = (((lay r d l z s n').take i).map (scR f)).map prow ∧ ρ = [.no, .tape, .no, .im (pap r d l), .im (.int f), .im (pap (f * r) (f * d) (f * l)), .im (.int z), .im (.int s), .im (.int n), .im (.int n'), .own xs, a, .no, .no, .no, .no], ⟨_, _, rfl, rfl⟩, fun i x ρ hx hP => ?_, fun ρ hP => ?_⟩
        · obtain ⟨a, _, rfl, rfl⟩ := hP
          obtain ⟨ro, hro, rfl⟩ : ∃ ro, (lay r d l z s n')[i]? = some ro ∧ x = prow ro := by
            rw [List.getElem?_map] at hx
            obtain ⟨t, h6, h7⟩ := Option.map_eq_some_iff.mp hx
            exact ⟨t, h6, h7.symm⟩
          have hmem := rows1 ro (List.mem_of_getElem? hro)
          refine tg_name 11 ?_ sc_law.nd
          refine ess_one (es_append 10 rfl ?_)
          refine ev_tupleOf T.n_tuple ?_
          refine ev_el (el_lc (own := [("place", 14), ("begin", 15)]) (gg_tup [14, 15]) (fun _ _ _ _ _ => pg_tup rfl (pgs_cons (pg_name sc_law.nd rfl (.inl rfl)) (pgs_cons (pg_name sc_law.nd rfl (.inl rfl)) (pgs_nil)))) rfl sc_law.nd (blkOk_by (N := ["script", "tape", "turn", "kind", "factor", "wide", "size", "lines", "number", "few", "rows", "roll", "back", "own", "place", "begin"]) (sc := defScope s_law) (by decide +kernel)) rfl ?_)
          refine ei_tup ?_
          refine ev_name 11 rfl ?_
          refine ⟨by rw [List.length_map]; exact Nat.le_trans hmem (by decide), fun j acc => acc = ((ro.take j).map fun q => (q.1, f * q.2)).map pcut, rfl, fun j y acc hy ha _ => ?_, fun acc ha hlen => ?_⟩
          · obtain ⟨t, ht, rfl⟩ : ∃ t, ro[j]? = some t ∧ y = pcut t := by
              rw [List.getElem?_map] at hy
              obtain ⟨t, h6, h7⟩ := Option.map_eq_some_iff.mp hy
              exact ⟨t, h6, h7.symm⟩
            refine ⟨[.int t.1, .int t.2], rfl, ?_⟩
            subst ha
            rintro _ ⟨s', H', C, cl, fp, rfl⟩ W' _
            refine ev_tup ?_
            refine ea_cons ?_
            refine ev_name 14 rfl ?_
            refine ea_cons ?_
            refine ev_bin oz_mul ?_
            refine ev_name 4 rfl ?_
            refine ev_name 15 rfl ?_
            refine ⟨by walk_at "zs", ?_⟩
            refine ea_nil ⟨by walk_at "sz", ?_⟩
            show _ = ((ro.take (j + 1)).map fun q => (q.1, f * q.2)).map pcut
            rw [List.take_add_one, ht, List.map_append, List.map_append]
            rfl
          subst ha
          rw [List.length_map, List.take_length]
          refine ⟨?_, ?_⟩
          · simp only [List.length_map]
            have h1 : ((lay r d l z s n').take i).length ≤ (lay r d l z s n').length := List.length_take_le' _ _
            exact Nat.lt_of_le_of_lt (show ((lay r d l z s n').take i).length ≤ 1000000 by omega) (by decide)
          refine ⟨_, _, ?_, rfl⟩
          rw [List.take_add_one, hro, List.map_append, List.map_append]
          rfl
        · obtain ⟨a, _, rfl, rfl⟩ := hP
          rw [List.length_map, List.take_length]
          refine ess_frz 10 rfl ?_
          refine ess_one (es_if ?_)
          refine et_cmp (oz_neD (zu hr)) ?_
          refine ev_el (el_listG (ok_layout T) (hr.mono (by decide)) T.g_layout T.F_layout.kp T.b_layout T.n_list ?_)
          refine ea_cons ?_
          refine ev_name 5 rfl ?_
          refine ea_cons ?_
          refine ev_bin oz_mul ?_
          refine ev_name 4 rfl ?_
          refine ev_name 6 rfl ?_
          refine ⟨by walk_at "zs", ?_⟩
          refine ea_cons ?_
          refine ev_name 7 rfl ?_
          refine ea_cons ?_
          refine ev_name 9 rfl ?_
          refine ea_nil ⟨_, _, _, _, _, _, rfl, by walk_at "pre", by walk_at "zs", by walk_at "zs", by walk_at "zs", by walk_at "zs", ?_⟩
          refine ev_name 10 rfl ?_
          rw [lay_sc f0]
          have hsim : Sim 3 (.list (((lay r d l z s n').map (scR f)).map prow)) := sim_lay (n := 0) (by rw [List.length_map]; omega) fun q hq => by
            obtain ⟨ro, h1, rfl⟩ := List.mem_map.mp hq
            have := rows1 ro h1
            show (ro.map _).length ≤ _
            rw [List.length_map]
            omega
          refine ⟨hsim.shaped (by decide), hsim.shaped (by decide), ?_⟩
          exact neSelf hsim (ess_nil ⟨_, _, _, _, _, _, rfl⟩)
    rintro _ ⟨_, _, _, _, _, _, rfl⟩
    refine ess_weak [.no, .tape, .no, .im (pap r d l), .no, .no, .im (.int z), .im (.int s), .no, .no, .no, .no, .no, .no, .no, .no] (by walk_at "wk") ?_
    obtain ⟨⟨b1, b2⟩, b3⟩ := back_d hr0 da db
    refine ess_cons (es_set 12 ?_ sc_law.nd)
    refine ev_tup ?_
    refine ea_cons ?_
    refine ev_ix ?_
    refine ev_name 3 rfl ?_
    refine ev_int ?_
    refine ⟨_, rfl, ?_⟩
    refine ea_cons ?_
    refine ev_bin oz_mod ?_
    refine ev_bin oz_sub ?_
    refine ev_ix ?_
    refine ev_name 3 rfl ?_
    refine ev_int ?_
    refine ⟨_, rfl, ?_⟩
    refine ev_ix ?_
    refine ev_name 3 rfl ?_
    refine ev_int ?_
    refine ⟨_, rfl, ?_⟩
    refine ev_ix ?_
    refine ev_name 3 rfl ?_
    refine ev_int ?_
    refine ⟨_, rfl, ?_⟩
    refine ⟨by walk_at "zs", ?_⟩
    refine ea_cons ?_
    refine ev_ix ?_
    refine ev_name 3 rfl ?_
    refine ev_int ?_
    refine ⟨_, rfl, ?_⟩
    refine ea_nil ⟨by walk_at "sz", ?_⟩
    have hpb : POk r ((r - d) % r) l := ⟨⟨ra, by omega⟩, ⟨b1, b2⟩, la, by omega⟩
    refine ess_cons (es_if ?_)
    refine et_ew (ew_or ?_)
    refine et_cmp oz_ne ?_
    refine ev_call (ok_most_strips T) (hr.mono (by decide)) T.g_most_strips T.F_most_strips.kp T.b_most_strips ?_
    refine ea_cons ?_
    refine ev_name 12 rfl ?_
    refine ea_cons ?_
    refine ev_name 6 rfl ?_
    refine ea_nil ⟨_, _, _, _, rfl, by walk_at "pre", by walk_at "zs", by walk_at "zs", ?_⟩
    refine ev_call (ok_most_strips T) (hr.mono (by decide)) T.g_most_strips T.F_most_strips.kp T.b_most_strips ?_
    refine ea_cons ?_
    refine ev_name 3 rfl ?_
    refine ea_cons ?_
    refine ev_name 6 rfl ?_
    refine ea_nil ⟨_, _, _, _, rfl, by walk_at "pre", by walk_at "zs", by walk_at "zs", ?_⟩
    rw [b3]
    refine dN (fun h => absurd rfl h) fun _ => ?_
    refine ew_or1 ?_
    refine et_cmp oz_ne ?_
    refine ev_call (ok_least_step T) (hr.mono (by decide)) T.g_least_step T.F_least_step.kp T.b_least_step ?_
    refine ea_cons ?_
    refine ev_name 12 rfl ?_
    refine ea_cons ?_
    refine ev_name 6 rfl ?_
    refine ea_nil ⟨_, _, _, _, rfl, by walk_at "pre", ?_⟩
    refine ev_call (ok_least_step T) (hr.mono (by decide)) T.g_least_step T.F_least_step.kp T.b_least_step ?_
    refine ea_cons ?_
    refine ev_name 3 rfl ?_
    refine ea_cons ?_
    refine ev_name 6 rfl ?_
    refine ea_nil ⟨_, _, _, _, rfl, by walk_at "pre", ?_⟩
    rw [b3]
    refine dN (fun h => absurd rfl h) fun _ => ess_nil ?_
    refine ess_one (es_if ?_)
    refine et_ew (ew_and ?_)
    refine et_cmp oz_lt ?_
    refine ev_name 7 rfl ?_
    refine ev_ix ?_
    refine ev_name 3 rfl ?_
    refine ev_int ?_
    refine ⟨_, rfl, ?_⟩
    refine dB (fun _ => ?_) fun _ => noF (ess_nil ⟨_, _, _, _, _, _, _, _, _, _, _, _, _, _, rfl⟩)
    refine ew_and1 ?_
    refine et_cmp oz_ne ?_
    refine ev_call (ok_step T) (hr.mono (by decide)) T.g_step T.F_step.kp T.b_step ?_
    refine ea_cons ?_
    refine ev_name 12 rfl ?_
    refine ea_cons ?_
    refine ev_name 6 rfl ?_
    refine ea_cons ?_
    refine ev_name 7 rfl ?_
    refine ea_nil ⟨_, _, _, _, _, rfl, by walk_at "pre", ?_⟩
    refine ev_bin oz_add ?_
    refine ev_name 6 rfl ?_
    refine ev_bin oz_mod ?_
    refine ev_bin oz_sub ?_
    refine ev_bin oz_sub ?_
    refine ev_int ?_
    refine ev_bin oz_mul ?_
    refine ev_name 7 rfl ?_
    refine ev_ix ?_
    refine ev_name 3 rfl ?_
    refine ev_int ?_
    refine ⟨_, rfl, ?_⟩
    refine ⟨by walk_at "zs", ?_⟩
    refine ev_name 6 rfl ?_
    refine ev_ix ?_
    refine ev_name 3 rfl ?_
    refine ev_int ?_
    refine ⟨_, rfl, ?_⟩
    refine ⟨by walk_at "zs", ?_⟩
    rw [back_stp]
    exact dN (fun h => absurd rfl h) fun _ => ess_nil ⟨_, _, _, _, _, _, _, _, _, _, _, _, _, _, rfl⟩
  · obtain ⟨_, _, _, _, _, _, _, _, _, _, _, _, _, _, rfl⟩ := hP
    refine ess_one (es_ret ?_)
    refine ev_bool ?_
    rfl

end
theorem all_mk {l : PySem.W.OpenLaw} {w : World} {K : PySem.W.Frag} {h : Heap} {mg : Str → Option Value} {fa : Addr} (X : K.In h) (G : h.Ns mainGlobals mg) (hfa : mg "law" = some (.ref fa))
    {f0 : Addr} {od0 an0 : Option Addr} {sl0 : Array (Option Value)} {oc0 kV0 dc0 pm0 cd0 ct0 : Value}
    (a0 : PySem.W.nsIn K mainGlobals "step" = some (some (.ref f0))) (l0 : K.lookup f0 = some ⟨oc0, od0, .func (PySem.W.fnOf "step" "step" (defArgs s_step) (defBody s_step) (defScope s_step) .none kV0 dc0 pm0 an0 cd0 ct0), sl0⟩) (c0 : PySem.W.codeIn K cd0 "step" = true) (k0 : PySem.W.keepIn K (.ref f0) = true)
    {f1 : Addr} {od1 an1 : Option Addr} {sl1 : Array (Option Value)} {oc1 kV1 dc1 pm1 cd1 ct1 : Value}
    (a1 : PySem.W.nsIn K mainGlobals "best_lines" = some (some (.ref f1))) (l1 : K.lookup f1 = some ⟨oc1, od1, .func (PySem.W.fnOf "best_lines" "best_lines" (defArgs s_best_lines) (defBody s_best_lines) (defScope s_best_lines) .none kV1 dc1 pm1 an1 cd1 ct1), sl1⟩) (c1 : PySem.W.codeIn K cd1 "best_lines" = true) (k1 : PySem.W.keepIn K (.ref f1) = true)
    {f2 : Addr} {od2 an2 : Option Addr} {sl2 : Array (Option Value)} {oc2 kV2 dc2 pm2 cd2 ct2 : Value}
    (a2 : PySem.W.nsIn K mainGlobals "least_step" = some (some (.ref f2))) (l2 : K.lookup f2 = some ⟨oc2, od2, .func (PySem.W.fnOf "least_step" "least_step" (defArgs s_least_step) (defBody s_least_step) (defScope s_least_step) .none kV2 dc2 pm2 an2 cd2 ct2), sl2⟩) (c2 : PySem.W.codeIn K cd2 "least_step" = true) (k2 : PySem.W.keepIn K (.ref f2) = true)
    {f3 : Addr} {od3 an3 : Option Addr} {sl3 : Array (Option Value)} {oc3 kV3 dc3 pm3 cd3 ct3 : Value}
    (a3 : PySem.W.nsIn K mainGlobals "most_strips" = some (some (.ref f3))) (l3 : K.lookup f3 = some ⟨oc3, od3, .func (PySem.W.fnOf "most_strips" "most_strips" (defArgs s_most_strips) (defBody s_most_strips) (defScope s_most_strips) .none kV3 dc3 pm3 an3 cd3 ct3), sl3⟩) (c3 : PySem.W.codeIn K cd3 "most_strips" = true) (k3 : PySem.W.keepIn K (.ref f3) = true)
    {f4 : Addr} {od4 an4 : Option Addr} {sl4 : Array (Option Value)} {oc4 kV4 dc4 pm4 cd4 ct4 : Value}
    (a4 : PySem.W.nsIn K mainGlobals "phase" = some (some (.ref f4))) (l4 : K.lookup f4 = some ⟨oc4, od4, .func (PySem.W.fnOf "phase" "phase" (defArgs s_phase) (defBody s_phase) (defScope s_phase) .none kV4 dc4 pm4 an4 cd4 ct4), sl4⟩) (c4 : PySem.W.codeIn K cd4 "phase" = true) (k4 : PySem.W.keepIn K (.ref f4) = true)
    {f5 : Addr} {od5 an5 : Option Addr} {sl5 : Array (Option Value)} {oc5 kV5 dc5 pm5 cd5 ct5 : Value}
    (a5 : PySem.W.nsIn K mainGlobals "can_cut" = some (some (.ref f5))) (l5 : K.lookup f5 = some ⟨oc5, od5, .func (PySem.W.fnOf "can_cut" "can_cut" (defArgs s_can_cut) (defBody s_can_cut) (defScope s_can_cut) .none kV5 dc5 pm5 an5 cd5 ct5), sl5⟩) (c5 : PySem.W.codeIn K cd5 "can_cut" = true) (k5 : PySem.W.keepIn K (.ref f5) = true)
    {f6 : Addr} {od6 an6 : Option Addr} {sl6 : Array (Option Value)} {oc6 kV6 dc6 pm6 cd6 ct6 : Value}
    (a6 : PySem.W.nsIn K mainGlobals "all_can_be_cut" = some (some (.ref f6))) (l6 : K.lookup f6 = some ⟨oc6, od6, .func (PySem.W.fnOf "all_can_be_cut" "all_can_be_cut" (defArgs s_all_can_be_cut) (defBody s_all_can_be_cut) (defScope s_all_can_be_cut) .none kV6 dc6 pm6 an6 cd6 ct6), sl6⟩) (c6 : PySem.W.codeIn K cd6 "all_can_be_cut" = true) (k6 : PySem.W.keepIn K (.ref f6) = true)
    {f7 : Addr} {od7 an7 : Option Addr} {sl7 : Array (Option Value)} {oc7 kV7 dc7 pm7 cd7 ct7 : Value}
    (a7 : PySem.W.nsIn K mainGlobals "begin_behind" = some (some (.ref f7))) (l7 : K.lookup f7 = some ⟨oc7, od7, .func (PySem.W.fnOf "begin_behind" "begin_behind" (defArgs s_begin_behind) (defBody s_begin_behind) (defScope s_begin_behind) .none kV7 dc7 pm7 an7 cd7 ct7), sl7⟩) (c7 : PySem.W.codeIn K cd7 "begin_behind" = true) (k7 : PySem.W.keepIn K (.ref f7) = true)
    {f8 : Addr} {od8 an8 : Option Addr} {sl8 : Array (Option Value)} {oc8 kV8 dc8 pm8 cd8 ct8 : Value}
    (a8 : PySem.W.nsIn K mainGlobals "strips_from" = some (some (.ref f8))) (l8 : K.lookup f8 = some ⟨oc8, od8, .func (PySem.W.fnOf "strips_from" "strips_from" (defArgs s_strips_from) (defBody s_strips_from) (defScope s_strips_from) .none kV8 dc8 pm8 an8 cd8 ct8), sl8⟩) (c8 : PySem.W.codeIn K cd8 "strips_from" = true) (k8 : PySem.W.keepIn K (.ref f8) = true)
    {f9 : Addr} {od9 an9 : Option Addr} {sl9 : Array (Option Value)} {oc9 kV9 dc9 pm9 cd9 ct9 : Value}
    (a9 : PySem.W.nsIn K mainGlobals "rolls_of_line" = some (some (.ref f9))) (l9 : K.lookup f9 = some ⟨oc9, od9, .func (PySem.W.fnOf "rolls_of_line" "rolls_of_line" (defArgs s_rolls_of_line) (defBody s_rolls_of_line) (defScope s_rolls_of_line) .none kV9 dc9 pm9 an9 cd9 ct9), sl9⟩) (c9 : PySem.W.codeIn K cd9 "rolls_of_line" = true) (k9 : PySem.W.keepIn K (.ref f9) = true)
    {f10 : Addr} {od10 an10 : Option Addr} {sl10 : Array (Option Value)} {oc10 kV10 dc10 pm10 cd10 ct10 : Value}
    (a10 : PySem.W.nsIn K mainGlobals "rolls_by_turns" = some (some (.ref f10))) (l10 : K.lookup f10 = some ⟨oc10, od10, .func (PySem.W.fnOf "rolls_by_turns" "rolls_by_turns" (defArgs s_rolls_by_turns) (defBody s_rolls_by_turns) (defScope s_rolls_by_turns) .none kV10 dc10 pm10 an10 cd10 ct10), sl10⟩) (c10 : PySem.W.codeIn K cd10 "rolls_by_turns" = true) (k10 : PySem.W.keepIn K (.ref f10) = true)
    {f11 : Addr} {od11 an11 : Option Addr} {sl11 : Array (Option Value)} {oc11 kV11 dc11 pm11 cd11 ct11 : Value}
    (a11 : PySem.W.nsIn K mainGlobals "layout" = some (some (.ref f11))) (l11 : K.lookup f11 = some ⟨oc11, od11, .func (PySem.W.fnOf "layout" "layout" (defArgs s_layout) (defBody s_layout) (defScope s_layout) .none kV11 dc11 pm11 an11 cd11 ct11), sl11⟩) (c11 : PySem.W.codeIn K cd11 "layout" = true) (k11 : PySem.W.keepIn K (.ref f11) = true)
    {f12 : Addr} {od12 an12 : Option Addr} {sl12 : Array (Option Value)} {oc12 kV12 dc12 pm12 cd12 ct12 : Value}
    (a12 : PySem.W.nsIn K mainGlobals "_law_draw" = some (some (.ref f12))) (l12 : K.lookup f12 = some ⟨oc12, od12, .func (PySem.W.fnOf "_law_draw" "_law_draw" (defArgs s__law_draw) (defBody s__law_draw) (defScope s__law_draw) .none kV12 dc12 pm12 an12 cd12 ct12), sl12⟩) (c12 : PySem.W.codeIn K cd12 "_law_draw" = true) (k12 : PySem.W.keepIn K (.ref f12) = true)
    {f13 : Addr} {od13 an13 : Option Addr} {sl13 : Array (Option Value)} {oc13 kV13 dc13 pm13 cd13 ct13 : Value}
    (a13 : PySem.W.nsIn K mainGlobals "_law_numbers" = some (some (.ref f13))) (l13 : K.lookup f13 = some ⟨oc13, od13, .func (PySem.W.fnOf "_law_numbers" "_law_numbers" (defArgs s__law_numbers) (defBody s__law_numbers) (defScope s__law_numbers) .none kV13 dc13 pm13 an13 cd13 ct13), sl13⟩) (c13 : PySem.W.codeIn K cd13 "_law_numbers" = true) (k13 : PySem.W.keepIn K (.ref f13) = true)
    {f14 : Addr} {od14 an14 : Option Addr} {sl14 : Array (Option Value)} {oc14 kV14 dc14 pm14 cd14 ct14 : Value}
    (a14 : PySem.W.nsIn K mainGlobals "_law_size" = some (some (.ref f14))) (l14 : K.lookup f14 = some ⟨oc14, od14, .func (PySem.W.fnOf "_law_size" "_law_size" (defArgs s__law_size) (defBody s__law_size) (defScope s__law_size) .none kV14 dc14 pm14 an14 cd14 ct14), sl14⟩) (c14 : PySem.W.codeIn K cd14 "_law_size" = true) (k14 : PySem.W.keepIn K (.ref f14) = true)
    {f15 : Addr} {od15 an15 : Option Addr} {sl15 : Array (Option Value)} {oc15 kV15 dc15 pm15 cd15 ct15 : Value}
    (a15 : PySem.W.nsIn K mainGlobals "law" = some (some (.ref f15))) (l15 : K.lookup f15 = some ⟨oc15, od15, .func (PySem.W.fnOf "law" "law" (defArgs s_law) (defBody s_law) (defScope s_law) .none kV15 dc15 pm15 an15 cd15 ct15), sl15⟩) (c15 : PySem.W.codeIn K cd15 "law" = true) (k15 : PySem.W.keepIn K (.ref f15) = true)
    (z0 : PySem.W.nsIn K mainGlobals "all" = some none)
    (z1 : PySem.W.nsIn K mainGlobals "len" = some none)
    (z2 : PySem.W.nsIn K mainGlobals "list" = some none)
    (z3 : PySem.W.nsIn K mainGlobals "max" = some none)
    (z4 : PySem.W.nsIn K mainGlobals "min" = some none)
    (z5 : PySem.W.nsIn K mainGlobals "range" = some none)
    (z6 : PySem.W.nsIn K mainGlobals "tuple" = some none)
    : ∃ fd : FuncData, (∀ (s : Shared) (v : Value), BindsTo s fd ⟨[v], []⟩ [("script", v)]) ∧ ∀ base : Heap, K.In base → base.Ns mainGlobals mg → FnOk l.prog w K mg base CX0 7 fa fd ["script"] (spLaw K) := by
  have e := hfa.symm.trans (PySem.W.mg_of X G a15)
  cases e
  have F0 := fun_mk (st := s_step) l0 c0 k0
  have b0 := F0.binds (ps := ["paper", "length", "lines"]) fun _ _ _ _ _ _ us hl => match us, hl with | [_, _, _], _ => rfl
  have F1 := fun_mk (st := s_best_lines) l1 c1 k1
  have b1 := F1.binds (ps := ["paper", "length"]) fun _ _ _ _ _ _ us hl => match us, hl with | [_, _], _ => rfl
  have F2 := fun_mk (st := s_least_step) l2 c2 k2
  have b2 := F2.binds (ps := ["paper", "length"]) fun _ _ _ _ _ _ us hl => match us, hl with | [_, _], _ => rfl
  have F3 := fun_mk (st := s_most_strips) l3 c3 k3
  have b3 := F3.binds (ps := ["paper", "length"]) fun _ _ _ _ _ _ us hl => match us, hl with | [_, _], _ => rfl
  have F4 := fun_mk (st := s_phase) l4 c4 k4
  have b4 := F4.binds (ps := ["paper", "place"]) fun _ _ _ _ _ _ us hl => match us, hl with | [_, _], _ => rfl
  have F5 := fun_mk (st := s_can_cut) l5 c5 k5
  have b5 := F5.binds (ps := ["paper", "length", "place"]) fun _ _ _ _ _ _ us hl => match us, hl with | [_, _, _], _ => rfl
  have F6 := fun_mk (st := s_all_can_be_cut) l6 c6 k6
  have b6 := F6.binds (ps := ["paper", "length", "number"]) fun _ _ _ _ _ _ us hl => match us, hl with | [_, _, _], _ => rfl
  have F7 := fun_mk (st := s_begin_behind) l7 c7 k7
  have b7 := F7.binds (ps := ["paper", "free", "place"]) fun _ _ _ _ _ _ us hl => match us, hl with | [_, _, _], _ => rfl
  have F8 := fun_mk (st := s_strips_from) l8 c8 k8
  have b8 := F8.binds (ps := ["paper", "length", "lines", "place"]) fun _ _ _ _ _ _ us hl => match us, hl with | [_, _, _, _], _ => rfl
  have F9 := fun_mk (st := s_rolls_of_line) l9 c9 k9
  have b9 := F9.binds (ps := ["paper", "length", "lines", "line", "count"]) fun _ _ _ _ _ _ us hl => match us, hl with | [_, _, _, _, _], _ => rfl
  have F10 := fun_mk (st := s_rolls_by_turns) l10 c10 k10
  have b10 := F10.binds (ps := ["paper", "length", "lines", "number"]) fun _ _ _ _ _ _ us hl => match us, hl with | [_, _, _, _], _ => rfl
  have F11 := fun_mk (st := s_layout) l11 c11 k11
  have b11 := F11.binds (ps := ["paper", "length", "lines", "number"]) fun _ _ _ _ _ _ us hl => match us, hl with | [_, _, _, _], _ => rfl
  have F12 := fun_mk (st := s__law_draw) l12 c12 k12
  have b12 := F12.binds (ps := ["tape", "many"]) fun _ _ _ _ _ _ us hl => match us, hl with | [_, _], _ => rfl
  have F13 := fun_mk (st := s__law_numbers) l13 c13 k13
  have b13 := F13.binds (ps := ["tape", "most", "far"]) fun _ _ _ _ _ _ us hl => match us, hl with | [_, _, _], _ => rfl
  have F14 := fun_mk (st := s__law_size) l14 c14 k14
  have b14 := F14.binds (ps := ["tape", "kind"]) fun _ _ _ _ _ _ us hl => match us, hl with | [_, _], _ => rfl
  have F15 := fun_mk (st := s_law) l15 c15 k15
  have T : En K mg := ⟨f0, _, F0, b0, PySem.W.mg_of X G a0, f1, _, F1, b1, PySem.W.mg_of X G a1, f2, _, F2, b2, PySem.W.mg_of X G a2, f3, _, F3, b3, PySem.W.mg_of X G a3, f4, _, F4, b4, PySem.W.mg_of X G a4, f5, _, F5, b5, PySem.W.mg_of X G a5, f6, _, F6, b6, PySem.W.mg_of X G a6, f7, _, F7, b7, PySem.W.mg_of X G a7, f8, _, F8, b8, PySem.W.mg_of X G a8, f9, _, F9, b9, PySem.W.mg_of X G a9, f10, _, F10, b10, PySem.W.mg_of X G a10, f11, _, F11, b11, PySem.W.mg_of X G a11, f12, _, F12, b12, PySem.W.mg_of X G a12, f13, _, F13, b13, PySem.W.mg_of X G a13, f14, _, F14, b14, PySem.W.mg_of X G a14, PySem.W.mg_none_of X G z0, PySem.W.mg_none_of X G z1, PySem.W.mg_none_of X G z2, PySem.W.mg_none_of X G z3, PySem.W.mg_none_of X G z4, PySem.W.mg_none_of X G z5, PySem.W.mg_none_of X G z6⟩
  exact ⟨PySem.W.fnOf "law" "law" (defArgs s_law) (defBody s_law) (defScope s_law) .none kV15 dc15 pm15 an15 cd15 ct15, fun s v => .of_eq rfl, fun base _ _ => ok_law T F15⟩
end Law
open PySem PySem.W PyProof.Rows
set_option maxRecDepth 100000 in
set_option maxHeartbeats 0 in
theorem PySem.Challenge.cw_wallrolls_k14_whole_multiplied_papers_holds : PySem.Challenge.rw_wallrolls_k14_whole_multiplied_papers.Holds := by
  w_on; o_law; k_head; (case hw => w_witness2)
  k_fill
  refine L2.walk_of (l := PySem.Challenge.rw_wallrolls_k14_whole_multiplied_papers) (n := 63) (k := 7) (x := "script") (CX := fun _ => L2.CX0) (sp := fun w => Z.spLaw _) rfl (by decide) rfl ⟨rfl, by decide, by decide⟩ (fun w h Y => PySem.W.kIn_of Y) ?F (fun _ _ a ns hl _ hS => ⟨a, ns, rfl, hS, hl, fun _ => rfl⟩) (fun _ _ _ _ _ h => h)
  case F =>
    intro w mg fa h KX G hmg
    refine' Law.all_mk KX G hmg ?a0 ?l0 ?c0 ?k0 ?a1 ?l1 ?c1 ?k1 ?a2 ?l2 ?c2 ?k2 ?a3 ?l3 ?c3 ?k3 ?a4 ?l4 ?c4 ?k4 ?a5 ?l5 ?c5 ?k5 ?a6 ?l6 ?c6 ?k6 ?a7 ?l7 ?c7 ?k7 ?a8 ?l8 ?c8 ?k8 ?a9 ?l9 ?c9 ?k9 ?a10 ?l10 ?c10 ?k10 ?a11 ?l11 ?c11 ?k11 ?a12 ?l12 ?c12 ?k12 ?a13 ?l13 ?c13 ?k13 ?a14 ?l14 ?c14 ?k14 ?a15 ?l15 ?c15 ?k15 ?z0 ?z1 ?z2 ?z3 ?z4 ?z5 ?z6
    (case a0 => k_is)
    (case l0 => k_is)
    (case c0 => k_is)
    (case k0 => k_is)
    (case a1 => k_is)
    (case l1 => k_is)
    (case c1 => k_is)
    (case k1 => k_is)
    (case a2 => k_is)
    (case l2 => k_is)
    (case c2 => k_is)
    (case k2 => k_is)
    (case a3 => k_is)
    (case l3 => k_is)
    (case c3 => k_is)
    (case k3 => k_is)
    (case a4 => k_is)
    (case l4 => k_is)
    (case c4 => k_is)
    (case k4 => k_is)
    (case a5 => k_is)
    (case l5 => k_is)
    (case c5 => k_is)
    (case k5 => k_is)
    (case a6 => k_is)
    (case l6 => k_is)
    (case c6 => k_is)
    (case k6 => k_is)
    (case a7 => k_is)
    (case l7 => k_is)
    (case c7 => k_is)
    (case k7 => k_is)
    (case a8 => k_is)
    (case l8 => k_is)
    (case c8 => k_is)
    (case k8 => k_is)
    (case a9 => k_is)
    (case l9 => k_is)
    (case c9 => k_is)
    (case k9 => k_is)
    (case a10 => k_is)
    (case l10 => k_is)
    (case c10 => k_is)
    (case k10 => k_is)
    (case a11 => k_is)
    (case l11 => k_is)
    (case c11 => k_is)
    (case k11 => k_is)
    (case a12 => k_is)
    (case l12 => k_is)
    (case c12 => k_is)
    (case k12 => k_is)
    (case a13 => k_is)
    (case l13 => k_is)
    (case c13 => k_is)
    (case k13 => k_is)
    (case a14 => k_is)
    (case l14 => k_is)
    (case c14 => k_is)
    (case k14 => k_is)
    (case a15 => k_is)
    (case l15 => k_is)
    (case c15 => k_is)
    (case k15 => k_is)
    (case z0 => k_is)
    (case z1 => k_is)
    (case z2 => k_is)
    (case z3 => k_is)
    (case z4 => k_is)
    (case z5 => k_is)
    (case z6 => k_is)
#print axioms PySem.Challenge.cw_wallrolls_k14_whole_multiplied_papers_holds
