import PyProof.Rows.All
import Wide.All
import OpenK.AllK
import Wide.FinOn
import HandS.ForMost
import HandS.Wide
import KE.KDictKeyed
import HandS.DictTup
import HandS.TupAny
import HandS.Deep
import HandS.IsInst
import HandS.Style
import HandS.TupLe
import HandS.Dict
import HandS.SetFor
import HandS.TupSets
import HandS.Zip
import HandS.More
import HandS.Text
import HandS.SortInts
import KE.KRevSl
import PyProof.AutoSeq1
import HandS.Conv
import KE.DatumOrd
import KE.SortData
import HandS.GenBody
import HandS.GenYield
import HandS.GenCall
import HandS.GenList
import HandS.Star
import KE.KDictOf
import KE.KDictDisplayH
import KE.KEqDict
import HandS.DictComp
import HandS.WordsDict
import PySem.Challenge.RW_wallrolls_k08_whole_fewest_rolls_of_all
set_option Elab.async false
set_option linter.all false
set_option maxRecDepth 100000
set_option maxHeartbeats 4000000
/-! My own layer: code over plain data, the heap out of sight. -/
namespace Z
open PySem PySem.Spec PyProof.Rows L2

/-! ### data, as the heap grows -/
mutual
/-- a value is the data d: lists are tracked themselves -/
inductive Dq (K : PySem.W.Frag) (H : Hp) : V → PyData → Prop
  | non : Dq K H .non .none
  | bl (b : Bool) : Dq K H (.bl b) (.bool b)
  | int (i : Int) : Dq K H (.int i) (.int i)
  | str (x : Str) : Dq K H (.str x) (.str x)
  | lst {a : Addr} {xs : List V} {ds : List PyData} : H a = some (.lst xs) → DqAll K H xs ds → Dq K H (.ref a) (.list ds)
  | tup {a : Addr} {xs : List V} {ds : List PyData} : SqT K H a xs → DqAll K H xs ds → Dq K H (.ref a) (.tuple ds)
inductive DqAll (K : PySem.W.Frag) (H : Hp) : List V → List PyData → Prop
  | nil : DqAll K H [] []
  | cons {v : V} {vs : List V} {d : PyData} {ds : List PyData} : Dq K H v d → DqAll K H vs ds → DqAll K H (v :: vs) (d :: ds)
end
mutual
theorem dqDp {K : PySem.W.Frag} {B : Hp} : ∀ (d : PyData) (v : V), Dq K B v d → Dp K B v d
  | .none, _, h => by cases h; exact .non
  | .bool b, _, h => by cases h; exact .bl b
  | .int i, _, h => by cases h; exact .int i
  | .str x, _, h => by cases h; exact .str x
  | .list ds, _, h => by
    cases h with
    | lst hs ha => exact .lst (SqL.of hs) (dqDpAll ds _ ha)
  | .tuple ds, _, h => by
    cases h with
    | tup hs ha => exact .tup hs (dqDpAll ds _ ha)
  | .dict _, _, h => by cases h
theorem dqDpAll {K : PySem.W.Frag} {B : Hp} : ∀ (ds : List PyData) (vs : List V), DqAll K B vs ds → DpAll K B vs ds
  | [], _, h => by cases h; exact .nil
  | d :: ds, _, h => by
    cases h with
    | cons h1 h2 => exact .cons (dqDp d _ h1) (dqDpAll ds _ h2)
end
mutual
theorem dpMono {K : PySem.W.Frag} {B B' : Hp} (s : Same B B') : ∀ (d : PyData) (v : V), Dq K B v d → Dq K B' v d
  | .none, _, h => by cases h; exact .non
  | .bool b, _, h => by cases h; exact .bl b
  | .int i, _, h => by cases h; exact .int i
  | .str x, _, h => by cases h; exact .str x
  | .list ds, _, h => by
    cases h with
    | lst hs ha => exact .lst (s _ _ hs) (dpAllMono s ds _ ha)
  | .tuple ds, _, h => by
    cases h with
    | tup hs ha =>
      refine .tup ?_ (dpAllMono s ds _ ha)
      rcases hs with (h | ⟨o, h⟩) | h
      · exact .inl (.inl (s _ _ h))
      · exact .inl (.inr ⟨o, s _ _ h⟩)
      · exact .inr h
  | .dict _, _, h => by cases h
theorem dpAllMono {K : PySem.W.Frag} {B B' : Hp} (s : Same B B') : ∀ (ds : List PyData) (vs : List V), DqAll K B vs ds → DqAll K B' vs ds
  | [], _, h => by cases h; exact .nil
  | d :: ds, _, h => by
    cases h with
    | cons h1 h2 => exact .cons (dpMono s d _ h1) (dpAllMono s ds _ h2)
end
theorem dpAll_len {K : PySem.W.Frag} {B : Hp} : ∀ {ds : List PyData} {vs : List V}, DqAll K B vs ds → vs.length = ds.length
  | [], _, h => by cases h; rfl
  | d :: ds, _, h => by
    cases h with
    | cons h1 h2 => simp [dpAll_len h2]
theorem dpAll_get {K : PySem.W.Frag} {B : Hp} : ∀ {ds : List PyData} {vs : List V}, DqAll K B vs ds → ∀ {i : Nat} {d : PyData}, ds[i]? = some d → ∃ v, vs[i]? = some v ∧ Dq K B v d
  | [], _, h, i, d, e => by simp at e
  | d :: ds, _, h, i, d', e => by
    cases h with
    | cons h1 h2 =>
      cases i with
      | zero => simp at e; subst e; exact ⟨_, by simp, h1⟩
      | succ i =>
        have e' : ds[i]? = some d' := by simpa using e
        obtain ⟨v, a, b⟩ := dpAll_get h2 e'
        exact ⟨v, by simpa using a, b⟩
theorem dpAll_app {K : PySem.W.Frag} {B : Hp} : ∀ {ds es : List PyData} {vs us : List V}, DqAll K B vs ds → DqAll K B us es → DqAll K B (vs ++ us) (ds ++ es)
  | [], _, _, _, h, h' => by cases h; exact h'
  | d :: ds, _, _, _, h, h' => by
    cases h with
    | cons h1 h2 => exact .cons h1 (dpAll_app h2 h')
theorem dpAll_set {K : PySem.W.Frag} {B : Hp} {v : V} {d : PyData} (hd : Dq K B v d) : ∀ {ds : List PyData} {vs : List V} (i : Nat), DqAll K B vs ds → DqAll K B (vs.set i v) (ds.set i d)
  | [], _, i, h => by cases h; exact .nil
  | d' :: ds, _, i, h => by
    cases h with
    | cons h1 h2 =>
      cases i with
      | zero => exact .cons hd h2
      | succ i => exact .cons h1 (dpAll_set hd i h2)
theorem dpAll_take {K : PySem.W.Frag} {B : Hp} : ∀ {ds : List PyData} {vs : List V} (n : Nat), DqAll K B vs ds → DqAll K B (vs.take n) (ds.take n)
  | _, _, 0, _ => .nil
  | [], _, _ + 1, h => by cases h; exact .nil
  | d :: ds, _, n + 1, h => by
    cases h with
    | cons h1 h2 => exact .cons h1 (dpAll_take n h2)
theorem dpAll_drop {K : PySem.W.Frag} {B : Hp} : ∀ {ds : List PyData} {vs : List V} (n : Nat), DqAll K B vs ds → DqAll K B (vs.drop n) (ds.drop n)
  | _, _, 0, h => h
  | [], _, _ + 1, h => by cases h; exact .nil
  | d :: ds, _, n + 1, h => by
    cases h with
    | cons h1 h2 => exact dpAll_drop n h2
theorem dp_int {K : PySem.W.Frag} {B : Hp} {v : V} {i : Int} (h : Dq K B v (.int i)) : v = .int i := by cases h; rfl
theorem dp_bool {K : PySem.W.Frag} {B : Hp} {v : V} {i : Bool} (h : Dq K B v (.bool i)) : v = .bl i := by cases h; rfl
theorem dp_none {K : PySem.W.Frag} {B : Hp} {v : V} (h : Dq K B v .none) : v = .non := by cases h; rfl
theorem dp_str {K : PySem.W.Frag} {B : Hp} {v : V} {x : Str} (h : Dq K B v (.str x)) : v = .str x := by cases h; rfl
theorem dp_list {K : PySem.W.Frag} {B : Hp} {v : V} {ds : List PyData} (h : Dq K B v (.list ds)) : ∃ a vs, v = .ref a ∧ B a = some (.lst vs) ∧ DqAll K B vs ds := by
  cases h with
  | lst h1 h2 => exact ⟨_, _, rfl, h1, h2⟩
theorem dp_tup {K : PySem.W.Frag} {B : Hp} {v : V} {ds : List PyData} (h : Dq K B v (.tuple ds)) : ∃ a vs, v = .ref a ∧ SqT K B a vs ∧ DqAll K B vs ds := by
  cases h with
  | tup h1 h2 => exact ⟨_, _, rfl, h1, h2⟩
theorem seqT {K : PySem.W.Frag} {B H : Hp} (s : Same B H) {a : Addr} {xs : List V} (hs : SqT K B a xs) : SqT K H a xs := by
  rcases hs with (h | ⟨o, h⟩) | h
  · exact .inl (.inl (s _ _ h))
  · exact .inl (.inr ⟨o, s _ _ h⟩)
  · exact .inr h
theorem same_new {H : Hp} {p : Addr} {o : HO} (h : H p = none) : Same H (upd H p o) := fun b x e => by
  rw [upd_ne (ne_of_none e h)]
  exact e
theorem same_upd2 {B H : Hp} {p : Addr} {o : HO} (s : Same B H) : Same (upd B p o) (upd H p o) := fun b x e => by
  by_cases hb : b = p
  · subst hb
    rw [upd_same] at e ⊢
    exact e
  · rw [upd_ne hb] at e ⊢
    exact s b x e
theorem same_right {B H : Hp} {p : Addr} {o : HO} (s : Same B H) (h : B p = none) : Same B (upd H p o) := fun b x e => by
  rw [upd_ne (ne_of_none e h)]
  exact s b x e

/-! ### what a frame holds -/
mutual
/-- a key of numbers and tuples -/
def intK : NestedKey → Bool
  | .num _ => true
  | .tup ks => intKs ks
  | _ => false
def intKs : List NestedKey → Bool
  | [] => true
  | k :: ks => intK k && intKs ks
end
mutual
/-- its hash -/
def hN : NestedKey → Int
  | .none => 0
  | .num i => hashInt i
  | .text _ => 0
  | .tup ks => reduceHash (Builtin.Tuple.tupleHashOf (hNs ks))
def hNs : List NestedKey → List Int
  | [] => []
  | k :: ks => hN k :: hNs ks
end
/-- the entries of such a dict, as they stand -/
def entN (x : NestedKey × Addr × Value) : DictEntry := ⟨hN x.1, .ref x.2.1, x.2.2⟩
/-- an object of which the very cell is known -/
abbrev dNO (a : Addr) (o : Obj) : HO := .ext fun h => h.get? a = some o
/-- what such entries are as data -/
def DctE (K : PySem.W.Frag) (B : Hp) : List (NestedKey × Addr × Value) → List (NestedKey × PyData) → Prop := Paired fun x q => x.1 = q.1 ∧ (intK q.1 = true ∧ q.1.depth ≤ 8) ∧ Dq K B (.ref x.2.1) q.1.data ∧ ∃ v, RelV v x.2.2 ∧ Dq K B v q.2
structure DctV (K : PySem.W.Frag) (B : Hp) (a : Addr) (o : Obj) (xs : List (NestedKey × Addr × Value)) (kvs : List (NestedKey × PyData)) : Prop where
  ex : o.ExactDict
  dat : ∃ es ep, o.data = .dict es ep ∧ es.toList = xs.map entN
  rel : DctE K B xs kvs
  nd : (xs.map (·.1)).Nodup
  na : (a == sysModules) = false
/-- a slot: nothing known, plain data that never changes, a list or dict of this frame's own, the law's tape -/
inductive Sl where
  | no
  | im (d : PyData)
  | own (ds : List PyData)
  | dic (kvs : List (Key × PyData))
  /-- a dict of this frame's own whose keys are tuples of numbers, at any depth -/
  | dct (kvs : List (NestedKey × PyData))
  /-- one that is never changed -/
  | dcf (kvs : List (NestedKey × PyData))
  | tape
  /-- an instance of the class at C, of this frame's own (a, dx: where it stands); one that stood there at the entry and is kept -/
  | obj (a dx C : Addr) (fs : List (Str × PyData))
  | obk (a dx C : Addr) (fs : List (Str × PyData))
  /-- some object, where it stands -/
  | ptr (a : Addr)
/-- the tape (when there is one); the plain heap and the heap at the entry -/
structure Wd where
  T : Option Addr
  ns : Addr × List Int
  B0 : Hp
  H0 : Hp
def Tape (ns : Addr × List Int) (B H : Hp) (T : Addr) : Prop :=
  B T = none ∧ ∃ (i c : Int), H T = some (.lst [.ref ns.1, .int i, .int c]) ∧ 0 ≤ i ∧ 0 ≤ c ∧ B ns.1 = some (.lst (ns.2.map V.int))
/-- how the heap has grown since the entry -/
structure Gr (K : PySem.W.Frag) (W : Wd) (B H : Hp) : Prop where
  sub : Same B H
  base : Same W.B0 B
  new : ∀ a, W.H0 a ≠ none → W.B0 a = none → B a = none
  keep : ∀ a o, W.H0 a = some o → W.T ≠ some a → H a = some o
  tp : ∀ T, W.T = some T → W.H0 T ≠ none ∧ Tape W.ns B H T
def KvD (K : PySem.W.Frag) (B : Hp) : List (Key × V) → List (Key × PyData) → Prop := Paired fun p q => p.1 = q.1 ∧ Dq K B p.2 q.2
def FsD (K : PySem.W.Frag) (B : Hp) : List (Str × V) → List (Str × PyData) → Prop := Paired fun p q => p.1 = q.1 ∧ Dq K B p.2 q.2
/-- an object that is never changed: of the plain heap, or of the heap at the entry -/
def Kpt (W : Wd) (B : Hp) (a : Addr) (o : HO) : Prop := B a = some o ∨ (W.H0 a = some o ∧ W.T ≠ some a)
theorem Kpt.mono {W : Wd} {B B' : Hp} {a : Addr} {o : HO} (h : Kpt W B a o) (s : Same B B') : Kpt W B' a o := h.elim (fun h => .inl (s _ _ h)) .inr
def SlOk (K : PySem.W.Frag) (W : Wd) (B H : Hp) (x : Option (Option V)) : Sl → Prop
  | .no => True
  | .im d => ∃ v, x = some (some v) ∧ Dq K B v d
  | .own ds => ∃ a vs, x = some (some (.ref a)) ∧ B a = none ∧ W.H0 a = none ∧ H a = some (.lst vs) ∧ DqAll K B vs ds
  | .dic kvs => ∃ a ws, x = some (some (.ref a)) ∧ B a = none ∧ W.H0 a = none ∧ H a = some (.dK ws) ∧ KvD K B ws kvs
  | .dct kvs => ∃ a o xs, x = some (some (.ref a)) ∧ B a = none ∧ W.H0 a = none ∧ H a = some (dNO a o) ∧ DctV K B a o xs kvs
  | .dcf kvs => ∃ a o xs, x = some (some (.ref a)) ∧ B a = some (dNO a o) ∧ DctV K B a o xs kvs
  | .tape => ∃ T, W.T = some T ∧ x = some (some (.ref T))
  | .obj a dx C fs => ∃ fv, x = some (some (.ref a)) ∧ B a = none ∧ W.H0 a = none ∧ H a = some (.ins C dx fv) ∧ FsD K B fv fs
  | .obk a dx C fs => ∃ fv, x = some (some (.ref a)) ∧ Kpt W B a (.ins C dx fv) ∧ FsD K B fv fs
  | .ptr a => x = some (some (.ref a))
def Sl.ow : Sl → Bool
  | .own _ => true
  | .dic _ => true
  | .dct _ => true
  | .obj _ _ _ _ => true
  | _ => false
structure Lay (K : PySem.W.Frag) (W : Wd) (B H : Hp) (σ : L2.St) (ρ : List Sl) : Prop where
  gr : Gr K W B H
  len : σ.length = ρ.length
  at' : ∀ (i : Nat) (sl : Sl), ρ[i]? = some sl → SlOk K W B H σ[i]? sl
  dis : ∀ (i j : Nat) (s t : Sl), i ≠ j → ρ[i]? = some s → ρ[j]? = some t → s.ow = true → t.ow = true → σ[i]? ≠ σ[j]?

section
variable {K : PySem.W.Frag} {W : Wd} {B B' H H' : Hp} {σ : L2.St} {ρ : List Sl}
theorem SlOk.owner {x : Option (Option V)} {sl : Sl} (h : SlOk K W B H x sl) (e : sl.ow = true) : ∃ a o, x = some (some (.ref a)) ∧ B a = none ∧ W.H0 a = none ∧ H a = some o ∧ Mut (some o) := by
  cases sl with
  | own ds => obtain ⟨a, vs, h1, h2, h3, h4, _⟩ := h; exact ⟨a, _, h1, h2, h3, h4, trivial⟩
  | dic kvs => obtain ⟨a, vs, h1, h2, h3, h4, _⟩ := h; exact ⟨a, _, h1, h2, h3, h4, trivial⟩
  | dct kvs => obtain ⟨a, o, vs, h1, h2, h3, h4, _⟩ := h; exact ⟨a, _, h1, h2, h3, h4, trivial⟩
  | dcf kvs => cases e
  | no => cases e
  | im d => cases e
  | tape => cases e
  | obj a dx C fs => obtain ⟨fv, h1, h2, h3, h4, _⟩ := h; exact ⟨a, _, h1, h2, h3, h4, trivial⟩
  | obk a dx C fs => cases e
  | ptr a => cases e
theorem fsMono (s : Same B B') : ∀ {ws : List (Str × V)} {kvs : List (Str × PyData)}, FsD K B ws kvs → FsD K B' ws kvs := fun h => Paired.mapP h fun p q z => ⟨z.1, dpMono s _ _ z.2⟩
theorem kvMono (s : Same B B') : ∀ {ws : List (Key × V)} {kvs : List (Key × PyData)}, KvD K B ws kvs → KvD K B' ws kvs := fun h => Paired.mapP h fun p q z => ⟨z.1, dpMono s _ _ z.2⟩
theorem dctMono (s : Same B B') {a : Addr} {o : Obj} {xs : List (NestedKey × Addr × Value)} {kvs : List (NestedKey × PyData)} (h : DctV K B a o xs kvs) : DctV K B' a o xs kvs :=
  ⟨h.ex, h.dat, Paired.mapP h.rel fun p q z => ⟨z.1, z.2.1, dpMono s _ _ z.2.2.1, let ⟨v, r, d⟩ := z.2.2.2; ⟨v, r, dpMono s _ _ d⟩⟩, h.nd, h.na⟩
/-- the slots stay as the plain heap grows and the owners' objects are kept -/
theorem SlOk.grow {x : Option (Option V)} {sl : Sl} (h : SlOk K W B H x sl) (s : Same B B') (k : ∀ a o, x = some (some (.ref a)) → sl.ow = true → B a = none → W.H0 a = none → H a = some o → B' a = none ∧ H' a = some o) : SlOk K W B' H' x sl := by
  cases sl with
  | no => trivial
  | im d => obtain ⟨v, h1, h2⟩ := h; exact ⟨v, h1, dpMono s _ _ h2⟩
  | own ds =>
    obtain ⟨a, vs, h1, h2, h3, h4, h5⟩ := h
    obtain ⟨q1, q2⟩ := k a _ h1 rfl h2 h3 h4
    exact ⟨a, vs, h1, q1, h3, q2, dpAllMono s _ _ h5⟩
  | dic kvs =>
    obtain ⟨a, ws, h1, h2, h3, h4, h5⟩ := h
    obtain ⟨q1, q2⟩ := k a _ h1 rfl h2 h3 h4
    exact ⟨a, ws, h1, q1, h3, q2, kvMono s h5⟩
  | dct kvs =>
    obtain ⟨a, o, ws, h1, h2, h3, h4, h5⟩ := h
    obtain ⟨q1, q2⟩ := k a _ h1 rfl h2 h3 h4
    exact ⟨a, o, ws, h1, q1, h3, q2, dctMono s h5⟩
  | dcf kvs =>
    obtain ⟨a, o, ws, h1, h2, h5⟩ := h
    exact ⟨a, o, ws, h1, s _ _ h2, dctMono s h5⟩
  | tape => exact h
  | obj a dx C fs =>
    obtain ⟨fv, h1, h2, h3, h4, h5⟩ := h
    obtain ⟨q1, q2⟩ := k a _ h1 rfl h2 h3 h4
    exact ⟨fv, h1, q1, h3, q2, fsMono s h5⟩
  | obk a dx C fs =>
    obtain ⟨fv, h1, h2, h5⟩ := h
    exact ⟨fv, h1, h2.mono s, fsMono s h5⟩
  | ptr a => exact h
theorem Tape.mono (s : Same B B') {T : Addr} {ns : Addr × List Int} (t : Tape ns B H T) (h1 : B' T = none) (h2 : ∀ o, H T = some o → H' T = some o) : Tape ns B' H' T := by
  obtain ⟨_, i, c, e, i0, c0, q⟩ := t
  exact ⟨h1, i, c, h2 _ e, i0, c0, s _ _ q⟩
theorem Gr.refl {T : Option Addr} {ns : Addr × List Int} (s : Same B H) (t : ∀ a, T = some a → Tape ns B H a) : Gr K ⟨T, ns, B, H⟩ B H :=
  ⟨s, fun _ _ h => h, fun _ _ h => h, fun _ _ h _ => h, fun a h => ⟨fun z => (by
    obtain ⟨_, i, c, e, _⟩ := t a h
    have z' : H a = none := z
    rw [e] at z'
    exact absurd z' (by simp)), t a h⟩⟩
/-- a fresh object, plain from now on -/
theorem Lay.fresh (L : Lay K W B H σ ρ) {p : Addr} (hp : H p = none) (o : HO) : Same B (upd B p o) ∧ Lay K W (upd B p o) (upd H p o) σ ρ := by
  have bp : B p = none := Same.free L.gr.sub hp
  have s : Same B (upd B p o) := same_new bp
  have np : ∀ a u, H a = some u → a ≠ p := fun a u e => ne_of_none e hp
  refine ⟨s, ⟨⟨same_upd2 L.gr.sub, L.gr.base.trans s, fun a h1 h2 => ?_, fun a u h1 h2 => ?_, fun T h => ?_⟩, L.len, fun i sl e => (L.at' i sl e).grow s fun a u _ _ h2 _ h4 => ?_, L.dis⟩⟩
  · have ha : a ≠ p := by
      rintro rfl
      by_cases ht : W.T = some a
      · obtain ⟨_, t⟩ := L.gr.tp a ht
        obtain ⟨_, i, c, e, _⟩ := t
        rw [e] at hp
        cases hp
      · cases q : W.H0 a with
        | none => exact h1 q
        | some u =>
          have := L.gr.keep a u q ht
          rw [hp] at this
          cases this
    rw [upd_ne ha]
    exact L.gr.new a h1 h2
  · have := L.gr.keep a u h1 h2
    rw [upd_ne (np a u this)]
    exact this
  · obtain ⟨h1, t⟩ := L.gr.tp T h
    obtain ⟨t1, i, c, e, r⟩ := id t
    exact ⟨h1, t.mono s (by rw [upd_ne (np T _ e)]; exact t1) fun u hu => by rw [upd_ne (np T _ e)]; exact hu⟩
  · rw [upd_ne (np a u h4), upd_ne (np a u h4)]
    exact ⟨h2, h4⟩
/-- behind a call that touched nothing but (maybe) the tape -/
theorem Lay.called (L : Lay K W B H σ ρ) {T : Option Addr} {ns : Addr × List Int} (hT : T = none ∨ T = W.T ∧ ns = W.ns) (g : Gr K ⟨T, ns, B, H⟩ B' H') : Same B B' ∧ Lay K W B' H' σ ρ := by
  have ex : ∀ a, W.H0 a ≠ none → H a ≠ none := fun a h1 => by
    by_cases ht : W.T = some a
    · obtain ⟨_, t⟩ := L.gr.tp a ht
      obtain ⟨_, i, c, e, _⟩ := t
      rw [e]
      exact fun z => by cases z
    · cases q : W.H0 a with
      | none => exact (h1 q).elim
      | some u =>
        rw [L.gr.keep a u q ht]
        exact fun z => by cases z
  refine ⟨g.base, ⟨⟨g.sub, L.gr.base.trans g.base, fun a h1 h2 => g.new a (ex a h1) (L.gr.new a h1 h2), fun a u h1 h2 => g.keep a u (L.gr.keep a u h1 h2) ?_, fun t h => ?_⟩, L.len, fun i sl e => (L.at' i sl e).grow g.base fun a u _ _ h2 h3 h4 => ?_, L.dis⟩⟩
  · rcases hT with z | ⟨z, _⟩
    · show T ≠ some a
      rw [z]
      exact fun q => by cases q
    · show T ≠ some a
      rw [z]
      exact h2
  · obtain ⟨h1, tp⟩ := L.gr.tp t h
    obtain ⟨t1, i, c, e, r⟩ := id tp
    rcases hT with z | ⟨z, zn⟩
    · exact ⟨h1, tp.mono g.base (g.new t (by show H t ≠ none; rw [e]; exact fun q => by cases q) t1) fun u hu => g.keep t u hu (by show T ≠ some t; rw [z]; exact fun q => by cases q)⟩
    · have q := (g.tp t (by show T = some t; rw [z]; exact h)).2
      rw [← zn]
      exact ⟨h1, q⟩
  · refine ⟨g.new a (by show H a ≠ none; rw [h4]; exact fun q => by cases q) h2, g.keep a u h4 ?_⟩
    show T ≠ some a
    rcases hT with z | ⟨z, _⟩
    · rw [z]
      exact fun q => by cases q
    · rw [z]
      intro q
      exact (L.gr.tp a q).1 h3
/-- a name is stored -/
theorem Lay.put (L : Lay K W B H σ ρ) {i : Nat} {v : V} {d : PyData} (hd : Dq K B v d) : Lay K W B H (σ.set i (some v)) (ρ.set i (.im d)) := by
  refine ⟨L.gr, by simp [L.len], fun j sl e => ?_, fun j k s t hne e1 e2 o1 o2 => ?_⟩
  · by_cases hj : i = j
    · subst hj
      have hl : i < ρ.length := by
        have := (List.getElem?_eq_some_iff.mp e).1
        simpa using this
      rw [List.getElem?_set_self hl] at e
      cases e
      rw [List.getElem?_set_self (by rw [L.len]; exact hl)]
      exact ⟨v, rfl, hd⟩
    · rw [List.getElem?_set_ne hj] at e ⊢
      exact L.at' j sl e
  · have n1 : i ≠ j := by
      rintro rfl
      have hl : i < ρ.length := by
        have := (List.getElem?_eq_some_iff.mp e1).1
        simpa using this
      rw [List.getElem?_set_self hl] at e1
      cases e1
      cases o1
    have n2 : i ≠ k := by
      rintro rfl
      have hl : i < ρ.length := by
        have := (List.getElem?_eq_some_iff.mp e2).1
        simpa using this
      rw [List.getElem?_set_self hl] at e2
      cases e2
      cases o2
    rw [List.getElem?_set_ne n1] at e1 ⊢
    rw [List.getElem?_set_ne n2] at e2 ⊢
    exact L.dis j k s t hne e1 e2 o1 o2
/-- a slot forgotten -/
theorem Lay.wipe1 (L : Lay K W B H σ ρ) (i : Nat) : Lay K W B H (σ.set i none) (ρ.set i .no) := by
  refine ⟨L.gr, by simp [L.len], fun j sl e => ?_, fun j k s t hne e1 e2 o1 o2 => ?_⟩
  · by_cases hj : i = j
    · subst hj
      have hl : i < ρ.length := by
        have := (List.getElem?_eq_some_iff.mp e).1
        simpa using this
      rw [List.getElem?_set_self hl] at e
      cases e
      trivial
    · rw [List.getElem?_set_ne hj] at e ⊢
      exact L.at' j sl e
  · have n1 : i ≠ j := by
      rintro rfl
      have hl : i < ρ.length := by
        have := (List.getElem?_eq_some_iff.mp e1).1
        simpa using this
      rw [List.getElem?_set_self hl] at e1
      cases e1
      cases o1
    have n2 : i ≠ k := by
      rintro rfl
      have hl : i < ρ.length := by
        have := (List.getElem?_eq_some_iff.mp e2).1
        simpa using this
      rw [List.getElem?_set_self hl] at e2
      cases e2
      cases o2
    rw [List.getElem?_set_ne n1] at e1 ⊢
    rw [List.getElem?_set_ne n2] at e2 ⊢
    exact L.dis j k s t hne e1 e2 o1 o2
end

/-! ### the judgements -/
section
variable (X : Cx)
def tW (e : Expr) : TE := fun σ H Q => ∀ (pins : List (Addr × Obj)) (s : Shared), Inv X pins σ H s → wpAny (model X.prog X.w) X.A (eval e X.env) (EP X pins σ Q) X.xe s
def tWt (e : Expr) : TT := fun σ H Q => ∀ (pins : List (Addr × Obj)) (s : Shared), Inv X pins σ H s → wpAny (model X.prog X.w) X.A (isTrue e X.env (eval e X.env)) (TP X pins σ Q) X.xe s
def tWw (e : Expr) : TT := fun σ H Q => ∀ (whole : Sem Value) (pins : List (Addr × Obj)) (s : Shared), Inv X pins σ H s → wpAny (model X.prog X.w) X.A (isTrue e X.env whole) (TP X pins σ Q) X.xe s
def tWa (es : List Expr) : TA := fun σ H Q => ∀ (pos : Pos) (pins : List (Addr × Obj)) (s : Shared), Inv X pins σ H s → wpAny (model X.prog X.w) X.A (spliced (backTo pos (starEach es X.env))) (AP X pins σ Q) X.xe s
def tWs (st : Stmt) : TS := fun D σ H => ∀ (pins : List (Addr × Obj)) (s : Shared), Inv X pins σ H s → wpAny (model X.prog X.w) X.A (exec st X.env) (SP X pins D) X.xe s
def tWss (st : List Stmt) : TS := fun D σ H => ∀ (pins : List (Addr × Obj)) (s : Shared), Inv X pins σ H s → wpAny (model X.prog X.w) X.A (execs st X.env) (SP X pins D) X.xe s
end
section
variable {X : Cx}
theorem pe_w {e : Expr} : PE X e (tW X e) := ⟨fun pins s _ _ _ I h => h pins s I⟩
theorem pt_w {e : Expr} : PT X e (tWt X e) := ⟨fun pins s _ _ _ I h => h pins s I⟩
theorem pw_w {e : Expr} : PW X e (tWw X e) := ⟨fun w pins s _ _ _ I h => h w pins s I⟩
theorem pa_w {es : List Expr} : PA X es (tWa X es) := ⟨fun pos pins s _ _ _ I h => h pos pins s I⟩
theorem ps_w {st : Stmt} : PS X st (tWs X st) := ⟨fun pins s _ _ _ I h => h pins s I⟩
theorem pss_w {st : List Stmt} : PSs X st (tWss X st) := ⟨fun pins s _ _ _ I h => h pins s I⟩
theorem _root_.L2.PE.toZ {e : Expr} {t : TE} (h : PE X e t) {σ H Q} (q : t σ H Q) : tW X e σ H Q := fun pins s I => h.run pins s σ H Q I q
theorem _root_.L2.PT.toZ {e : Expr} {t : TT} (h : PT X e t) {σ H Q} (q : t σ H Q) : tWt X e σ H Q := fun pins s I => h.run pins s σ H Q I q
theorem _root_.L2.PW.toZ {e : Expr} {t : TT} (h : PW X e t) {σ H Q} (q : t σ H Q) : tWw X e σ H Q := fun w pins s I => h.run w pins s σ H Q I q
theorem _root_.L2.PA.toZ {es : List Expr} {t : TA} (h : PA X es t) {σ H Q} (q : t σ H Q) : tWa X es σ H Q := fun pos pins s I => h.run pos pins s σ H Q I q
theorem _root_.L2.PS.toZ {st : Stmt} {t : TS} (h : PS X st t) {D σ H} (q : t D σ H) : tWs X st D σ H := fun pins s I => h.run pins s σ H D I q
theorem _root_.L2.PSs.toZ {st : List Stmt} {t : TS} (h : PSs X st t) {D σ H} (q : t D σ H) : tWss X st D σ H := fun pins s I => h.run pins s σ H D I q
end

/-- an expression: from the frame ρ it gives some data d of which R holds, nothing else has changed -/
structure Ev (X : Cx) (W : Wd) (e : Expr) (ρ : List Sl) (R : PyData → Prop) : Prop where
  run : ∀ (σ : L2.St) (H B : Hp) (Q : VK), Lay X.K W B H σ ρ → (∀ v H' B' d, Same B B' → Lay X.K W B' H' σ ρ → Dq X.K B' v d → R d → Q v H') → tW X e σ H Q
/-- .. that gives a fresh list, of this frame's own -/
structure El (X : Cx) (W : Wd) (e : Expr) (ρ : List Sl) (R : List PyData → Prop) : Prop where
  run : ∀ (σ : L2.St) (H B : Hp) (Q : VK), Lay X.K W B H σ ρ →
    (∀ a vs H' B' ds, Same B B' → Lay X.K W B' H' σ ρ → B' a = none → W.H0 a = none → (∀ (i : Nat) (sl : Sl), ρ[i]? = some sl → sl.ow = true → σ[i]? ≠ some (some (.ref a))) → H' a = some (.lst vs) → DqAll X.K B' vs ds → R ds → Q (.ref a) H') → tW X e σ H Q
/-- a test -/
structure Et (X : Cx) (W : Wd) (e : Expr) (ρ : List Sl) (R : Bool → Prop) : Prop where
  run : ∀ (σ : L2.St) (H B : Hp) (Q : Bool → Hp → Prop), Lay X.K W B H σ ρ → (∀ b H' B', Same B B' → Lay X.K W B' H' σ ρ → R b → Q b H') → tWt X e σ H Q
structure Ew (X : Cx) (W : Wd) (e : Expr) (ρ : List Sl) (R : Bool → Prop) : Prop where
  run : ∀ (σ : L2.St) (H B : Hp) (Q : Bool → Hp → Prop), Lay X.K W B H σ ρ → (∀ b H' B', Same B B' → Lay X.K W B' H' σ ρ → R b → Q b H') → tWw X e σ H Q
/-- arguments -/
structure Ea (X : Cx) (W : Wd) (es : List Expr) (ρ : List Sl) (R : List PyData → Prop) : Prop where
  run : ∀ (σ : L2.St) (H B : Hp) (Q : List V → Hp → Prop), Lay X.K W B H σ ρ → (∀ vs H' B' ds, Same B B' → Lay X.K W B' H' σ ρ → DqAll X.K B' vs ds → R ds → Q vs H') → tWa X es σ H Q
/-- what is wanted behind a statement -/
structure Dz where
  nx : List Sl → Prop
  rt : PyData → Prop
  bk : List Sl → Prop := fun _ => False
  ct : List Sl → Prop := fun _ => False
def De (K : PySem.W.Frag) (W : Wd) (B0 : Hp) (D : Dz) : Ends where
  nx := fun σ H => ∃ B ρ, Same B0 B ∧ Lay K W B H σ ρ ∧ D.nx ρ
  rt := fun v H => ∃ B d, Gr K W B H ∧ Dq K B v d ∧ D.rt d
  bk := fun σ H => ∃ B ρ, Same B0 B ∧ Lay K W B H σ ρ ∧ D.bk ρ
  ct := fun σ H => ∃ B ρ, Same B0 B ∧ Lay K W B H σ ρ ∧ D.ct ρ
structure Es (X : Cx) (W : Wd) (st : Stmt) (ρ : List Sl) (D : Dz) : Prop where
  run : ∀ (σ : L2.St) (H B : Hp), Lay X.K W B H σ ρ → tWs X st (De X.K W B D) σ H
structure Ess (X : Cx) (W : Wd) (st : List Stmt) (ρ : List Sl) (D : Dz) : Prop where
  run : ∀ (σ : L2.St) (H B : Hp), Lay X.K W B H σ ρ → tWss X st (De X.K W B D) σ H
section
variable {X : Cx} {W : Wd} {B B' H : Hp} {σ : L2.St} {D : Dz}
theorem SP.back (s : Same B B') {pins : List (Addr × Obj)} {f : Flow} {s' : Shared} (h : SP X pins (De X.K W B' D) f s') : SP X pins (De X.K W B D) f s' := by
  cases f with
  | next => obtain ⟨σ', H', I', B2, ρ', s2, q⟩ := h; exact ⟨σ', H', I', B2, ρ', s.trans s2, q⟩
  | brk => obtain ⟨σ', H', I', B2, ρ', s2, q⟩ := h; exact ⟨σ', H', I', B2, ρ', s.trans s2, q⟩
  | cont => obtain ⟨σ', H', I', B2, ρ', s2, q⟩ := h; exact ⟨σ', H', I', B2, ρ', s.trans s2, q⟩
  | ret u => exact h
theorem tWs.back (s : Same B B') {st : Stmt} (h : tWs X st (De X.K W B' D) σ H) : tWs X st (De X.K W B D) σ H := fun pins s0 I => thn (h pins s0 I) fun _ _ q => SP.back s q
theorem tWss.back (s : Same B B') {st : List Stmt} (h : tWss X st (De X.K W B' D) σ H) : tWss X st (De X.K W B D) σ H := fun pins s0 I => thn (h pins s0 I) fun _ _ q => SP.back s q
end
end Z

namespace Z
open PySem PySem.Spec PyProof.Rows L2
section
variable {X : Cx} {W : Wd} {ρ : List Sl} {R : PyData → Prop} {pos : Pos} {a b c e : Expr} {es : List Expr}

/-! ### what is read as a test or value -/
theorem Ev.imp {R' : PyData → Prop} (h : Ev X W e ρ R) (k : ∀ d, R d → R' d) : Ev X W e ρ R' := ⟨fun σ H B Q L q => h.run σ H B Q L fun v H' B' d s L' D r => q v H' B' d s L' D (k d r)⟩
theorem Et.imp {R R' : Bool → Prop} (h : Et X W e ρ R) (k : ∀ d, R d → R' d) : Et X W e ρ R' := ⟨fun σ H B Q L q => h.run σ H B Q L fun v H' B' s L' r => q v H' B' s L' (k v r)⟩
theorem Ess.imp {st : List Stmt} {D D' : Dz} (h : Ess X W st ρ D) (h1 : ∀ r, D.nx r → D'.nx r) (h2 : ∀ d, D.rt d → D'.rt d) (h3 : ∀ r, D.bk r → D'.bk r) (h4 : ∀ r, D.ct r → D'.ct r) : Ess X W st ρ D' := by
  refine ⟨fun σ H B L pins s I => ?_⟩
  refine thn (h.run σ H B L pins s I) fun f s' q => ?_
  cases f with
  | next => obtain ⟨σ', H', I', B', ρ', s0, L', q⟩ := q; exact ⟨σ', H', I', B', ρ', s0, L', h1 _ q⟩
  | brk => obtain ⟨σ', H', I', B', ρ', s0, L', q⟩ := q; exact ⟨σ', H', I', B', ρ', s0, L', h3 _ q⟩
  | cont => obtain ⟨σ', H', I', B', ρ', s0, L', q⟩ := q; exact ⟨σ', H', I', B', ρ', s0, L', h4 _ q⟩
  | ret u => obtain ⟨v, σ', H', I', r, B', d, g, D1, q⟩ := q; exact ⟨v, σ', H', I', r, B', d, g, D1, h2 _ q⟩

/-! ### names and constants -/
theorem ev_name (i : Nat) {x : Str} {d : PyData} (hρ : ρ[i]? = some (.im d)) (h : R d) (hN : X.N[i]? = some x := by rfl) (hv : Vis X.env.scope x := by first | exact Or.inl rfl | exact Or.inr (Or.inl rfl) | exact Or.inr (Or.inr rfl))
    (hd : (x == ("__debug__" : Str)) = false := by decide) (hcd : (x == ("__classdict__" : Str)) = false := by decide) : Ev X W (.Name x pos) ρ R := by
  refine ⟨fun σ H B Q L k => (pe_var hN hv hd hcd).toZ ?_⟩
  obtain ⟨v, h1, h2⟩ := L.at' i _ hρ
  exact ⟨v, h1, k v H B d (Same.refl _) L h2 h⟩
theorem ev_int {i j} (h : R (.int i)) : Ev X W (.Constant (.int i) j pos) ρ R := ⟨fun _ H B _ L k => pe_int.toZ (k _ H B _ (Same.refl _) L (.int i) h)⟩
theorem ev_bool {i j} (h : R (.bool i)) : Ev X W (.Constant (.bool i) j pos) ρ R := ⟨fun _ H B _ L k => pe_bl.toZ (k _ H B _ (Same.refl _) L (.bl i) h)⟩
theorem ev_none {j} (h : R .none) : Ev X W (.Constant .none j pos) ρ R := ⟨fun _ H B _ L k => pe_non.toZ (k _ H B _ (Same.refl _) L .non h)⟩
theorem ev_str {x j} (h : R (.str x)) : Ev X W (.Constant (.str x) j pos) ρ R := ⟨fun _ H B _ L k => pe_str.toZ (k _ H B _ (Same.refl _) L (.str x) h)⟩
/-- a constant of a module -/
theorem ev_glob {x : Str} {i : Int} (hm : ∃ t, X.mg x = some (.int i t)) (h : R (.int i)) (hg : Gl X x := by rfl) (hd : (x == ("__debug__" : Str)) = false := by decide) : Ev X W (.Name x pos) ρ R := by
  obtain ⟨t, hm⟩ := hm
  exact ⟨fun _ H B _ L k => (pe_glob hg hm (v := .int i) ⟨t, rfl⟩ hd).toZ (k _ H B _ (Same.refl _) L (.int i) h)⟩

/-! ### operators -/
/-- an operator on data: what it asks -/
def OpZ (X : Cx) (f : Value → Value → Sem Value) (rr : PyData → PyData → (PyData → Prop) → Prop) : Prop :=
  ∃ r : R2, OpR X f r ∧ ∀ (W : Wd) (σ : L2.St) (ρ : List Sl) (H B : Hp) (v u : V) (d e : PyData) (R : PyData → Prop) (Q : VK), Lay X.K W B H σ ρ → Dq X.K B v d → Dq X.K B u e → rr d e R →
    (∀ w H' B' d', Same B B' → Lay X.K W B' H' σ ρ → Dq X.K B' w d' → R d' → Q w H') → r v u H Q
theorem ev_bin {op : Operator} {rr : PyData → PyData → (PyData → Prop) → Prop} (ho : OpZ X (binaryOp op) rr) (h : Ev X W a ρ fun x => Ev X W b ρ fun y => rr x y R) : Ev X W (.BinOp a op b pos) ρ R := by
  obtain ⟨r, ho, hr⟩ := ho
  refine ⟨fun σ H B Q L k => (pe_op ho pe_w pe_w).toZ ?_⟩
  refine h.run σ H B _ L fun v H1 B1 d s1 L1 D1 h2 => ?_
  refine h2.run σ H1 B1 _ L1 fun u H2 B2 d' s2 L2 D2 h3 => ?_
  exact hr W σ ρ H2 B2 v u d d' R Q L2 (dpMono s2 _ _ D1) D2 h3 fun w H' B' x s L' D' r => k w H' B' x ((s1.trans s2).trans s) L' D' r
theorem ev_cmp {op : CmpOp} {rr : PyData → PyData → (PyData → Prop) → Prop} (ho : OpZ X (compareOp op) rr) (h : Ev X W a ρ fun x => Ev X W b ρ fun y => rr x y R) (hm : behindInMarks op b = false := by first | exact nomark _ | rfl) : Ev X W (.Compare a [op] [b] pos) ρ R := by
  obtain ⟨r, ho, hr⟩ := ho
  refine ⟨fun σ H B Q L k => (pe_cmpR ho pe_w pe_w hm).toZ ?_⟩
  refine h.run σ H B _ L fun v H1 B1 d s1 L1 D1 h2 => ?_
  refine h2.run σ H1 B1 _ L1 fun u H2 B2 d' s2 L2 D2 h3 => ?_
  exact hr W σ ρ H2 B2 v u d d' R Q L2 (dpMono s2 _ _ D1) D2 h3 fun w H' B' x s L' D' r => k w H' B' x ((s1.trans s2).trans s) L' D' r
/-- a bool's test -/
@[reducible] def tst (R : Bool → Prop) : PyData → Prop
  | .bool b => R b
  | _ => False
theorem et_cmp {op : CmpOp} {R : Bool → Prop} {rr : PyData → PyData → (PyData → Prop) → Prop} (ho : OpZ X (compareOp op) rr) (h : Ev X W a ρ fun x => Ev X W b ρ fun y => rr x y (tst R)) (hm : behindInMarks op b = false := by first | exact nomark _ | rfl) : Et X W (.Compare a [op] [b] pos) ρ R := by
  obtain ⟨r, ho, hr⟩ := ho
  refine ⟨fun σ H B Q L k => (pt_cmpR ho pe_w pe_w hm).toZ ?_⟩
  refine h.run σ H B _ L fun v H1 B1 d s1 L1 D1 h2 => ?_
  refine h2.run σ H1 B1 _ L1 fun u H2 B2 d' s2 L2 D2 h3 => ?_
  refine hr W σ ρ H2 B2 v u d d' _ _ L2 (dpMono s2 _ _ D1) D2 h3 fun w H' B' x s L' D' r => ?_
  cases x with
  | bool b => exact ⟨b, dp_bool D', k b H' B' ((s1.trans s2).trans s) L' r⟩
  | none => exact r.elim
  | int _ => exact r.elim
  | str _ => exact r.elim
  | list _ => exact r.elim
  | tuple _ => exact r.elim
  | dict _ => exact r.elim
/-- an expression whose value is a bool, as a test -/
theorem et_val {R : Bool → Prop} (h : Ev X W e ρ (tst R)) (he : ∀ whole, isTrue e X.env whole = (do let v ← whole; standAt e.pos; holding [v] (truthy v)) := by intro _; rfl) : Et X W e ρ R := by
  refine ⟨fun σ H B Q L k => (pt_val pe_w he).toZ ?_⟩
  refine h.run σ H B _ L fun v H1 B1 d s1 L1 D1 h2 => ?_
  cases d with
  | bool b => exact ⟨b, dp_bool D1, k b H1 B1 s1 L1 h2⟩
  | none => exact h2.elim
  | int _ => exact h2.elim
  | str _ => exact h2.elim
  | list _ => exact h2.elim
  | tuple _ => exact h2.elim
  | dict _ => exact h2.elim
/-! ints -/
@[reducible] def rI2 (C : Int → Int → Prop) (g : Int → Int → PyData) : PyData → PyData → (PyData → Prop) → Prop
  | .int i, .int j, R => C i j ∧ R (g i j)
  | _, _, _ => False
@[reducible] def rI1 (g : Int → Int → PyData) : PyData → PyData → (PyData → Prop) → Prop
  | .int i, .int j, R => R (g i j)
  | _, _, _ => False
theorem ozI {f : Value → Value → Sem Value} {C : Int → Int → Prop} {g : Int → Int → Int} (h : OpR X f (rI C fun i j => .int (g i j))) : OpZ X f (rI2 C fun i j => .int (g i j)) := by
  refine ⟨_, h, fun W σ ρ H B v u d e R Q L D1 D2 r k => ?_⟩
  cases d <;> cases e <;> first | exact r.elim | skip
  rename_i i j
  exact ⟨i, j, dp_int D1, dp_int D2, r.1, k _ H B _ (Same.refl _) L (.int _) r.2⟩
theorem ozI0 {f : Value → Value → Sem Value} {g : Int → Int → Int} (h : OpR X f (rI0 fun i j => .int (g i j))) : OpZ X f (rI1 fun i j => .int (g i j)) := by
  refine ⟨_, h, fun W σ ρ H B v u d e R Q L D1 D2 r k => ?_⟩
  cases d <;> cases e <;> first | exact r.elim | skip
  rename_i i j
  exact ⟨i, j, dp_int D1, dp_int D2, k _ H B _ (Same.refl _) L (.int _) r⟩
theorem ozB0 {f : Value → Value → Sem Value} {g : Int → Int → Bool} (h : OpR X f (rI0 fun i j => .bl (g i j))) : OpZ X f (rI1 fun i j => .bool (g i j)) := by
  refine ⟨_, h, fun W σ ρ H B v u d e R Q L D1 D2 r k => ?_⟩
  cases d <;> cases e <;> first | exact r.elim | skip
  rename_i i j
  exact ⟨i, j, dp_int D1, dp_int D2, k _ H B _ (Same.refl _) L (.bl _) r⟩
theorem oz_sub : OpZ X (binaryOp .Sub) (rI1 fun i j => .int (i - j)) := ozI0 op_sub
theorem oz_mul : OpZ X (binaryOp .Mult) (rI2 CMul fun i j => .int (i * j)) := ozI op_mul
theorem oz_mulW : OpZ X (binaryOp .Mult) (rI2 CMulW fun i j => .int (i * j)) := ozI op_mulW
theorem oz_div : OpZ X (binaryOp .FloorDiv) (rI2 CDivW fun i j => .int (i / j)) := ozI op_fdivW
theorem oz_mod : OpZ X (binaryOp .Mod) (rI2 (fun _ j => 0 < j) fun i j => .int (i % j)) := ozI op_mod
theorem oz_pow : OpZ X (binaryOp .Pow) (rI2 CPow fun i j => .int (i ^ j.toNat)) := ozI op_pow
theorem oz_lt : OpZ X (compareOp .Lt) (rI1 fun i j => .bool (decide (i < j))) := ozB0 op_lt
theorem oz_le : OpZ X (compareOp .LtE) (rI1 fun i j => .bool (decide (i ≤ j))) := ozB0 op_le
theorem oz_gt : OpZ X (compareOp .Gt) (rI1 fun i j => .bool (decide (j < i))) := ozB0 op_gt
theorem oz_ge : OpZ X (compareOp .GtE) (rI1 fun i j => .bool (decide (j ≤ i))) := ozB0 op_ge
theorem oz_iadd : OpZ X (inplaceOp .Add) (rI1 fun i j => .int (i + j)) := ozI0 iop_add
/-- + of ints, tuples, lists, texts -/
@[reducible] def rAdd : PyData → PyData → (PyData → Prop) → Prop
  | .int i, .int j, R => R (.int (i + j))
  | .tuple xs, .tuple ys, R => xs.length + ys.length ≤ sizeLine ∧ R (.tuple (xs ++ ys))
  | .list xs, .list ys, R => xs.length + ys.length ≤ sizeLine ∧ R (.list (xs ++ ys))
  | .str x, .str y, R => x.length + y.length ≤ sizeLine ∧ R (.str (x ++ y))
  | _, _, _ => False
theorem oz_add : OpZ X (binaryOp .Add) rAdd := by
  refine ⟨_, OpR.or op_add (OpR.or op_catA (OpR.or op_cat op_add_str)), fun W σ ρ H B v u d e R Q L D1 D2 r k => ?_⟩
  cases d <;> cases e <;> first | exact r.elim | skip
  · rename_i i j
    exact .inl ⟨i, j, dp_int D1, dp_int D2, k _ H B _ (Same.refl _) L (.int _) r⟩
  · rename_i x y
    exact .inr (.inr (.inr ⟨x, y, dp_str D1, dp_str D2, r.1, k _ H B _ (Same.refl _) L (.str _) r.2⟩))
  · rename_i xs ys
    obtain ⟨p, vs, rfl, h1, h2⟩ := dp_list D1
    obtain ⟨q, us, rfl, h3, h4⟩ := dp_list D2
    refine .inr (.inr (.inl ⟨p, q, vs, us, rfl, rfl, L.gr.sub _ _ h1, L.gr.sub _ _ h3, by rw [dpAll_len h2, dpAll_len h4]; exact r.1, fun t ht => ?_⟩))
    obtain ⟨s, L'⟩ := L.fresh ht (.lst (vs ++ us))
    exact k _ _ _ _ s L' (.lst upd_same (dpAll_app (dpAllMono s _ _ h2) (dpAllMono s _ _ h4))) r.2
  · rename_i xs ys
    obtain ⟨p, vs, rfl, h1, h2⟩ := dp_tup D1
    obtain ⟨q, us, rfl, h3, h4⟩ := dp_tup D2
    refine .inr (.inl ⟨p, q, vs, us, rfl, rfl, seqT L.gr.sub h1, seqT L.gr.sub h3, by rw [dpAll_len h2, dpAll_len h4]; exact r.1, fun z => ?_, fun _ z => ?_, fun _ _ t ht => ?_⟩)
    · subst z
      cases h2
      exact k _ H B _ (Same.refl _) L D2 r.2
    · subst z
      cases h4
      have r2 := r.2
      rw [List.append_nil] at r2
      exact k _ H B _ (Same.refl _) L D1 r2
    · obtain ⟨s, L'⟩ := L.fresh ht (.tup (vs ++ us))
      exact k _ _ _ _ s L' (.tup (SqT.of upd_same) (dpAll_app (dpAllMono s _ _ h2) (dpAllMono s _ _ h4))) r.2
/-- == and != of any data -/
@[reducible] def rEqZ : PyData → PyData → (PyData → Prop) → Prop := fun d e R => SeqAt.shaped d = true ∧ SeqAt.shaped e = true ∧ R (.bool (PyData.eqv d e))
@[reducible] def rNeZ : PyData → PyData → (PyData → Prop) → Prop := fun d e R => SeqAt.shaped d = true ∧ SeqAt.shaped e = true ∧ R (.bool (!PyData.eqv d e))
theorem oz_eqD (hu : X.A.units + 64 < cLine) : OpZ X (compareOp .Eq) rEqZ := by
  refine ⟨_, op_eqD hu, fun W σ ρ H B v u d e R Q L D1 D2 r k => ?_⟩
  exact ⟨d, e, dqDp _ _ (dpMono L.gr.sub _ _ D1), dqDp _ _ (dpMono L.gr.sub _ _ D2), r.1, r.2.1, k _ H B _ (Same.refl _) L (.bl _) r.2.2⟩
theorem oz_neD (hu : X.A.units + 64 < cLine) : OpZ X (compareOp .NotEq) rNeZ := by
  refine ⟨_, op_neD hu, fun W σ ρ H B v u d e R Q L D1 D2 r k => ?_⟩
  exact ⟨d, e, dqDp _ _ (dpMono L.gr.sub _ _ D1), dqDp _ _ (dpMono L.gr.sub _ _ D2), r.1, r.2.1, k _ H B _ (Same.refl _) L (.bl _) r.2.2⟩
/-- == and != of ints -/
theorem oz_eq : OpZ X (compareOp .Eq) (rI1 fun i j => .bool (decide (i = j))) := by
  refine ⟨_, op_eq, fun W σ ρ H B v u d e R Q L D1 D2 r k => ?_⟩
  cases d <;> cases e <;> first | exact r.elim | skip
  rename_i i j
  cases dp_int D1
  cases dp_int D2
  refine ⟨rfl, ?_⟩
  have e1 : decide (V.int i = V.int j) = decide (i = j) := by
    by_cases h : i = j
    · subst h; simp
    · rw [decide_eq_false h, decide_eq_false fun q => h (V.int.inj q)]
  rw [e1]
  exact k _ H B _ (Same.refl _) L (.bl _) r
theorem oz_ne : OpZ X (compareOp .NotEq) (rI1 fun i j => .bool (!decide (i = j))) := by
  refine ⟨_, op_ne, fun W σ ρ H B v u d e R Q L D1 D2 r k => ?_⟩
  cases d <;> cases e <;> first | exact r.elim | skip
  rename_i i j
  cases dp_int D1
  cases dp_int D2
  refine ⟨rfl, ?_⟩
  have e1 : decide (V.int i = V.int j) = decide (i = j) := by
    by_cases h : i = j
    · subst h; simp
    · rw [decide_eq_false h, decide_eq_false fun q => h (V.int.inj q)]
  rw [e1]
  exact k _ H B _ (Same.refl _) L (.bl _) r
/-- in, not in a list -/
@[reducible] def rInZ : PyData → PyData → (PyData → Prop) → Prop
  | d, .list ds, R => SeqAt.shaped d = true ∧ SeqAt.shaped (.list ds) = true ∧ R (.bool (ds.any fun z => PyData.eqv z d))
  | _, _, _ => False
@[reducible] def rNotInZ : PyData → PyData → (PyData → Prop) → Prop
  | d, .list ds, R => SeqAt.shaped d = true ∧ SeqAt.shaped (.list ds) = true ∧ R (.bool (!ds.any fun z => PyData.eqv z d))
  | _, _, _ => False
theorem oz_in (hu : X.A.units + 65 < cLine) : OpZ X (compareOp .In) rInZ := by
  refine ⟨_, op_inD hu, fun W σ ρ H B v u d e R Q L D1 D2 r k => ?_⟩
  cases e <;> first | exact r.elim | skip
  exact ⟨d, _, dqDp _ _ (dpMono L.gr.sub _ _ D1), dqDp _ _ (dpMono L.gr.sub _ _ D2), r.1, r.2.1, k _ H B _ (Same.refl _) L (.bl _) r.2.2⟩
theorem oz_notIn (hu : X.A.units + 65 < cLine) : OpZ X (compareOp .NotIn) rNotInZ := by
  refine ⟨_, op_notInD hu, fun W σ ρ H B v u d e R Q L D1 D2 r k => ?_⟩
  cases e <;> first | exact r.elim | skip
  exact ⟨d, _, dqDp _ _ (dpMono L.gr.sub _ _ D1), dqDp _ _ (dpMono L.gr.sub _ _ D2), r.1, r.2.1, k _ H B _ (Same.refl _) L (.bl _) r.2.2⟩
/-- a < b < c: both ints' comparisons -/
theorem ev_chain {op op' : CmpOp} {rr rr' : PyData → PyData → (PyData → Prop) → Prop} (ho : OpZ X (compareOp op) rr) (ho' : OpZ X (compareOp op') rr')
    (h : Ev X W a ρ fun x => Ev X W b ρ fun y => rr x y (tst fun k => (k = true → Ev X W c ρ fun z => rr' y z R) ∧ (k = false → R (.bool false)))) (hm : lastMarks [op, op'] [b, c] = false := by with_unfolding_all rfl) : Ev X W (.Compare a [op, op'] [b, c] pos) ρ R := by
  obtain ⟨r, ho, hr⟩ := ho
  obtain ⟨r', ho', hr'⟩ := ho'
  refine ⟨fun σ H B Q L k => (pe_chain ho ho' pe_w pe_w pe_w hm).toZ ?_⟩
  refine h.run σ H B _ L fun v H1 B1 d s1 L1 D1 h2 => ?_
  refine h2.run σ H1 B1 _ L1 fun u H2 B2 d' s2 L2 D2 h3 => ?_
  refine hr W σ ρ H2 B2 v u d d' _ _ L2 (dpMono s2 _ _ D1) D2 h3 fun w H' B' x s L' D' q => ?_
  cases x <;> first | exact q.elim | skip
  rename_i kk
  refine ⟨kk, dp_bool D', ?_⟩
  cases kk with
  | true =>
    rw [if_pos rfl]
    refine (q.1 rfl).run σ H' B' _ L' fun w3 H3 B3 d3 s3 L3 D3 h4 => ?_
    exact hr' W σ ρ H3 B3 u w3 d' d3 R Q L3 (dpMono (s.trans s3) _ _ D2) D3 h4 fun w H'' B'' x s4 L'' D'' r => k w H'' B'' x ((((s1.trans s2).trans s).trans s3).trans s4) L'' D'' r
  | false =>
    rw [if_neg Bool.false_ne_true]
    exact k _ H' B' _ ((s1.trans s2).trans s) L' (.bl false) (q.2 rfl)
theorem ev_neg (h : Ev X W a ρ fun d => match d with | .int i => R (.int (-i)) | _ => False) : Ev X W (.UnaryOp .USub a pos) ρ R := by
  refine ⟨fun σ H B Q L k => (pe_un un_neg pe_w).toZ ?_⟩
  refine h.run σ H B _ L fun v H1 B1 d s1 L1 D1 h2 => ?_
  cases d <;> first | exact h2.elim | skip
  exact ⟨_, dp_int D1, k _ H1 B1 _ s1 L1 (.int _) h2⟩
/-- is None, is not None -/
def isNn : PyData → Bool
  | .none => true
  | _ => false
theorem isNn_v {K : PySem.W.Frag} {B : Hp} {v : V} {d : PyData} (h : Dq K B v d) : decide (v = .non) = isNn d := by
  cases h <;> first | rfl | simp [isNn]
theorem ev_isN {j pos'} (h : Ev X W a ρ fun d => R (.bool (isNn d))) : Ev X W (.Compare a [.Is] [.Constant .none j pos'] pos) ρ R := by
  refine ⟨fun σ H B Q L k => (pe_cmp (pc_isN pe_w)).toZ ?_⟩
  refine h.run σ H B _ L fun v H1 B1 d s1 L1 D1 h2 => ?_
  show Q (.bl (decide (v = .non))) H1
  rw [isNn_v D1]
  exact k _ H1 B1 _ s1 L1 (.bl _) h2
theorem ev_notN {j pos'} (h : Ev X W a ρ fun d => R (.bool (!isNn d))) : Ev X W (.Compare a [.IsNot] [.Constant .none j pos'] pos) ρ R := by
  refine ⟨fun σ H B Q L k => (pe_cmp (pc_notN pe_w)).toZ ?_⟩
  refine h.run σ H B _ L fun v H1 B1 d s1 L1 D1 h2 => ?_
  show Q (.bl (!decide (v = .non))) H1
  rw [isNn_v D1]
  exact k _ H1 B1 _ s1 L1 (.bl _) h2
theorem et_isN {R : Bool → Prop} {j pos'} (h : Ev X W a ρ fun d => R (isNn d)) : Et X W (.Compare a [.Is] [.Constant .none j pos'] pos) ρ R := by
  refine ⟨fun σ H B Q L k => (pt_cmp (pc_isN pe_w)).toZ ?_⟩
  refine h.run σ H B _ L fun v H1 B1 d s1 L1 D1 h2 => ?_
  show ∃ c, V.bl (decide (v = .non)) = .bl c ∧ Q c H1
  rw [isNn_v D1]
  exact ⟨_, rfl, k _ H1 B1 s1 L1 h2⟩
theorem et_notN {R : Bool → Prop} {j pos'} (h : Ev X W a ρ fun d => R (!isNn d)) : Et X W (.Compare a [.IsNot] [.Constant .none j pos'] pos) ρ R := by
  refine ⟨fun σ H B Q L k => (pt_cmp (pc_notN pe_w)).toZ ?_⟩
  refine h.run σ H B _ L fun v H1 B1 d s1 L1 D1 h2 => ?_
  show ∃ c, V.bl (!decide (v = .non)) = .bl c ∧ Q c H1
  rw [isNn_v D1]
  exact ⟨_, rfl, k _ H1 B1 s1 L1 h2⟩

/-! ### and, or, not, if -/
theorem ev_and {rest : List Expr} (h : Ev X W a ρ (tst fun k => (k = true → Ev X W (.BoolOp .And (b :: rest) pos) ρ R) ∧ (k = false → R (.bool false)))) : Ev X W (.BoolOp .And (a :: b :: rest) pos) ρ R := by
  refine ⟨fun σ H B Q L k => (pe_and pe_w pe_w).toZ ?_⟩
  refine h.run σ H B _ L fun v H1 B1 d s1 L1 D1 h2 => ?_
  cases d <;> first | exact h2.elim | skip
  rename_i kk
  refine ⟨kk, dp_bool D1, ?_⟩
  cases kk with
  | true =>
    rw [if_pos rfl]
    exact (h2.1 rfl).run σ H1 B1 _ L1 fun v H' B' d s L' D r => k v H' B' d (s1.trans s) L' D r
  | false =>
    rw [if_neg Bool.false_ne_true]
    exact k _ H1 B1 _ s1 L1 (.bl false) (h2.2 rfl)
theorem ev_or {rest : List Expr} (h : Ev X W a ρ (tst fun k => (k = true → R (.bool true)) ∧ (k = false → Ev X W (.BoolOp .Or (b :: rest) pos) ρ R))) : Ev X W (.BoolOp .Or (a :: b :: rest) pos) ρ R := by
  refine ⟨fun σ H B Q L k => (pe_or pe_w pe_w).toZ ?_⟩
  refine h.run σ H B _ L fun v H1 B1 d s1 L1 D1 h2 => ?_
  cases d <;> first | exact h2.elim | skip
  rename_i kk
  refine ⟨kk, dp_bool D1, ?_⟩
  cases kk with
  | true =>
    rw [if_pos rfl]
    exact k _ H1 B1 _ s1 L1 (.bl true) (h2.1 rfl)
  | false =>
    rw [if_neg Bool.false_ne_true]
    exact (h2.2 rfl).run σ H1 B1 _ L1 fun v H' B' d s L' D r => k v H' B' d (s1.trans s) L' D r
theorem ev_one {op} (h : Ev X W a ρ R) : Ev X W (.BoolOp op [a] pos) ρ R := ⟨fun σ H B Q L k => (pe_one pe_w).toZ (h.run σ H B Q L k)⟩
theorem ev_not (h : Ev X W a ρ (tst fun k => R (.bool (!k)))) : Ev X W (.UnaryOp .Not a pos) ρ R := by
  refine ⟨fun σ H B Q L k => (pe_not pe_w).toZ ?_⟩
  refine h.run σ H B _ L fun v H1 B1 d s1 L1 D1 h2 => ?_
  cases d <;> first | exact h2.elim | skip
  exact ⟨_, dp_bool D1, k _ H1 B1 _ s1 L1 (.bl _) h2⟩
theorem ew_and {R : Bool → Prop} {rest : List Expr} (h : Et X W a ρ fun k => (k = true → Ew X W (.BoolOp .And (b :: rest) pos) ρ R) ∧ (k = false → R false)) : Ew X W (.BoolOp .And (a :: b :: rest) pos) ρ R := by
  refine ⟨fun σ H B Q L k => (pw_and pt_w pw_w).toZ ?_⟩
  refine h.run σ H B _ L fun kk H1 B1 s1 L1 h2 => ?_
  cases kk with
  | true =>
    rw [if_pos rfl]
    exact (h2.1 rfl).run σ H1 B1 _ L1 fun v H' B' s L' r => k v H' B' (s1.trans s) L' r
  | false =>
    rw [if_neg Bool.false_ne_true]
    exact k _ H1 B1 s1 L1 (h2.2 rfl)
theorem ew_or {R : Bool → Prop} {rest : List Expr} (h : Et X W a ρ fun k => (k = true → R true) ∧ (k = false → Ew X W (.BoolOp .Or (b :: rest) pos) ρ R)) : Ew X W (.BoolOp .Or (a :: b :: rest) pos) ρ R := by
  refine ⟨fun σ H B Q L k => (pw_or pt_w pw_w).toZ ?_⟩
  refine h.run σ H B _ L fun kk H1 B1 s1 L1 h2 => ?_
  cases kk with
  | true =>
    rw [if_pos rfl]
    exact k _ H1 B1 s1 L1 (h2.1 rfl)
  | false =>
    rw [if_neg Bool.false_ne_true]
    exact (h2.2 rfl).run σ H1 B1 _ L1 fun v H' B' s L' r => k v H' B' (s1.trans s) L' r
theorem ew_and1 {R : Bool → Prop} (h : Et X W a ρ R) : Ew X W (.BoolOp .And [a] pos) ρ R := ⟨fun σ H B Q L k => (pw_and1 pt_w).toZ (h.run σ H B Q L k)⟩
theorem ew_or1 {R : Bool → Prop} (h : Et X W a ρ R) : Ew X W (.BoolOp .Or [a] pos) ρ R := ⟨fun σ H B Q L k => (pw_or1 pt_w).toZ (h.run σ H B Q L k)⟩
theorem et_ew {R : Bool → Prop} (h : Ew X W e ρ R) : Et X W e ρ R := ⟨fun σ H B Q L k => (PW.pt pw_w).toZ (h.run σ H B Q L k)⟩
theorem et_not {R : Bool → Prop} (h : Et X W a ρ fun k => R (!k)) : Et X W (.UnaryOp .Not a pos) ρ R := by
  refine ⟨fun σ H B Q L k => (pt_not pt_w).toZ ?_⟩
  exact h.run σ H B _ L fun kk H1 B1 s1 L1 h2 => k _ H1 B1 s1 L1 h2
theorem ev_if (h : Et X W c ρ fun k => (k = true → Ev X W a ρ R) ∧ (k = false → Ev X W b ρ R)) : Ev X W (.IfExp c a b pos) ρ R := by
  refine ⟨fun σ H B Q L k => (pe_ifExp pt_w pe_w pe_w).toZ ?_⟩
  refine h.run σ H B _ L fun kk H1 B1 s1 L1 h2 => ?_
  cases kk with
  | true =>
    rw [if_pos rfl]
    exact (h2.1 rfl).run σ H1 B1 _ L1 fun v H' B' d s L' D r => k v H' B' d (s1.trans s) L' D r
  | false =>
    rw [if_neg Bool.false_ne_true]
    exact (h2.2 rfl).run σ H1 B1 _ L1 fun v H' B' d s L' D r => k v H' B' d (s1.trans s) L' D r

/-! ### arguments, tuples, lists, subscripts -/
theorem ea_nil {R : List PyData → Prop} (h : R []) : Ea X W [] ρ R := ⟨fun σ H B Q L k => pa_nil.toZ (k [] H B [] (Same.refl _) L .nil h)⟩
theorem ea_cons {R : List PyData → Prop} (h : Ev X W e ρ fun d => Ea X W es ρ fun ds => R (d :: ds)) (hs : starEach (e :: es) X.env = (false, eval e X.env) :: starEach es X.env := by rfl) : Ea X W (e :: es) ρ R := by
  refine ⟨fun σ H B Q L k => (pa_cons pe_w pa_w hs).toZ ?_⟩
  refine h.run σ H B _ L fun v H1 B1 d s1 L1 D1 h2 => ?_
  refine h2.run σ H1 B1 _ L1 fun vs H2 B2 ds s2 L2 D2 h3 => ?_
  exact k _ H2 B2 _ (s1.trans s2) L2 (.cons (dpMono s2 _ _ D1) D2) h3
theorem ev_tup {x1} (h : Ea X W es ρ fun ds => ds.length ≤ sizeLine ∧ R (.tuple ds)) : Ev X W (.Tuple es x1 pos) ρ R := by
  refine ⟨fun σ H B Q L k => (pe_tup pa_w).toZ ?_⟩
  refine h.run σ H B _ L fun vs H1 B1 ds s1 L1 D1 h2 => ⟨by rw [dpAll_len D1]; exact h2.1, fun p hp => ?_⟩
  obtain ⟨s, L'⟩ := L1.fresh hp (.tup vs)
  exact k _ _ _ _ (s1.trans s) L' (.tup (SqT.of upd_same) (dpAllMono s _ _ D1)) h2.2
/-- an item: at a place that is there -/
def atD (ds : List PyData) (i : Int) : Option PyData := atI ds i
theorem atI_dq {K : PySem.W.Frag} {B : Hp} {ds : List PyData} {vs : List V} (h : DqAll K B vs ds) {i : Int} {d : PyData} (e : atI ds i = some d) : ∃ v, atI vs i = some v ∧ Dq K B v d := by
  unfold atI at e ⊢
  rw [dpAll_len h]
  cases q : ixN ds.length i with
  | none => rw [q] at e; cases e
  | some j =>
    rw [q] at e
    exact dpAll_get h (show ds[j]? = some d from e)
@[reducible] def rIxZ : PyData → PyData → (PyData → Prop) → Prop
  | .tuple ds, .int i, R => ∃ d, atI ds i = some d ∧ R d
  | .list ds, .int i, R => ∃ d, atI ds i = some d ∧ R d
  | _, _, _ => False
theorem ev_ix (h : Ev X W a ρ fun x => Ev X W b ρ fun y => rIxZ x y R) (hs : PlainIx b := by exact fun _ _ => rfl) : Ev X W (.Subscript a b pos) ρ R := by
  refine ⟨fun σ H B Q L k => (pe_ix (IxR.or ix_tup ix_list) pe_w pe_w hs).toZ ?_⟩
  refine h.run σ H B _ L fun v H1 B1 d s1 L1 D1 h2 => ?_
  refine h2.run σ H1 B1 _ L1 fun u H2 B2 d' s2 L2 D2 h3 => ?_
  have D1' := dpMono s2 _ _ D1
  cases d <;> cases d' <;> first | exact h3.elim | skip
  · rename_i ds i
    obtain ⟨x, h4, h5⟩ := h3
    obtain ⟨p, vs, rfl, h6, h7⟩ := dp_list D1'
    obtain ⟨w, h8, h9⟩ := atI_dq h7 h4
    exact .inr ⟨p, vs, i, w, rfl, dp_int D2, SqL.of (L2.gr.sub _ _ h6), h8, k w H2 B2 x (s1.trans s2) L2 h9 h5⟩
  · rename_i ds i
    obtain ⟨x, h4, h5⟩ := h3
    obtain ⟨p, vs, rfl, h6, h7⟩ := dp_tup D1'
    obtain ⟨w, h8, h9⟩ := atI_dq h7 h4
    exact .inl ⟨p, vs, i, w, rfl, dp_int D2, seqT L2.gr.sub h6, h8, k w H2 B2 x (s1.trans s2) L2 h9 h5⟩
/-- an item of a list of the frame's own -/
theorem ev_ixOwn (i : Nat) {x : Str} {ds : List PyData} {px : Pos} (hρ : ρ[i]? = some (.own ds)) (h : Ev X W b ρ fun y => rIxZ (.list ds) y R) (hN : X.N[i]? = some x := by rfl) (hv : Vis X.env.scope x := by first | exact Or.inl rfl | exact Or.inr (Or.inl rfl) | exact Or.inr (Or.inr rfl))
    (hs : PlainIx b := by exact fun _ _ => rfl) (hd : (x == ("__debug__" : Str)) = false := by decide) (hcd : (x == ("__classdict__" : Str)) = false := by decide) : Ev X W (.Subscript (.Name x px) b pos) ρ R := by
  refine ⟨fun σ H B Q L k => (pe_ix ix_list (pe_var hN hv hd hcd) pe_w hs).toZ ?_⟩
  obtain ⟨p, vs, e1, e2, e3, e4, e5⟩ := L.at' i _ hρ
  refine ⟨.ref p, e1, ?_⟩
  refine h.run σ H B _ L fun u H2 B2 d' s2 L2 D2 h3 => ?_
  cases d' <;> first | exact h3.elim | skip
  rename_i j
  obtain ⟨y, h4, h5⟩ := h3
  obtain ⟨p', vs', f1, f2, f3, f4, f5⟩ := L2.at' i _ hρ
  rw [e1] at f1
  cases f1
  obtain ⟨w, h8, h9⟩ := atI_dq f5 h4
  exact ⟨p, vs', j, w, rfl, dp_int D2, SqL.of f4, h8, k w H2 B2 y s2 L2 h9 h5⟩

/-! ### calls -/
/-- a def's promise over data, no tape handed in -/
def Con (K : PySem.W.Frag) (P : List PyData → (PyData → Prop) → Prop) : Sp := fun vs H Q _ => ∃ B ds R, Same B H ∧ DqAll K B vs ds ∧ P ds R ∧ ∀ v H' B' d, Gr K ⟨none, (0, []), B, H⟩ B' H' → Dq K B' v d → R d → Q v H'
/-- .. the tape handed in first -/
def ConT (K : PySem.W.Frag) (P : List PyData → (PyData → Prop) → Prop) : Sp := fun vs H Q _ => ∃ B ds R T ns vs', vs = .ref T :: vs' ∧ Same B H ∧ Tape ns B H T ∧ DqAll K B vs' ds ∧ P ds R ∧ ∀ v H' B' d, Gr K ⟨some T, ns, B, H⟩ B' H' → Dq K B' v d → R d → Q v H'
theorem ev_call {f : Addr} {fd : FuncData} {ps : List Str} {k : Nat} {x : Str} {p : Pos} {P : List PyData → (PyData → Prop) → Prop} (F : FnOk X.prog X.w X.K X.mg X.base CX0 k f fd ps (Con X.K P)) (hr : Room k X.A) (hm : X.mg x = some (.ref f))
    (hk : PySem.W.keepIn X.K (.ref f) = true) (hb : Binds X.K fd ps []) (h : Ea X W (e :: es) ρ fun ds => P ds R) (hg : Gl X x := by rfl)
    (hs : starEach (e :: es) X.env = (false, eval e X.env) :: starEach es X.env := by rfl) (hpl : (backTo pos (starEach es X.env)).any (·.1) = false := by rfl) (hdb : (x == ("__debug__" : Str)) = false := by decide) : Ev X W (.Call (.Name x p) (e :: es) [] pos) ρ R := by
  refine ⟨fun σ H B Q L k => PE.toZ (t := tCall (Con X.K P) [] E0 (tWa X (e :: es))) ?_ ?_⟩
  · exact pe_call F hr hg hm hk hb .nil pass0 pa_w hdb hs hpl
  · refine h.run σ H B _ L fun vs H1 B1 ds s1 L1 D1 h2 => ?_
    rw [List.append_nil]
    refine ⟨B1, ds, R, L1.gr.sub, D1, h2, fun v H' B' d g D r => ?_⟩
    obtain ⟨s, L'⟩ := L1.called (.inl rfl) g
    exact k v H' B' d (s1.trans s) L' D r
theorem ev_callT {f : Addr} {fd : FuncData} {ps : List Str} {k : Nat} {x y : Str} {p py : Pos} {P : List PyData → (PyData → Prop) → Prop} (i : Nat) (hρ : ρ[i]? = some .tape) (F : FnOk X.prog X.w X.K X.mg X.base CX0 k f fd ps (ConT X.K P)) (hr : Room k X.A) (hm : X.mg x = some (.ref f))
    (hk : PySem.W.keepIn X.K (.ref f) = true) (hb : Binds X.K fd ps []) (h : Ea X W es ρ fun ds => P ds R) (hN : X.N[i]? = some y := by rfl) (hv : Vis X.env.scope y := by first | exact Or.inl rfl | exact Or.inr (Or.inl rfl) | exact Or.inr (Or.inr rfl)) (hg : Gl X x := by rfl)
    (hs : starEach (.Name y py :: es) X.env = (false, eval (.Name y py) X.env) :: starEach es X.env := by rfl) (hpl : (backTo pos (starEach es X.env)).any (·.1) = false := by rfl) (hdb : (x == ("__debug__" : Str)) = false := by decide)
    (hd : (y == ("__debug__" : Str)) = false := by decide) (hcd : (y == ("__classdict__" : Str)) = false := by decide) : Ev X W (.Call (.Name x p) (.Name y py :: es) [] pos) ρ R := by
  refine ⟨fun σ H B Q L k => PE.toZ (t := tCall (ConT X.K P) [] E0 (tCons (tVar i) (tWa X es))) ?_ ?_⟩
  · have hpa : PA X (.Name y py :: es) (tCons (tVar i) (tWa X es)) := pa_cons (pe_var hN hv hd hcd) pa_w hs
    exact pe_call F hr hg hm hk hb .nil pass0 hpa hdb hs hpl
  · obtain ⟨T, hT, e1⟩ := L.at' i _ hρ
    refine ⟨.ref T, e1, ?_⟩
    refine h.run σ H B _ L fun vs H1 B1 ds s1 L1 D1 h2 => ?_
    show ConT X.K P ((V.ref T :: vs) ++ []) H1 Q E0
    rw [List.append_nil]
    obtain ⟨_, tp⟩ := L1.gr.tp T hT
    refine ⟨B1, ds, R, T, W.ns, vs, rfl, L1.gr.sub, tp, D1, h2, fun v H' B' d g D r => ?_⟩
    obtain ⟨s, L'⟩ := L1.called (.inr ⟨hT.symm, rfl⟩) g
    exact k v H' B' d (s1.trans s) L' D r
end
end Z

namespace Z
open PySem PySem.Spec PyProof.Rows L2
section
variable {X : Cx} {W : Wd} {ρ : List Sl} {D : Dz} {pos : Pos} {a b c e : Expr} {es : List Expr} {st : Stmt} {sts body : List Stmt}

/-! ### blocks, small statements -/
theorem ess_nil (h : D.nx ρ) : Ess X W [] ρ D := ⟨fun σ H B L => pss_nil.toZ (D := De X.K W B D) (show ∃ B' ρ, Same B B' ∧ Lay X.K W B' H σ ρ ∧ D.nx ρ from ⟨B, ρ, Same.refl _, L, h⟩)⟩
theorem ess_cons (h : Es X W st ρ { D with nx := fun r => Ess X W sts r D }) : Ess X W (st :: sts) ρ D := by
  refine ⟨fun σ H B L => (pss_cons ps_w pss_w).toZ ?_⟩
  show tWs X st { De X.K W B D with nx := fun σ' H' => tWss X sts (De X.K W B D) σ' H' } σ H
  intro pins s I
  refine thn (h.run σ H B L pins s I) fun f s' q => ?_
  cases f with
  | next => obtain ⟨σ', H', I', B', ρ', s0, L', q⟩ := q; exact ⟨σ', H', I', tWss.back s0 (q.run σ' H' B' L')⟩
  | brk => exact q
  | cont => exact q
  | ret u => exact q
theorem ess_one (h : Es X W st ρ D) : Ess X W [st] ρ D := ⟨fun σ H B L => (pss_one ps_w).toZ (h.run σ H B L)⟩
theorem es_pass (h : D.nx ρ) : Es X W (.Pass pos) ρ D := ⟨fun σ H B L => ps_pass.toZ (D := De X.K W B D) (show ∃ B' ρ, Same B B' ∧ Lay X.K W B' H σ ρ ∧ D.nx ρ from ⟨B, ρ, Same.refl _, L, h⟩)⟩
theorem es_break (h : D.bk ρ) : Es X W (.Break pos) ρ D := ⟨fun σ H B L => ps_break.toZ (D := De X.K W B D) (show ∃ B' ρ, Same B B' ∧ Lay X.K W B' H σ ρ ∧ D.bk ρ from ⟨B, ρ, Same.refl _, L, h⟩)⟩
theorem es_continue (h : D.ct ρ) : Es X W (.Continue pos) ρ D := ⟨fun σ H B L => ps_continue.toZ (D := De X.K W B D) (show ∃ B' ρ, Same B B' ∧ Lay X.K W B' H σ ρ ∧ D.ct ρ from ⟨B, ρ, Same.refl _, L, h⟩)⟩
theorem es_ret (h : Ev X W e ρ D.rt) : Es X W (.Return (some e) pos) ρ D :=
  ⟨fun σ H B L => (ps_ret pe_w).toZ (h.run σ H B _ L fun v H' B' d s L' D' r => ⟨B', d, L'.gr, D', r⟩)⟩
theorem es_expr (h : Ev X W e ρ fun _ => D.nx ρ) (hs : swapsWith e none pos.line X.env = pure false := by rfl) : Es X W (.Expr e pos) ρ D :=
  ⟨fun σ H B L => (ps_expr pe_w hs).toZ (h.run σ H B _ L fun v H' B' d s L' D' r => ⟨B', ρ, s, L', r⟩)⟩
theorem es_if (h : Et X W c ρ fun k => (k = true → Ess X W body ρ D) ∧ (k = false → Ess X W sts ρ D)) : Es X W (.If c body sts pos) ρ D := by
  refine ⟨fun σ H B L => (ps_if pt_w pss_w pss_w).toZ ?_⟩
  refine h.run σ H B _ L fun k H1 B1 s L1 q => ?_
  cases k with
  | true =>
    rw [if_pos rfl]
    exact tWss.back s ((q.1 rfl).run σ H1 B1 L1)
  | false =>
    rw [if_neg Bool.false_ne_true]
    exact tWss.back s ((q.2 rfl).run σ H1 B1 L1)
theorem es_set (i : Nat) {x : Str} {pos' : Pos} (h : Ev X W e ρ fun d => D.nx (ρ.set i (.im d))) (hN : X.N.Nodup) (hi : X.N[i]? = some x := by rfl) (hx : Loc X.env.scope x := by first | exact .inl rfl | exact .inr rfl) (hs : swapsWith e (some (.Name x pos')) pos.line X.env = pure false := by rfl)
    (hf : X.fn x = true ∨ X.env.scope.names.lookup x = some .local := by first | exact .inl rfl | exact .inr rfl | assumption) : Es X W (.Assign [.Name x pos'] e pos) ρ D :=
  ⟨fun σ H B L => (ps_set hN hi hx pe_w hs hf).toZ (h.run σ H B _ L fun v H' B' d s L' D' r => ⟨B', _, s, L'.put D', r⟩)⟩
theorem es_aug (i : Nat) {x : Str} {pos' : Pos} {dx : PyData} (hρ : ρ[i]? = some (.im dx)) (h : Ev X W e ρ fun d => match dx, d with | .int m, .int n => D.nx (ρ.set i (.im (.int (m + n)))) | _, _ => False) (hN : X.N.Nodup) (hi : X.N[i]? = some x := by rfl)
    (hx : Loc X.env.scope x := by first | exact .inl rfl | exact .inr rfl) (hf : X.fn x = true ∨ X.env.scope.names.lookup x = some .local := by first | exact .inl rfl | exact .inr rfl | assumption) : Es X W (.AugAssign (.Name x pos') .Add e pos) ρ D := by
  refine ⟨fun σ H B L => (ps_aug hN hi hx pe_w ip_add hf).toZ ?_⟩
  obtain ⟨v, h1, h2⟩ := L.at' i _ hρ
  refine ⟨v, h1, h.run σ H B _ L fun v' H' B' d s L' D' r => ?_⟩
  cases dx <;> cases d <;> first | exact r.elim | skip
  rename_i m n
  exact ⟨m, n, dp_int h2, dp_int D', B', _, s, L'.put (.int (m + n)), r⟩

/-! ### targets -/
def gW (X : Cx) (tg : Expr) : TG := fun v σ H Q => ∀ (pins : List (Addr × Obj)) (s : Shared) (u : Value), Inv X pins σ H s → RelV v u → wpAny (model X.prog X.w) X.A (assign tg X.env u) (fun _ s' => ∃ σ' H', Inv X pins σ' H' s' ∧ Q σ' H') X.xe s
def gWs (X : Cx) (ts : List Expr) : TGs := fun vs σ H Q => ∀ (pins : List (Addr × Obj)) (s : Shared) (us : List Value), Inv X pins σ H s → Vals vs us → wpAny (model X.prog X.w) X.A (assignInOrder ((assignEach ts X.env).map (·.2)) us) (fun _ s' => ∃ σ' H', Inv X pins σ' H' s' ∧ Q σ' H') X.xe s
theorem pg_w {tg : Expr} : PG X tg (gW X tg) := ⟨fun pins s σ H v u Q I r h => h pins s u I r⟩
theorem pgs_w {ts : List Expr} : PGs X ts (gWs X ts) := ⟨fun pins s σ H v u Q I r h => h pins s u I r⟩
theorem _root_.L2.PG.toZ {tg : Expr} {t : TG} (h : PG X tg t) {v σ H Q} (q : t v σ H Q) : gW X tg v σ H Q := fun pins s u I r => h.run pins s σ H v u Q I r q
theorem _root_.L2.PGs.toZ {ts : List Expr} {t : TGs} (h : PGs X ts t) {v σ H Q} (q : t v σ H Q) : gWs X ts v σ H Q := fun pins s u I r => h.run pins s σ H v u Q I r q
/-- data d goes to a target -/
structure Tg (X : Cx) (W : Wd) (tg : Expr) (d : PyData) (ρ : List Sl) (N : List Sl → Prop) : Prop where
  run : ∀ (v : V) (σ : L2.St) (H B : Hp) (Q : L2.St → Hp → Prop), Lay X.K W B H σ ρ → Dq X.K B v d → (∀ σ' H' B' ρ', Same B B' → Lay X.K W B' H' σ' ρ' → N ρ' → Q σ' H') → gW X tg v σ H Q
structure Tgs (X : Cx) (W : Wd) (ts : List Expr) (ds : List PyData) (ρ : List Sl) (N : List Sl → Prop) : Prop where
  run : ∀ (vs : List V) (σ : L2.St) (H B : Hp) (Q : L2.St → Hp → Prop), Lay X.K W B H σ ρ → DqAll X.K B vs ds → (∀ σ' H' B' ρ', Same B B' → Lay X.K W B' H' σ' ρ' → N ρ' → Q σ' H') → gWs X ts vs σ H Q
theorem tg_name (i : Nat) {x : Str} {d : PyData} {N : List Sl → Prop} (h : N (ρ.set i (.im d))) (hN : X.N.Nodup) (hi : X.N[i]? = some x := by rfl) (hx : Loc X.env.scope x := by first | exact .inl rfl | exact .inr rfl)
    (hf : X.fn x = true ∨ X.env.scope.names.lookup x = some .local := by first | exact .inl rfl | exact .inr rfl | assumption) : Tg X W (.Name x pos) d ρ N :=
  ⟨fun v σ H B Q L D' k => (pg_name hN hi hx hf).toZ (k _ _ _ _ (Same.refl _) (L.put D') h)⟩
theorem tgs_nil {N : List Sl → Prop} (h : N ρ) : Tgs X W [] [] ρ N := ⟨fun vs σ H B Q L D' k => pgs_nil.toZ (by cases D'; exact ⟨rfl, k _ _ _ _ (Same.refl _) L h⟩)⟩
theorem tgs_name (i : Nat) {x : Str} {d : PyData} {ds : List PyData} {N : List Sl → Prop} (h : Tgs X W es ds (ρ.set i (.im d)) N) (hN : X.N.Nodup) (hi : X.N[i]? = some x := by rfl) (hx : Loc X.env.scope x := by first | exact .inl rfl | exact .inr rfl)
    (hf : X.fn x = true ∨ X.env.scope.names.lookup x = some .local := by first | exact .inl rfl | exact .inr rfl | assumption)
    (hs : (assignEach (.Name x pos :: es) X.env).map (·.2) = assign (.Name x pos) X.env :: (assignEach es X.env).map (·.2) := by rfl) : Tgs X W (.Name x pos :: es) (d :: ds) ρ N := by
  refine ⟨fun vs σ H B Q L D' k => (pgs_cons (pg_name hN hi hx hf) pgs_w hs).toZ ?_⟩
  cases D' with
  | cons h1 h2 => exact ⟨_, _, rfl, h.run _ _ _ _ _ (L.put h1) h2 k⟩
theorem tg_tup {ds : List PyData} {kk : Nat} {N : List Sl → Prop} (hc : X.calm = true) (h : Tgs X W es ds ρ N) (hn : (assignEach es X.env).length = ds.length := by rfl) (hst : (assignEach es X.env).findIdx? (·.1) = none := by rfl) : Tg X W (.Tuple es kk pos) (.tuple ds) ρ N := by
  refine ⟨fun v σ H B Q L D' k => (pg_tup hc pgs_w hn hst).toZ ?_⟩
  obtain ⟨p, vs, rfl, h1, h2⟩ := dp_tup D'
  exact ⟨p, vs, rfl, seqT L.gr.sub h1, dpAll_len h2, h.run _ _ _ _ _ L h2 k⟩
/-- a, b = e -/
theorem es_asg {tg : Expr} (h : Ev X W e ρ fun d => Tg X W tg d ρ D.nx) (hs : swapsWithSole [tg] e pos.line X.env = pure false := by rfl) (hw : swappedStores [tg] e X.env = pure none := by rfl)
    (h1 : (assignEach [tg] X.env).map (·.2) = [assign tg X.env] := by rfl) : Es X W (.Assign [tg] e pos) ρ D := by
  refine ⟨fun σ H B L => (ps_asg pe_w pg_w hs hw h1).toZ ?_⟩
  exact h.run σ H B _ L fun v H' B' d s L' D' r => r.run v σ H' B' _ L' D' fun σ' H' B' ρ' s' L' q => ⟨B', ρ', s.trans s', L', q⟩
/-- a, b = x, y of plain locals -/
theorem es_par (i j : Nat) {x y : Str} {px py pt : Pos} {kt k2 pt2} (h : Ea X W [a, b] ρ fun ds => match ds with | [d, e] => D.nx ((ρ.set i (.im d)).set j (.im e)) | _ => False) (hc : X.calm = true) (hN : X.N.Nodup) (hi : X.N[i]? = some x := by rfl) (hj : X.N[j]? = some y := by rfl) (hij : i ≠ j := by decide)
    (hx : X.env.scope.names.lookup x = some .local := by rfl) (hy : X.env.scope.names.lookup y = some .local := by rfl)
    (hw : swappedStores [.Tuple [.Name x px, .Name y py] kt pt] (.Tuple [a, b] k2 pt2) X.env = pure (some [x, y]) := by rfl)
    (hs : swapsWithSole [.Tuple [.Name x px, .Name y py] kt pt] (.Tuple [a, b] k2 pt2) pos.line X.env = pure false := by rfl) :
    Es X W (.Assign [.Tuple [.Name x px, .Name y py] kt pt] (.Tuple [a, b] k2 pt2) pos) ρ D := by
  refine ⟨fun σ H B L => (ps_par hc hN hi hj hij hx hy pa_w hw hs).toZ ?_⟩
  refine h.run σ H B _ L fun vs H' B' ds s L' D' r => ?_
  cases D' with
  | nil => exact r.elim
  | cons h1 h2 =>
    cases h2 with
    | nil => exact r.elim
    | cons h3 h4 =>
      cases h4 with
      | nil => exact ⟨_, _, rfl, B', _, s, (L'.put h1).put h3, r⟩
      | cons _ _ => exact r.elim

/-! ### lists of the frame's own -/
theorem Lay.own (L : Lay X.K W B H σ ρ) {i : Nat} {p : Addr} {vs : List V} {ds : List PyData} (h1 : B p = none) (h2 : W.H0 p = none) (h3 : ∀ (j : Nat) (sl : Sl), ρ[j]? = some sl → sl.ow = true → σ[j]? ≠ some (some (.ref p))) (h4 : H p = some (.lst vs)) (h5 : DqAll X.K B vs ds) :
    Lay X.K W B H (σ.set i (some (.ref p))) (ρ.set i (.own ds)) := by
  refine ⟨L.gr, by simp [L.len], fun j sl e => ?_, fun j k s t hne e1 e2 o1 o2 => ?_⟩
  · by_cases hj : i = j
    · subst hj
      have hl : i < ρ.length := by
        have := (List.getElem?_eq_some_iff.mp e).1
        simpa using this
      rw [List.getElem?_set_self hl] at e
      cases e
      rw [List.getElem?_set_self (by rw [L.len]; exact hl)]
      exact ⟨p, vs, rfl, h1, h2, h4, h5⟩
    · rw [List.getElem?_set_ne hj] at e ⊢
      exact L.at' j sl e
  · by_cases hj : i = j
    · subst hj
      have hl : i < ρ.length := by
        have := (List.getElem?_eq_some_iff.mp e1).1
        simpa using this
      rw [List.getElem?_set_self (by rw [L.len]; exact hl)]
      rw [List.getElem?_set_ne hne] at e2 ⊢
      exact fun q => h3 k t e2 o2 q.symm
    · by_cases hk : i = k
      · subst hk
        have hl : i < ρ.length := by
          have := (List.getElem?_eq_some_iff.mp e2).1
          simpa using this
        rw [List.getElem?_set_self (by rw [L.len]; exact hl)]
        rw [List.getElem?_set_ne hj] at e1 ⊢
        exact h3 j s e1 o1
      · rw [List.getElem?_set_ne hj] at e1 ⊢
        rw [List.getElem?_set_ne hk] at e2 ⊢
        exact L.dis j k s t hne e1 e2 o1 o2
/-- an own list's content changes -/
theorem Lay.chg (L : Lay X.K W B H σ ρ) {i : Nat} {p : Addr} {vs : List V} {ds ds0 : List PyData} (hρ : ρ[i]? = some (.own ds0)) (hσ : σ[i]? = some (some (.ref p))) (h5 : DqAll X.K B vs ds) : Lay X.K W B (upd H p (.lst vs)) σ (ρ.set i (.own ds)) := by
  obtain ⟨p', vs0, e1, e2, e3, e4, e5⟩ := L.at' i _ hρ
  rw [hσ] at e1
  cases e1
  have hl : i < ρ.length := (List.getElem?_eq_some_iff.mp hρ).1
  have hT : ∀ T, W.T = some T → T ≠ p := fun T h q => by
    subst q
    exact (L.gr.tp T h).1 e3
  refine ⟨⟨same_right L.gr.sub e2, L.gr.base, L.gr.new, fun a o h1 h2 => ?_, fun T h => ?_⟩, by simp [L.len], fun j sl e => ?_, fun j k s t hne f1 f2 o1 o2 => ?_⟩
  · have ha : a ≠ p := by
      rintro rfl
      rw [e3] at h1
      cases h1
    rw [upd_ne ha]
    exact L.gr.keep a o h1 h2
  · obtain ⟨t1, t2⟩ := L.gr.tp T h
    exact ⟨t1, t2.mono (Same.refl _) t2.1 fun o ho => by rw [upd_ne (hT T h)]; exact ho⟩
  · by_cases hj : i = j
    · subst hj
      rw [List.getElem?_set_self hl] at e
      cases e
      exact ⟨p, vs, hσ, e2, e3, upd_same, h5⟩
    · rw [List.getElem?_set_ne hj] at e
      refine (L.at' j sl e).grow (Same.refl _) fun a o g1 g2 g3 _ g5 => ⟨g3, ?_⟩
      have ha : a ≠ p := by
        rintro rfl
        exact L.dis i j _ sl hj hρ e rfl g2 (hσ.trans g1.symm)
      rw [upd_ne ha]
      exact g5
  · have q1 : ∃ s', ρ[j]? = some s' ∧ s'.ow = true := by
      by_cases hj : i = j
      · subst hj
        exact ⟨_, hρ, rfl⟩
      · rw [List.getElem?_set_ne hj] at f1
        exact ⟨s, f1, o1⟩
    have q2 : ∃ s', ρ[k]? = some s' ∧ s'.ow = true := by
      by_cases hj : i = k
      · subst hj
        exact ⟨_, hρ, rfl⟩
      · rw [List.getElem?_set_ne hj] at f2
        exact ⟨t, f2, o2⟩
    obtain ⟨s', g1, g2⟩ := q1
    obtain ⟨t', g3, g4⟩ := q2
    exact L.dis j k s' t' hne g1 g3 g2 g4
/-- an own list is plain from now on -/
theorem Lay.frz (L : Lay X.K W B H σ ρ) {i : Nat} {ds : List PyData} (hρ : ρ[i]? = some (.own ds)) : ∃ B', Same B B' ∧ Lay X.K W B' H σ (ρ.set i (.im (.list ds))) := by
  obtain ⟨p, vs, e1, e2, e3, e4, e5⟩ := L.at' i _ hρ
  have hl : i < ρ.length := (List.getElem?_eq_some_iff.mp hρ).1
  have s : Same B (upd B p (.lst vs)) := same_new e2
  have hT : ∀ T, W.T = some T → T ≠ p := fun T h q => by
    subst q
    exact (L.gr.tp T h).1 e3
  refine ⟨upd B p (.lst vs), s, ⟨⟨fun b o h => ?_, L.gr.base.trans s, fun a h1 h2 => ?_, L.gr.keep, fun T h => ?_⟩, by simp [L.len], fun j sl e => ?_, fun j k s t hne f1 f2 o1 o2 => ?_⟩⟩
  · by_cases hb : b = p
    · subst hb
      rw [upd_same] at h
      rw [e4]
      exact h
    · rw [upd_ne hb] at h
      exact L.gr.sub b o h
  · have ha : a ≠ p := by
      rintro rfl
      exact h1 e3
    rw [upd_ne ha]
    exact L.gr.new a h1 h2
  · obtain ⟨t1, t2⟩ := L.gr.tp T h
    exact ⟨t1, t2.mono s (by rw [upd_ne (hT T h)]; exact t2.1) fun o ho => ho⟩
  · by_cases hj : i = j
    · subst hj
      rw [List.getElem?_set_self hl] at e
      cases e
      exact ⟨.ref p, e1, .lst upd_same (dpAllMono s _ _ e5)⟩
    · rw [List.getElem?_set_ne hj] at e
      refine (L.at' j sl e).grow s fun a o g1 g2 g3 _ g5 => ?_
      have ha : a ≠ p := by
        rintro rfl
        exact L.dis i j _ sl hj hρ e rfl g2 (e1.trans g1.symm)
      rw [upd_ne ha]
      exact ⟨g3, g5⟩
  · have q1 : j ≠ i := by
      rintro rfl
      rw [List.getElem?_set_self hl] at f1
      cases f1
      cases o1
    have q2 : k ≠ i := by
      rintro rfl
      rw [List.getElem?_set_self hl] at f2
      cases f2
      cases o2
    rw [List.getElem?_set_ne q1.symm] at f1
    rw [List.getElem?_set_ne q2.symm] at f2
    exact L.dis j k s t hne f1 f2 o1 o2
/-- from here on the list in slot i is plain -/
theorem ess_frz (i : Nat) {ds : List PyData} (hρ : ρ[i]? = some (.own ds)) (h : Ess X W sts (ρ.set i (.im (.list ds))) D) : Ess X W sts ρ D := by
  refine ⟨fun σ H B L => ?_⟩
  obtain ⟨B', s, L'⟩ := L.frz hρ
  exact tWss.back s (h.run σ H B' L')
theorem es_frz (i : Nat) {ds : List PyData} (hρ : ρ[i]? = some (.own ds)) (h : Es X W st (ρ.set i (.im (.list ds))) D) : Es X W st ρ D := by
  refine ⟨fun σ H B L => ?_⟩
  obtain ⟨B', s, L'⟩ := L.frz hρ
  exact tWs.back s (h.run σ H B' L')
/-- a fresh list as a value -/
theorem ev_el {R : PyData → Prop} (h : El X W e ρ fun ds => R (.list ds)) : Ev X W e ρ R := by
  refine ⟨fun σ H B Q L k => h.run σ H B Q L fun p vs H' B' ds s L' h1 h2 h3 h4 h5 r => ?_⟩
  have s' : Same B' (upd B' p (.lst vs)) := same_new h1
  refine k _ H' (upd B' p (.lst vs)) (.list ds) (s.trans s') ⟨⟨fun b o q => ?_, L'.gr.base.trans s', fun a q1 q2 => ?_, L'.gr.keep, fun T q => ?_⟩, L'.len, fun i sl q => (L'.at' i sl q).grow s' fun a o g1 g2 g3 _ g5 => ?_, L'.dis⟩ (.lst upd_same (dpAllMono s' _ _ h5)) r
  · by_cases hb : b = p
    · subst hb
      rw [upd_same] at q
      rw [h4]
      exact q
    · rw [upd_ne hb] at q
      exact L'.gr.sub b o q
  · have ha : a ≠ p := by
      rintro rfl
      exact q1 h2
    rw [upd_ne ha]
    exact L'.gr.new a q1 q2
  · obtain ⟨t1, t2⟩ := L'.gr.tp T q
    have ht : T ≠ p := by
      rintro rfl
      exact t1 h2
    exact ⟨t1, t2.mono s' (by rw [upd_ne ht]; exact t2.1) fun o ho => ho⟩
  · have ha : a ≠ p := by
      rintro rfl
      exact h3 i sl q g2 g1
    rw [upd_ne ha]
    exact ⟨g3, g5⟩
theorem fresh_own {K : PySem.W.Frag} {B H : Hp} {σ : L2.St} (L : Lay K W B H σ ρ) {p : Addr} (hp : H p = none) (ds : List PyData) (vs : List V) (h5 : DqAll K B vs ds) :
    Lay K W B (upd H p (.lst vs)) σ ρ ∧ B p = none ∧ W.H0 p = none ∧ (∀ (j : Nat) (sl : Sl), ρ[j]? = some sl → sl.ow = true → σ[j]? ≠ some (some (.ref p))) ∧ (upd H p (.lst vs)) p = some (.lst vs) := by
  have bp : B p = none := Same.free L.gr.sub hp
  have h0 : W.H0 p = none := by
    cases q : W.H0 p with
    | none => rfl
    | some u =>
      by_cases ht : W.T = some p
      · obtain ⟨_, t⟩ := L.gr.tp p ht
        obtain ⟨_, i, c, e, _⟩ := t
        rw [e] at hp
        cases hp
      · have := L.gr.keep p u q ht
        rw [hp] at this
        cases this
  have np : ∀ a u, H a = some u → a ≠ p := fun a u e => ne_of_none e hp
  refine ⟨⟨⟨same_right L.gr.sub bp, L.gr.base, L.gr.new, fun a o h1 h2 => ?_, fun T h => ?_⟩, L.len, fun i sl e => (L.at' i sl e).grow (Same.refl _) fun a u _ _ h2 _ h4 => ?_, L.dis⟩, bp, h0, fun j sl e1 e2 q => ?_, upd_same⟩
  · have := L.gr.keep a o h1 h2
    rw [upd_ne (np a o this)]
    exact this
  · obtain ⟨t1, t2⟩ := L.gr.tp T h
    obtain ⟨_, i, c, e, _⟩ := id t2
    exact ⟨t1, t2.mono (Same.refl _) t2.1 fun o ho => by rw [upd_ne (np T _ e)]; exact ho⟩
  · rw [upd_ne (np a u h4)]
    exact ⟨h2, h4⟩
  · obtain ⟨a, o, g1, g2, g3, g4, _⟩ := (L.at' j sl e1).owner e2
    rw [q] at g1
    cases g1
    rw [hp] at g4
    cases g4
theorem el_lst {R : List PyData → Prop} (h : Ea X W es ρ fun ds => ds.length ≤ sizeLine ∧ R ds) : El X W (.List es pos) ρ R := by
  refine ⟨fun σ H B Q L k => (pe_lst pa_w).toZ ?_⟩
  refine h.run σ H B _ L fun vs H1 B1 ds s1 L1 D1 h2 => ⟨by rw [dpAll_len D1]; exact h2.1, fun p hp => ?_⟩
  obtain ⟨L', q1, q2, q3, q4⟩ := fresh_own L1 hp ds vs D1
  exact k p vs _ B1 ds s1 L' q1 q2 q3 q4 D1 h2.2
/-- x = a fresh list -/
theorem es_setL (i : Nat) {x : Str} {pos' : Pos} (h : El X W e ρ fun ds => D.nx (ρ.set i (.own ds))) (hN : X.N.Nodup) (hi : X.N[i]? = some x := by rfl) (hx : Loc X.env.scope x := by first | exact .inl rfl | exact .inr rfl) (hs : swapsWith e (some (.Name x pos')) pos.line X.env = pure false := by rfl)
    (hf : X.fn x = true ∨ X.env.scope.names.lookup x = some .local := by first | exact .inl rfl | exact .inr rfl | assumption) : Es X W (.Assign [.Name x pos'] e pos) ρ D :=
  ⟨fun σ H B L => (ps_set hN hi hx pe_w hs hf).toZ (h.run σ H B _ L fun p vs H' B' ds s L' h1 h2 h3 h4 h5 r => ⟨B', _, s, L'.own h1 h2 h3 h4 h5, r⟩)⟩
/-- x.append(e) -/
theorem es_append (i : Nat) {x : Str} {px pa cp : Pos} {ds : List PyData} (hρ : ρ[i]? = some (.own ds)) (h : Ev X W e ρ fun d => ds.length < sizeLine ∧ D.nx (ρ.set i (.own (ds ++ [d])))) (hN : X.N[i]? = some x := by rfl) (hv : Vis X.env.scope x := by first | exact Or.inl rfl | exact Or.inr (Or.inl rfl) | exact Or.inr (Or.inr rfl))
    (hs : swapsWith (.Call (.Attribute (.Name x px) "append" pa) [e] [] cp) none pos.line X.env = pure false := by rfl) (hd : (x == ("__debug__" : Str)) = false := by decide) (hcd : (x == ("__classdict__" : Str)) = false := by decide)
    (hbase : attributeBase (.Name x px) "append" X.env (eval (.Name x px) X.env) = eval (.Name x px) X.env := by rfl)
    (hfew : ((backTo cp (starEach [e] X.env)).all (fun x => !x.1) && (backToKw cp (keywordEach [] X.env)).all (fun x => x.1.isSome) && decide (([e] : List Expr).length + ([] : List Keyword).length + (if ([] : List Keyword).isEmpty then 0 else 1) < 30)) = true := by rfl)
    (hline : (pa.endLine == cp.line) = true := by rfl) (hse : starEach [e] X.env = (false, eval e X.env) :: starEach [] X.env := by rfl) (hpl : (backTo cp (starEach [] X.env)).any (·.1) = false := by rfl) :
    Es X W (.Expr (.Call (.Attribute (.Name x px) "append" pa) [e] [] cp) pos) ρ D := by
  refine ⟨fun σ H B L => (ps_expr (pe_bm PySem.F.plainAttrs_list PySem.F.slot_list_append PySem.F.type_list_append mt_append (pe_var hN hv hd hcd) (pa_cons pe_w pa_nil hse) hbase hfew hline hse hpl) hs).toZ ?_⟩
  obtain ⟨p, vs, e1, e2, e3, e4, e5⟩ := L.at' i _ hρ
  refine ⟨.ref p, e1, .inl ⟨rfl, vs, SqL.of e4⟩, ?_⟩
  refine h.run σ H B _ L fun v H2 B2 d s2 L2 D2 h3 => ?_
  obtain ⟨p', vs', f1, f2, f3, f4, f5⟩ := L2.at' i _ hρ
  rw [e1] at f1
  cases f1
  exact ⟨p, vs', v, rfl, rfl, f4, by rw [dpAll_len f5]; exact h3.1, B2, _, s2, L2.chg hρ e1 (dpAll_app f5 (.cons D2 .nil)), h3.2⟩
/-- x[k] = v of an own list -/
theorem es_sub (i : Nat) {x : Str} {px p2 : Pos} {ds : List PyData} (hρ : ρ[i]? = some (.own ds)) (h : Ev X W e ρ fun d => Ev X W b ρ fun y => match y with | .int z => ∃ j, ixN ds.length z = some j ∧ D.nx (ρ.set i (.own (ds.set j d))) | _ => False) (hN : X.N[i]? = some x := by rfl)
    (hv : Vis X.env.scope x := by first | exact Or.inl rfl | exact Or.inr (Or.inl rfl) | exact Or.inr (Or.inr rfl)) (hd : (x == ("__debug__" : Str)) = false := by decide) (hcd : (x == ("__classdict__" : Str)) = false := by decide)
    (ha : ∀ v, assign (.Subscript (.Name x px) b p2) X.env v = (do
      let ov ← holding [v] (eval (.Name x px) X.env)
      let iv ← holding [v, ov] (eval b X.env)
      standAt p2
      holding [v, ov, iv] (setItem ov iv v)
      release [v, ov, iv] []) := by intro _; rfl) (hs : swapsWithSole [.Subscript (.Name x px) b p2] e pos.line X.env = pure false := by rfl) (hw : swappedStores [.Subscript (.Name x px) b p2] e X.env = pure none := by rfl)
    (h1 : (assignEach [.Subscript (.Name x px) b p2] X.env).map (·.2) = [assign (.Subscript (.Name x px) b p2) X.env] := by rfl) : Es X W (.Assign [.Subscript (.Name x px) b p2] e pos) ρ D := by
  refine ⟨fun σ H B L => (ps_asg pe_w (pg_sub (pe_var hN hv hd hcd) pe_w set_list ha) hs hw h1).toZ ?_⟩
  refine h.run σ H B _ L fun v H1 B1 d s1 L1 D1 h2 => ?_
  obtain ⟨p, vs, e1, e2, e3, e4, e5⟩ := L1.at' i _ hρ
  refine ⟨.ref p, e1, ?_⟩
  refine h2.run σ H1 B1 _ L1 fun u H2 B2 y s2 L2 D2 h3 => ?_
  cases y <;> first | exact h3.elim | skip
  rename_i z
  obtain ⟨j, hj, hn⟩ := h3
  obtain ⟨p', vs', f1, f2, f3, f4, f5⟩ := L2.at' i _ hρ
  rw [e1] at f1
  cases f1
  exact ⟨p, vs', z, j, rfl, dp_int D2, f4, by rw [dpAll_len f5]; exact hj, B2, _, s1.trans s2, L2.chg hρ e1 (dpAll_set (dpMono s2 _ _ D1) j f5), hn⟩

/-! ### while -/
theorem es_while (P : Nat → List Sl → Prop) (m : Nat) (h0 : P m ρ) (hp : PassesOwn (model X.prog X.w) X.A X.env X.xe)
    (h : ∀ m ρ, P m ρ → Et X W c ρ fun k => (k = true → Ess X W body ρ { nx := fun r => ∃ m', m' < m ∧ P m' r, rt := D.rt, bk := D.nx, ct := fun r => ∃ m', m' < m ∧ P m' r }) ∧ (k = false → D.nx ρ)) : Es X W (.While c body [] pos) ρ D := by
  refine ⟨fun σ H B L => (ps_while hp pt_w pss_w).toZ ?_⟩
  refine ⟨fun m σ H => ∃ B' ρ, Same B B' ∧ Lay X.K W B' H σ ρ ∧ P m ρ, ⟨m, B, ρ, Same.refl _, L, h0⟩, ?_⟩
  rintro m σ H ⟨B', ρ, sB, L, hP⟩
  refine (h m ρ hP).run σ H B' _ L fun k H1 B1 s L1 q => ?_
  cases k with
  | true =>
    rw [if_pos rfl]
    refine ⟨fun σ' H' => ∃ B' ρ, Same B B' ∧ Lay X.K W B' H' σ' ρ ∧ ∃ m', m' < m ∧ P m' ρ, fun σ' H' ⟨B', ρ, s', L, m', hm, hP⟩ => ⟨m', hm, B', ρ, s', L, hP⟩, ?_⟩
    exact tWss.back (sB.trans s) ((q.1 rfl).run σ H1 B1 L1)
  | false =>
    rw [if_neg Bool.false_ne_true]
    exact ⟨B1, ρ, sB.trans s, L1, q.2 rfl⟩

/-! ### what is walked -/
structure WalkZ (K : PySem.W.Frag) (J : It) (ds : List PyData) (B : Hp) : Prop where
  go : ∀ i B' H', Same B B' → Same B' H' → i < ds.length → J.go i H'
  stop : ∀ B' H', Same B B' → Same B' H' → J.stop ds.length H'
  yld : ∀ i B' H' x H'' (W : Wd) (σ : L2.St) (ρ : List Sl), Same B B' → Lay K W B' H' σ ρ → J.yld i H' x H'' → i < ds.length → ∃ d B'', ds[i]? = some d ∧ Same B' B'' ∧ Lay K W B'' H'' σ ρ ∧ Dq K B'' x d ∧ (∀ b o, H' b = some o → H'' b = some o) ∧ ∀ b o, H' b = some o → B' b = none → B'' b = none
def iW (X : Cx) (tg iter : Expr) : TI := fun σ H R => ∀ (pins : List (Addr × Obj)) (s : Shared), Inv X pins σ H s → wpAny (model X.prog X.w) X.A (eval iter X.env) (fun v s1 => wpAny (model X.prog X.w) X.A (pyIter v) (PIE X pins σ tg R) X.xe s1) X.xe s
theorem pi_w {tg iter : Expr} : PI X tg iter (iW X tg iter) := ⟨fun pins s σ H R I h => h pins s I⟩
theorem _root_.L2.PI.toZ {tg iter : Expr} {t : TI} (h : PI X tg iter t) {σ H R} (q : t σ H R) : iW X tg iter σ H R := fun pins s I => h.run pins s σ H R I q
structure Ei (X : Cx) (W : Wd) (tg iter : Expr) (ρ : List Sl) (R : List PyData → Prop) : Prop where
  run : ∀ (σ : L2.St) (H B : Hp) (Q : It → Hp → Prop), Lay X.K W B H σ ρ → (∀ J H' B' ds, Same B B' → Lay X.K W B' H' σ ρ → WalkZ X.K J ds B' → R ds → Q J H') → iW X tg iter σ H Q
theorem walk_list {K : PySem.W.Frag} {p : Addr} {vs : List V} {ds : List PyData} {B : Hp} (h : B p = some (.lst vs)) (hd : DqAll K B vs ds) : WalkZ K (Itl K p) ds B where
  go := fun i B' H' s s' hi => by
    rw [← dpAll_len hd] at hi
    exact ⟨vs, vs[i], SqL.of (s' _ _ (s _ _ h)), by simp [hi]⟩
  stop := fun B' H' s s' => ⟨vs, SqL.of (s' _ _ (s _ _ h)), by rw [dpAll_len hd]; exact Nat.le_refl _⟩
  yld := fun i B' H' x H'' W σ ρ s L hy hi => by
    obtain ⟨e, hx⟩ := hy
    subst e
    have hx := hx vs (SqL.of (L.gr.sub _ _ (s _ _ h)))
    obtain ⟨v, h1, h2⟩ := dpAll_get hd (List.getElem?_eq_getElem hi)
    rw [hx] at h1
    cases h1
    exact ⟨_, B', List.getElem?_eq_getElem hi, Same.refl _, L, dpMono s _ _ h2, fun _ _ q => q, fun _ _ _ q => q⟩
theorem walk_tup {K : PySem.W.Frag} {p : Addr} {vs : List V} {ds : List PyData} {B : Hp} (h : SqT K B p vs) (hd : DqAll K B vs ds) : WalkZ K (Itt K p) ds B where
  go := fun i B' H' s s' hi => by
    rw [← dpAll_len hd] at hi
    exact ⟨vs, vs[i], seqT (s.trans s') h, by simp [hi]⟩
  stop := fun B' H' s s' => ⟨vs, seqT (s.trans s') h, by rw [dpAll_len hd]; exact Nat.le_refl _⟩
  yld := fun i B' H' x H'' W σ ρ s L hy hi => by
    obtain ⟨e, hx⟩ := hy
    subst e
    have hx := hx vs (seqT (s.trans L.gr.sub) h)
    obtain ⟨v, h1, h2⟩ := dpAll_get hd (List.getElem?_eq_getElem hi)
    rw [hx] at h1
    cases h1
    exact ⟨_, B', List.getElem?_eq_getElem hi, Same.refl _, L, dpMono s _ _ h2, fun _ _ q => q, fun _ _ _ q => q⟩
/-- lo, lo + 1, .. -/
def rngD (lo : Int) (n : Nat) : List PyData := (List.range n).map fun i => .int (lo + (i : Nat))
theorem rngD_len {lo : Int} {n : Nat} : (rngD lo n).length = n := by simp [rngD]
theorem rngD_get {lo : Int} {n i : Nat} (h : i < n) : (rngD lo n)[i]? = some (.int (lo + (i : Nat))) := by simp [rngD, h]
theorem walk_rng {K : PySem.W.Frag} {lo : Int} {n : Nat} {B : Hp} : WalkZ K (Itr lo n) (rngD lo n) B where
  go := fun i B' H' s s' hi => by
    rw [rngD_len] at hi
    exact hi
  stop := fun B' H' s s' => by
    show n ≤ (rngD lo n).length
    rw [rngD_len]
    exact Nat.le_refl _
  yld := fun i B' H' x H'' W σ ρ s L hy hi => by
    obtain ⟨e, hx⟩ := hy
    subst e
    rw [rngD_len] at hi
    exact ⟨_, B', rngD_get hi, Same.refl _, L, by rw [hx]; exact .int _, fun _ _ q => q, fun _ _ _ q => q⟩
theorem ei_list {tg : Expr} {R : List PyData → Prop} (h : Ev X W e ρ fun d => match d with | .list ds => R ds | _ => False) : Ei X W tg e ρ R := by
  refine ⟨fun σ H B Q L k => (pi_list pe_w).toZ ?_⟩
  refine h.run σ H B _ L fun v H1 B1 d s1 L1 D1 h2 => ?_
  cases d <;> first | exact h2.elim | skip
  obtain ⟨p, vs, rfl, h3, h4⟩ := dp_list D1
  exact ⟨p, rfl, ⟨vs, SqL.of (L1.gr.sub _ _ h3)⟩, k _ H1 B1 _ s1 L1 (walk_list h3 h4) h2⟩
theorem ei_tup {tg : Expr} {R : List PyData → Prop} (h : Ev X W e ρ fun d => match d with | .tuple ds => R ds | _ => False) : Ei X W tg e ρ R := by
  refine ⟨fun σ H B Q L k => (pi_tup pe_w).toZ ?_⟩
  refine h.run σ H B _ L fun v H1 B1 d s1 L1 D1 h2 => ?_
  cases d <;> first | exact h2.elim | skip
  obtain ⟨p, vs, rfl, h3, h4⟩ := dp_tup D1
  exact ⟨p, rfl, ⟨vs, seqT L1.gr.sub h3⟩, k _ H1 B1 _ s1 L1 (walk_tup h3 h4) h2⟩
theorem ei_range1 {tg : Expr} {p : Pos} {R : List PyData → Prop} (hm : X.mg "range" = none) (h : Ev X W a ρ fun d => match d with | .int j => -(2 ^ 62) ≤ j ∧ j < 2 ^ 62 ∧ R (rngD 0 j.toNat) | _ => False) (hg : Gl X "range" := by rfl)
    (hs : starEach [a] X.env = [(false, eval a X.env)] := by rfl) : Ei X W tg (.Call (.Name "range" p) [a] [] pos) ρ R := by
  refine ⟨fun σ H B Q L k => (pi_range1 hg hm (pa_cons pe_w pa_nil hs) hs).toZ ?_⟩
  refine h.run σ H B _ L fun v H1 B1 d s1 L1 D1 h2 => ?_
  cases d <;> first | exact h2.elim | skip
  rename_i j
  cases dp_int D1
  exact ⟨j, rfl, h2.1, h2.2.1, k _ H1 B1 _ s1 L1 walk_rng h2.2.2⟩
theorem ei_range2 {tg : Expr} {p : Pos} {R : List PyData → Prop} (hm : X.mg "range" = none)
    (h : Ev X W a ρ fun d => Ev X W b ρ fun d' => match d, d' with | .int i, .int j => (-(2 ^ 62) ≤ i ∧ i < 2 ^ 62 ∧ -(2 ^ 62) ≤ j ∧ j < 2 ^ 62) ∧ R (rngD i (j - i).toNat) | _, _ => False) (hg : Gl X "range" := by rfl)
    (hs : starEach [a, b] X.env = [(false, eval a X.env), (false, eval b X.env)] := by rfl) (hs2 : starEach [b] X.env = [(false, eval b X.env)] := by rfl) (hs3 : starEach [a, b] X.env = (false, eval a X.env) :: starEach [b] X.env := by rfl) : Ei X W tg (.Call (.Name "range" p) [a, b] [] pos) ρ R := by
  refine ⟨fun σ H B Q L k => (pi_range2 hg hm (pa_cons pe_w (pa_cons pe_w pa_nil hs2) hs3) hs hs2).toZ ?_⟩
  refine h.run σ H B _ L fun v H1 B1 d s1 L1 D1 h2 => ?_
  refine h2.run σ H1 B1 _ L1 fun u H2 B2 d' s2 L2 D2 h3 => ?_
  cases d <;> cases d' <;> first | exact h3.elim | skip
  rename_i i j
  cases dp_int D1
  cases dp_int D2
  exact ⟨i, j, rfl, h3.1, k _ H2 B2 _ (s1.trans s2) L2 walk_rng h3.2⟩
theorem es_for {tg iter : Expr} (hp : PassesOwn (model X.prog X.w) X.A X.env X.xe) (hc : X.calm = true)
    (h : Ei X W tg iter ρ fun ds => ∃ P : Nat → List Sl → Prop, P 0 ρ ∧ (∀ i d ρ1, ds[i]? = some d → P i ρ1 → Tg X W tg d ρ1 fun ρ2 => Ess X W body ρ2 { nx := P (i + 1), rt := D.rt, bk := D.nx, ct := P (i + 1) }) ∧ ∀ ρ1, P ds.length ρ1 → D.nx ρ1)
    (hs : ∀ x, foldedSetIterable iter X.env x = pure x := by intro _; rfl) : Es X W (.For tg iter body [] pos) ρ D := by
  refine ⟨fun σ H B L => (ps_for hp hc pi_w pg_w pss_w hs).toZ ?_⟩
  refine h.run σ H B _ L fun J H1 B1 ds s1 L1 wk hP => ?_
  obtain ⟨P, p0, turn, fin⟩ := hP
  refine ⟨fun i m σ H => m = ds.length - i ∧ i ≤ ds.length ∧ ∃ B' ρ, Same B1 B' ∧ Lay X.K W B' H σ ρ ∧ P i ρ, ⟨_, rfl, Nat.zero_le _, B1, ρ, Same.refl _, L1, p0⟩, ?_⟩
  rintro i m σ H ⟨rfl, hi, B', ρ1, sB, L, hPi⟩
  by_cases hlt : i < ds.length
  · refine .inr ⟨wk.go i B' H sB L.gr.sub hlt, fun σ' H' => ∃ B'' ρ', Same B B'' ∧ Lay X.K W B'' H' σ' ρ' ∧ Same B1 B'' ∧ P (i + 1) ρ', fun σ' H' ⟨B'', ρ', _, L', sB', hP'⟩ => ⟨ds.length - (i + 1), by omega, rfl, hlt, B'', ρ', sB', L', hP'⟩, fun x H' hy => ?_⟩
    obtain ⟨d, B'', hd, s'', L'', Dx, _⟩ := wk.yld i B' H x H' W σ ρ1 sB L hy hlt
    refine (turn i d ρ1 hd hPi).run x σ H' B'' _ L'' Dx fun σ2 H2 B2 ρ2 s2 L2 hb => ?_
    intro pins s0 I
    have sb : Same B1 B2 := (sB.trans s'').trans s2
    refine thn (hb.run σ2 H2 B2 L2 pins s0 I) fun f s' q => ?_
    cases f with
    | next => obtain ⟨σ', H', I', B3, ρ', s3, L3, q⟩ := q; exact ⟨σ', H', I', B3, ρ', s1.trans (sb.trans s3), L3, sb.trans s3, q⟩
    | brk => obtain ⟨σ', H', I', B3, ρ', s3, L3, q⟩ := q; exact ⟨σ', H', I', B3, ρ', s1.trans (sb.trans s3), L3, q⟩
    | cont => obtain ⟨σ', H', I', B3, ρ', s3, L3, q⟩ := q; exact ⟨σ', H', I', B3, ρ', s1.trans (sb.trans s3), L3, sb.trans s3, q⟩
    | ret u => exact q
  · have e : i = ds.length := by omega
    subst e
    exact .inl ⟨wk.stop B' H sB L.gr.sub, B', ρ1, s1.trans sB, L, fin ρ1 hPi⟩
end
end Z

namespace Z
open PySem PySem.Spec PyProof.Rows L2

/-! ### comprehensions -/
@[reducible] def Sl.lent : Sl → Sl
  | .own _ => .no
  | .dic _ => .no
  | .dct _ => .no
  | .obj a dx C fs => .obk a dx C fs
  | s => s
def disown (ρ : List Sl) : List Sl := ρ.map Sl.lent
def setZ (ρ : List Sl) : List Nat → List PyData → List Sl
  | j :: js, d :: ds => setZ (ρ.set j (.im d)) js ds
  | _, _ => ρ
def setV (σ : L2.St) : List Nat → List V → L2.St
  | j :: js, v :: vs => setV (σ.set j (some v)) js vs
  | _, _ => σ
def wipeZ (ρ : List Sl) : List Nat → List Sl
  | [] => ρ
  | v :: vs => (wipeZ ρ vs).set v .no
theorem setV_len : ∀ (js : List Nat) (vs : List V) (σ : L2.St), (setV σ js vs).length = σ.length
  | [], _, _ => by unfold setV; rfl
  | _ :: _, [], _ => by unfold setV; rfl
  | j :: js, v :: vs, σ => by unfold setV; rw [setV_len js vs]; simp
theorem setV_out : ∀ (js : List Nat) (vs : List V) (σ : L2.St) (k : Nat), k ∉ js → (setV σ js vs)[k]? = σ[k]?
  | [], _, _, _, _ => by unfold setV; rfl
  | _ :: _, [], _, _, _ => by unfold setV; rfl
  | j :: js, v :: vs, σ, k, h => by
    unfold setV
    rw [setV_out js vs _ k (fun z => h (List.mem_cons_of_mem _ z)), List.getElem?_set_ne (fun z => h (by rw [z]; exact List.mem_cons_self))]
theorem wipe_out : ∀ (js : List Nat) (σ : L2.St) (k : Nat), k ∉ js → (wipe σ js)[k]? = σ[k]?
  | [], _, _, _ => rfl
  | j :: js, σ, k, h => by
    unfold wipe
    rw [List.getElem?_set_ne (fun z => h (by rw [z]; exact List.mem_cons_self)), wipe_out js σ k fun z => h (List.mem_cons_of_mem _ z)]
theorem wipe_in : ∀ (js : List Nat) (σ : L2.St) (k : Nat), k ∈ js → k < σ.length → (wipe σ js)[k]? = some none
  | j :: js, σ, k, h, hl => by
    unfold wipe
    by_cases e : j = k
    · subst e
      rw [List.getElem?_set_self (by rw [wipe_length]; exact hl)]
    · rw [List.getElem?_set_ne e]
      rcases List.mem_cons.mp h with z | z
      · exact absurd z.symm e
      · exact wipe_in js σ k z hl
theorem wipe_setV (js : List Nat) (vs : List V) (σ : L2.St) : wipe (setV (wipe σ js) js vs) js = wipe σ js := by
  apply List.ext_getElem?
  intro k
  have el : (setV (wipe σ js) js vs).length = σ.length := by rw [setV_len, wipe_length]
  by_cases h : k ∈ js
  · by_cases hl : k < σ.length
    · rw [wipe_in js _ k h (by rw [el]; exact hl), wipe_in js _ k h hl]
    · rw [List.getElem?_eq_none (by rw [wipe_length, el]; omega), List.getElem?_eq_none (by rw [wipe_length]; omega)]
  · rw [wipe_out js _ k h, setV_out js _ _ k h]
section
variable {K : PySem.W.Frag} {W : Wd} {B B' H H' : Hp} {σ : L2.St} {ρ : List Sl}
theorem Lay.wipes (L : Lay K W B H σ ρ) : ∀ js : List Nat, Lay K W B H (wipe σ js) (wipeZ ρ js)
  | [] => L
  | j :: js => (L.wipes js).wipe1 j
theorem Lay.sets : ∀ {js : List Nat} {ds : List PyData} {vs : List V} {σ : L2.St} {ρ : List Sl}, Lay K W B H σ ρ → DqAll K B vs ds → Lay K W B H (setV σ js vs) (setZ ρ js ds)
  | [], _, _, _, _, L, _ => by unfold setV setZ; exact L
  | j :: js, [], _, _, _, L, h => by cases h; unfold setV setZ; exact L
  | j :: js, d :: ds, _, σ, ρ, L, h => by
    cases h with
    | cons h1 h2 =>
      unfold setV setZ
      exact Lay.sets (L.put h1) h2
/-- the frame seen by code that owns nothing of it -/
theorem Lay.loan (L : Lay K W B H σ ρ) : Lay K ⟨W.T, W.ns, B, H⟩ B H σ (disown ρ) := by
  refine ⟨Gr.refl L.gr.sub fun a h => (L.gr.tp a h).2, by simp [disown, L.len], fun i sl e => ?_, fun i j s t hne e1 e2 o1 o2 => ?_⟩
  · unfold disown at e
    rw [List.getElem?_map] at e
    cases q : ρ[i]? with
    | none => rw [q] at e; cases e
    | some s0 =>
      rw [q] at e
      have e : s0.lent = sl := Option.some.inj e
      cases s0 with
      | no => subst e; trivial
      | im d => subst e; exact L.at' i _ q
      | own ds => subst e; trivial
      | dic ds => subst e; trivial
      | dct ds => subst e; trivial
      | dcf ds => subst e; exact L.at' i _ q
      | tape => subst e; exact L.at' i _ q
      | obj a dx C fs =>
        subst e
        obtain ⟨fv, h1, h2, h3, h4, h5⟩ := L.at' i _ q
        exact ⟨fv, h1, .inr ⟨h4, fun z => (L.gr.tp a z).1 h3⟩, h5⟩
      | obk a dx C fs =>
        subst e
        obtain ⟨fv, h1, h2, h5⟩ := L.at' i _ q
        exact ⟨fv, h1, h2.elim .inl (fun h => .inr ⟨L.gr.keep a _ h.1 h.2, h.2⟩), h5⟩
      | ptr a => subst e; exact L.at' i _ q
  · unfold disown at e1
    rw [List.getElem?_map] at e1
    cases q : ρ[i]? with
    | none => rw [q] at e1; cases e1
    | some s0 =>
      rw [q] at e1
      have e : s0.lent = s := Option.some.inj e1
      subst e
      cases s0 <;> cases o1
/-- an object of nobody's changes -/
theorem Lay.other (L : Lay K W B H σ ρ) {p : Addr} (o : HO) (h1 : B p = none) (h2 : W.H0 p = none) (h3 : ∀ (j : Nat) (sl : Sl), ρ[j]? = some sl → sl.ow = true → σ[j]? ≠ some (some (.ref p))) : Lay K W B (upd H p o) σ ρ := by
  refine ⟨⟨same_right L.gr.sub h1, L.gr.base, L.gr.new, fun a u q1 q2 => ?_, fun T q => ?_⟩, L.len, fun i sl e => (L.at' i sl e).grow (Same.refl _) fun a u g1 g2 g3 _ g5 => ⟨g3, ?_⟩, L.dis⟩
  · have ha : a ≠ p := by
      rintro rfl
      rw [h2] at q1
      cases q1
    rw [upd_ne ha]
    exact L.gr.keep a u q1 q2
  · obtain ⟨t1, t2⟩ := L.gr.tp T q
    have ht : T ≠ p := by
      rintro rfl
      exact t1 h2
    exact ⟨t1, t2.mono (Same.refl _) t2.1 fun o ho => by rw [upd_ne ht]; exact ho⟩
  · have ha : a ≠ p := by
      rintro rfl
      exact h3 i sl e g2 g1
    rw [upd_ne ha]
    exact g5
end
/-- readings over data, whatever the world (its tape being T) -/
def TtZ (K : PySem.W.Frag) (T : Option Addr) (tt : TT) (ρ : List Sl) (R : Bool → Prop) : Prop := ∀ W : Wd, W.T = T → ∀ (σ : L2.St) (H B : Hp) (Q : Bool → Hp → Prop), Lay K W B H σ ρ → (∀ b H' B', Same B B' → Lay K W B' H' σ ρ → R b → Q b H') → tt σ H Q
def TeZ (K : PySem.W.Frag) (T : Option Addr) (te : TE) (ρ : List Sl) (R : PyData → Prop) : Prop := ∀ W : Wd, W.T = T → ∀ (σ : L2.St) (H B : Hp) (Q : VK), Lay K W B H σ ρ → (∀ v H' B' d, Same B B' → Lay K W B' H' σ ρ → Dq K B' v d → R d → Q v H') → te σ H Q
/-- a target that takes data apart into the slots js -/
def GgZ (K : PySem.W.Frag) (g : TG) (js : List Nat) (dec : PyData → Option (List PyData)) : Prop := ∀ (B H : Hp) (σ : L2.St) (v : V) (d : PyData) (ds : List PyData) (Q : L2.St → Hp → Prop), Same B H → Dq K B v d → dec d = some ds → (∀ vs, DqAll K B vs ds → Q (setV σ js vs) H) → g v σ H Q
section
variable {X : Cx} {W : Wd} {ρ : List Sl} {D : Dz} {pos : Pos} {a b c e : Expr} {es : List Expr} {st : Stmt} {sts body : List Stmt}
theorem lc_runG {wi : TI} {js : List Nat} {g : TG} {tt : TT} {te : TE} {dec : PyData → Option (List PyData)} (gz : GgZ X.K g js dec) {R : List PyData → Prop}
    (h : ∀ (σ : L2.St) (H B : Hp) (Q : It → Hp → Prop), Lay X.K W B H σ ρ → (∀ J H' B' ds, Same B B' → Lay X.K W B' H' σ ρ → WalkZ X.K J ds B' → (ds.length ≤ sizeLine ∧ ∃ P : Nat → List PyData → Prop, P 0 [] ∧ (∀ i d acc, ds[i]? = some d → P i acc → acc.length ≤ i → ∃ xs, dec d = some xs ∧
      TtZ X.K W.T tt (setZ (disown (wipeZ ρ js)) js xs) fun k => (k = true → TeZ X.K W.T te (setZ (disown (wipeZ ρ js)) js xs) fun y => P (i + 1) (acc ++ [y])) ∧ (k = false → P (i + 1) acc)) ∧ ∀ acc, P ds.length acc → acc.length ≤ ds.length → R acc) → Q J H') → wi σ H Q)
    {σ : L2.St} {H B : Hp} {Q : VK} (L : Lay X.K W B H σ ρ)
    (k : ∀ a vs H' B' ds, Same B B' → Lay X.K W B' H' σ ρ → B' a = none → W.H0 a = none → (∀ (i : Nat) (sl : Sl), ρ[i]? = some sl → sl.ow = true → σ[i]? ≠ some (some (.ref a))) → H' a = some (.lst vs) → DqAll X.K B' vs ds → R ds → Q (.ref a) H') :
    tLc wi g tt te js σ H Q := by
  refine h σ H B _ L fun J H1 B1 ds s1 L1 wk hP p hp => ?_
  obtain ⟨hlen, P, p0, turn, fin⟩ := hP
  obtain ⟨L2', b0, h0, own0, e0⟩ := fresh_own L1 hp [] [] .nil
  have hT : W.T ≠ some p := fun z => (L1.gr.tp p z).1 h0
  refine ⟨fun i m H => m = ds.length - i ∧ i ≤ ds.length ∧ ∃ B vs acc, Same B1 B ∧ B p = none ∧ H p = some (.lst vs) ∧ DqAll X.K B vs acc ∧ acc.length ≤ i ∧ Lay X.K W B H σ ρ ∧ P i acc,
    ⟨_, rfl, Nat.zero_le _, B1, [], [], Same.refl _, b0, e0, .nil, Nat.le_refl _, L2', p0⟩, ?_⟩
  rintro i m H ⟨rfl, hi, B2, vs, acc, sB, bp, hpv, da, hal, L, hPi⟩
  by_cases hlt : i < ds.length
  · refine .inr ⟨wk.go i B2 H sB L.gr.sub hlt, fun H' => ∃ B vs acc, Same B1 B ∧ B p = none ∧ H' p = some (.lst vs) ∧ DqAll X.K B vs acc ∧ acc.length ≤ i + 1 ∧ Lay X.K W B H' σ ρ ∧ P (i + 1) acc,
      fun H' hN => ⟨ds.length - (i + 1), by omega, rfl, hlt, hN⟩, fun x H' hy => ?_⟩
    obtain ⟨d, B3, hd, s3, L3, Dx, kp, kn⟩ := wk.yld i B2 H x H' W σ ρ sB L hy hlt
    have hp3 : H' p = some (.lst vs) := kp _ _ hpv
    have bp3 : B3 p = none := kn p _ hpv bp
    obtain ⟨xs, hdec, ht⟩ := turn i d acc hd hPi hal
    have L4 : Lay X.K ⟨W.T, W.ns, B3, H'⟩ B3 H' (wipe σ js) (disown (wipeZ ρ js)) := Lay.loan (W := W) (L3.wipes js)
    refine gz B3 H' (wipe σ js) x d xs _ L4.gr.sub Dx hdec fun us hus => ⟨wipe_setV _ _ _, ?_⟩
    have L5 := L4.sets (js := js) hus
    -- behind the block's code
    have back : ∀ {B4 H4 : Hp} {σ4 : L2.St} {ρ4 : List Sl}, Lay X.K ⟨W.T, W.ns, B3, H'⟩ B4 H4 σ4 ρ4 → Same B3 B4 ∧ Lay X.K W B4 H4 σ ρ ∧ B4 p = none ∧ H4 p = some (.lst vs) := fun {B4 H4 σ4 ρ4} L6 => by
      obtain ⟨s, L7⟩ := L3.called (.inr ⟨rfl, rfl⟩) L6.gr
      exact ⟨s, L7, L6.gr.new p (by show H' p ≠ none; rw [hp3]; exact fun z => by cases z) bp3, L6.gr.keep p _ hp3 (by show W.T ≠ some p; exact hT)⟩
    refine ht ⟨W.T, W.ns, B3, H'⟩ rfl _ _ _ _ L5 fun kk H4 B4 s4 L6 hq => ?_
    cases kk with
    | true =>
      rw [if_pos rfl]
      refine hq.1 rfl ⟨W.T, W.ns, B3, H'⟩ rfl _ _ _ _ L6 fun y H5 B5 dy s5 L7 Dy hy => ?_
      obtain ⟨s6, L8, b8, h8⟩ := back L7
      refine ⟨vs, h8, by rw [dpAll_len da]; omega, B5, vs ++ [y], acc ++ [dy], (sB.trans s3).trans s6, b8, upd_same, dpAll_app (dpAllMono (s3.trans s6) _ _ da) (.cons Dy .nil), by simp; omega, L8.other _ b8 h0 own0, hy⟩
    | false =>
      rw [if_neg Bool.false_ne_true]
      obtain ⟨s6, L8, b8, h8⟩ := back L6
      exact ⟨B4, vs, acc, (sB.trans s3).trans s6, b8, h8, dpAllMono (s3.trans s6) _ _ da, by omega, L8, hq.2 rfl⟩
  · have ei : i = ds.length := by omega
    subst ei
    exact .inl ⟨wk.stop B2 H sB L.gr.sub, k p vs H B2 acc (s1.trans sB) L bp h0 own0 hpv da (fin acc hPi hal)⟩
theorem lc_run {tg iter : Expr} {js : List Nat} {g : TG} {tt : TT} {te : TE} {dec : PyData → Option (List PyData)} (gz : GgZ X.K g js dec) {R : List PyData → Prop}
    (h : Ei X W tg iter ρ fun ds => ds.length ≤ sizeLine ∧ ∃ P : Nat → List PyData → Prop, P 0 [] ∧ (∀ i d acc, ds[i]? = some d → P i acc → acc.length ≤ i → ∃ xs, dec d = some xs ∧
      TtZ X.K W.T tt (setZ (disown (wipeZ ρ js)) js xs) fun k => (k = true → TeZ X.K W.T te (setZ (disown (wipeZ ρ js)) js xs) fun y => P (i + 1) (acc ++ [y])) ∧ (k = false → P (i + 1) acc)) ∧ ∀ acc, P ds.length acc → acc.length ≤ ds.length → R acc)
    {σ : L2.St} {H B : Hp} {Q : VK} (L : Lay X.K W B H σ ρ)
    (k : ∀ a vs H' B' ds, Same B B' → Lay X.K W B' H' σ ρ → B' a = none → W.H0 a = none → (∀ (i : Nat) (sl : Sl), ρ[i]? = some sl → sl.ow = true → σ[i]? ≠ some (some (.ref a))) → H' a = some (.lst vs) → DqAll X.K B' vs ds → R ds → Q (.ref a) H') :
    tLc (iW X tg iter) g tt te js σ H Q := lc_runG gz (fun σ H B Q L k => h.run σ H B Q L k) L k
/-! targets -/
def dec1 : PyData → Option (List PyData) := fun d => some [d]
def decT (n : Nat) : PyData → Option (List PyData)
  | .tuple ds => if ds.length = n then some ds else none
  | _ => none
theorem gg_name {K : PySem.W.Frag} (i : Nat) : GgZ K (gName i) [i] dec1 := fun B H σ v d ds Q s Dv e k => by
  cases e
  exact k [v] (.cons Dv .nil)
def gNames : List Nat → TGs
  | [] => gNil
  | j :: js => gCons (gName j) (gNames js)
theorem gg_names {K : PySem.W.Frag} {B H : Hp} : ∀ (js : List Nat) (ds : List PyData) (vs : List V) (σ : L2.St) (Q : L2.St → Hp → Prop), js.length = ds.length → DqAll K B vs ds → Q (setV σ js vs) H → gNames js vs σ H Q
  | [], [], _, _, _, _, h, q => by cases h; exact ⟨rfl, q⟩
  | j :: js, d :: ds, _, σ, Q, hl, h, q => by
    cases h with
    | cons h1 h2 => exact ⟨_, _, rfl, gg_names js ds _ _ Q (by simpa using hl) h2 q⟩
theorem gg_tup {K : PySem.W.Frag} (js : List Nat) : GgZ K (gTup K js.length (gNames js)) js (decT js.length) := fun B H σ v d ds Q s Dv e k => by
  cases d with
  | tuple xs =>
    have e1 : (if xs.length = js.length then some xs else none) = some ds := e
    by_cases hl : xs.length = js.length
    · rw [if_pos hl] at e1
      have e2 : xs = ds := Option.some.inj e1
      subst e2
      obtain ⟨p, vs, rfl, h1, h2⟩ := dp_tup Dv
      exact ⟨p, vs, rfl, seqT s h1, by rw [dpAll_len h2]; exact hl, gg_names js xs vs σ Q hl.symm h2 (k vs h2)⟩
    · rw [if_neg hl] at e1
      exact absurd e1 (by simp)
  | none => exact absurd (show (none : Option (List PyData)) = some ds from e) (by simp)
  | bool _ => exact absurd (show (none : Option (List PyData)) = some ds from e) (by simp)
  | int _ => exact absurd (show (none : Option (List PyData)) = some ds from e) (by simp)
  | str _ => exact absurd (show (none : Option (List PyData)) = some ds from e) (by simp)
  | list _ => exact absurd (show (none : Option (List PyData)) = some ds from e) (by simp)
  | dict _ => exact absurd (show (none : Option (List PyData)) = some ds from e) (by simp)
/-- a block of the comprehension -/
abbrev Blk (X : Cx) (scope : Scope) (Y : Cx) : Prop := ∃ (s : Shared) (H : Hp) (C : Addr) (cl : List (Str × Addr)) (fp : List Addr), Y = X.blk s H scope (compEnvC scope cl C X.env) fp
def teB (X : Cx) (scope : Scope) (e : Expr) : TE := fun σ H Q => ∀ Y, Blk X scope Y → tW Y e σ H Q
def ttB (X : Cx) (scope : Scope) (e : Expr) : TT := fun σ H Q => ∀ Y, Blk X scope Y → tWt Y e σ H Q
theorem teZ {scope : Scope} {T : Option Addr} {R : PyData → Prop} (h : ∀ Y, Blk X scope Y → ∀ W : Wd, W.T = T → Ev Y W e ρ R) : TeZ X.K T (teB X scope e) ρ R := fun W hW σ H B Q L k Y hY => by
  have := h Y hY W hW
  obtain ⟨s, H0, C, cl, fp, rfl⟩ := hY
  exact this.run σ H B Q L k
theorem ttZ {scope : Scope} {T : Option Addr} {R : Bool → Prop} (h : ∀ Y, Blk X scope Y → ∀ W : Wd, W.T = T → Et Y W e ρ R) : TtZ X.K T (ttB X scope e) ρ R := fun W hW σ H B Q L k Y hY => by
  have := h Y hY W hW
  obtain ⟨s, H0, C, cl, fp, rfl⟩ := hY
  exact this.run σ H B Q L k
theorem ttYes {T : Option Addr} {K : PySem.W.Frag} {R : Bool → Prop} (h : R true) : TtZ K T tYes ρ R := fun W hW σ H B Q L k => k true H B (Same.refl _) L h
section
variable {tg iter elt : Expr} {scope : Scope} {own : List (Str × Nat)} {R : List PyData → Prop}
theorem blkE {s : Shared} {H : Hp} {C : Addr} {cl : List (Str × Addr)} {fp : List Addr} : PE (X.blk s H scope (compEnvC scope cl C X.env) fp) e (teB X scope e) := ⟨fun pins s0 _ _ _ I q => q _ ⟨s, H, C, cl, fp, rfl⟩ pins s0 I⟩
theorem blkT {s : Shared} {H : Hp} {C : Addr} {cl : List (Str × Addr)} {fp : List Addr} : PT (X.blk s H scope (compEnvC scope cl C X.env) fp) e (ttB X scope e) := ⟨fun pins s0 _ _ _ I q => q _ ⟨s, H, C, cl, fp, rfl⟩ pins s0 I⟩
/-- what the walk of a comprehension without a test asks -/
def LcA (X : Cx) (W : Wd) (tg iter elt : Expr) (scope : Scope) (ρ : List Sl) (js : List Nat) (dec : PyData → Option (List PyData)) (R : List PyData → Prop) : Prop :=
  Ei X W tg iter ρ fun ds => ds.length ≤ sizeLine ∧ ∃ P : Nat → List PyData → Prop, P 0 [] ∧ (∀ i d acc, ds[i]? = some d → P i acc → acc.length ≤ i → ∃ xs, dec d = some xs ∧
      ∀ Y, Blk X scope Y → ∀ W' : Wd, W'.T = W.T → Ev Y W' elt (setZ (disown (wipeZ ρ js)) js xs) fun y => P (i + 1) (acc ++ [y])) ∧ ∀ acc, P ds.length acc → acc.length ≤ ds.length → R acc
/-- .. with one test -/
def LcI (X : Cx) (W : Wd) (tg iter elt c : Expr) (scope : Scope) (ρ : List Sl) (js : List Nat) (dec : PyData → Option (List PyData)) (R : List PyData → Prop) : Prop :=
  Ei X W tg iter ρ fun ds => ds.length ≤ sizeLine ∧ ∃ P : Nat → List PyData → Prop, P 0 [] ∧ (∀ i d acc, ds[i]? = some d → P i acc → acc.length ≤ i → ∃ xs, dec d = some xs ∧
      ∀ Y, Blk X scope Y → ∀ W' : Wd, W'.T = W.T → Et Y W' c (setZ (disown (wipeZ ρ js)) js xs) fun k =>
        (k = true → ∀ Y, Blk X scope Y → ∀ W' : Wd, W'.T = W.T → Ev Y W' elt (setZ (disown (wipeZ ρ js)) js xs) fun y => P (i + 1) (acc ++ [y])) ∧ (k = false → P (i + 1) acc)) ∧ ∀ acc, P ds.length acc → acc.length ≤ ds.length → R acc
theorem LcA.go {g : TG} {js : List Nat} {dec : PyData → Option (List PyData)} (gz : GgZ X.K g js dec) (h : LcA X W tg iter elt scope ρ js dec R)
    {σ : L2.St} {H B : Hp} {Q : VK} (L : Lay X.K W B H σ ρ)
    (k : ∀ a vs H' B' ds, Same B B' → Lay X.K W B' H' σ ρ → B' a = none → W.H0 a = none → (∀ (i : Nat) (sl : Sl), ρ[i]? = some sl → sl.ow = true → σ[i]? ≠ some (some (.ref a))) → H' a = some (.lst vs) → DqAll X.K B' vs ds → R ds → Q (.ref a) H') :
    tLc (iW X tg iter) g tYes (teB X scope elt) js σ H Q := by
  refine lc_run gz ⟨fun σ H B Q L k => Ei.run h σ H B Q L fun J H' B' ds s L' wk ⟨hl, P, p0, turn, fin⟩ => k J H' B' ds s L' wk ⟨hl, P, p0, fun i d acc h1 h2 h3 => ?_, fin⟩⟩ L k
  obtain ⟨xs, e1, e2⟩ := turn i d acc h1 h2 h3
  exact ⟨xs, e1, ttYes ⟨fun _ => teZ e2, fun z => by cases z⟩⟩
theorem LcI.go {g : TG} {js : List Nat} {dec : PyData → Option (List PyData)} (gz : GgZ X.K g js dec) (h : LcI X W tg iter elt c scope ρ js dec R)
    {σ : L2.St} {H B : Hp} {Q : VK} (L : Lay X.K W B H σ ρ)
    (k : ∀ a vs H' B' ds, Same B B' → Lay X.K W B' H' σ ρ → B' a = none → W.H0 a = none → (∀ (i : Nat) (sl : Sl), ρ[i]? = some sl → sl.ow = true → σ[i]? ≠ some (some (.ref a))) → H' a = some (.lst vs) → DqAll X.K B' vs ds → R ds → Q (.ref a) H') :
    tLc (iW X tg iter) g (ttB X scope c) (teB X scope elt) js σ H Q := by
  refine lc_run gz ⟨fun σ H B Q L k => Ei.run h σ H B Q L fun J H' B' ds s L' wk ⟨hl, P, p0, turn, fin⟩ => k J H' B' ds s L' wk ⟨hl, P, p0, fun i d acc h1 h2 h3 => ?_, fin⟩⟩ L k
  obtain ⟨xs, e1, e2⟩ := turn i d acc h1 h2 h3
  exact ⟨xs, e1, ttZ fun Y hY W' hW => (e2 Y hY W' hW).imp fun k hk => ⟨fun z => teZ (hk.1 z), hk.2⟩⟩
/-- [elt for x in iter] -/
theorem el_lc {g : TG} {js : List Nat} {dec : PyData → Option (List PyData)} (gz : GgZ X.K g js dec) (hg : ∀ (s : Shared) (H : Hp) (C : Addr) (cl : List (Str × Addr)) (fp : List Addr), PG (X.blk s H scope (compEnvC scope cl C X.env) fp) tg g)
    (hc : X.calm = true) (nd : X.N.Nodup) (ok : BlkOk X.N X.env.scope scope own) (ej : own.map (·.2) = js) (h : LcA X W tg iter elt scope ρ js dec R)
    (hs : ∀ x, foldedSetIterable iter X.env x = pure x := by intro _; rfl) : El X W (.ListComp elt [⟨tg, iter, [], 0⟩] scope pos) ρ R := by
  subst ej
  exact ⟨fun σ H B Q L k => (pe_lc hc nd pi_w ok hg (fun _ _ _ _ _ => pts_nil) (fun _ _ _ _ _ => blkE) hs).toZ (h.go gz L k)⟩
/-- [elt for x in iter if c] -/
theorem el_lcI {g : TG} {js : List Nat} {dec : PyData → Option (List PyData)} (gz : GgZ X.K g js dec) (hg : ∀ (s : Shared) (H : Hp) (C : Addr) (cl : List (Str × Addr)) (fp : List Addr), PG (X.blk s H scope (compEnvC scope cl C X.env) fp) tg g)
    (hc : X.calm = true) (nd : X.N.Nodup) (ok : BlkOk X.N X.env.scope scope own) (ej : own.map (·.2) = js) (h : LcI X W tg iter elt c scope ρ js dec R)
    (hs : ∀ x, foldedSetIterable iter X.env x = pure x := by intro _; rfl) : El X W (.ListComp elt [⟨tg, iter, [c], 0⟩] scope pos) ρ R := by
  subst ej
  exact ⟨fun σ H B Q L k => (pe_lc hc nd pi_w ok hg (fun _ _ _ _ _ => pts_one blkT) (fun _ _ _ _ _ => blkE) hs).toZ (h.go gz L k)⟩
/-- y = [..], y a plain local -/
theorem es_lc (i : Nat) {y : Str} {py spos : Pos} {g : TG} {js : List Nat} {dec : PyData → Option (List PyData)} (gz : GgZ X.K g js dec) (hg : ∀ (s : Shared) (H : Hp) (C : Addr) (cl : List (Str × Addr)) (fp : List Addr), PG (X.blk s H scope (compEnvC scope cl C X.env) fp) tg g)
    (hc : X.calm = true) (nd : X.N.Nodup) (ok : BlkOk X.N X.env.scope scope own) (ej : own.map (·.2) = js) (h : LcA X W tg iter elt scope ρ js dec fun ds => D.nx (ρ.set i (.own ds)))
    (hsw : swapsWith (.ListComp elt [⟨tg, iter, [], 0⟩] scope pos) (some (.Name y py)) spos.line X.env = pure true) (hy : X.N[i]? = some y := by rfl) (hyl : X.env.scope.names.lookup y = some .local := by rfl)
    (hs : ∀ x, foldedSetIterable iter X.env x = pure x := by intro _; rfl) : Es X W (.Assign [.Name y py] (.ListComp elt [⟨tg, iter, [], 0⟩] scope pos) spos) ρ D := by
  subst ej
  exact ⟨fun σ H B L => (ps_setLc hc nd hy hyl hsw pi_w ok hg (fun _ _ _ _ _ => pts_nil) (fun _ _ _ _ _ => blkE) hs).toZ (h.go gz L fun p vs H' B' ds s L' h1 h2 h3 h4 h5 r => ⟨B', _, s, L'.own h1 h2 h3 h4 h5, r⟩)⟩
theorem es_lcI (i : Nat) {y : Str} {py spos : Pos} {g : TG} {js : List Nat} {dec : PyData → Option (List PyData)} (gz : GgZ X.K g js dec) (hg : ∀ (s : Shared) (H : Hp) (C : Addr) (cl : List (Str × Addr)) (fp : List Addr), PG (X.blk s H scope (compEnvC scope cl C X.env) fp) tg g)
    (hc : X.calm = true) (nd : X.N.Nodup) (ok : BlkOk X.N X.env.scope scope own) (ej : own.map (·.2) = js) (h : LcI X W tg iter elt c scope ρ js dec fun ds => D.nx (ρ.set i (.own ds)))
    (hsw : swapsWith (.ListComp elt [⟨tg, iter, [c], 0⟩] scope pos) (some (.Name y py)) spos.line X.env = pure true) (hy : X.N[i]? = some y := by rfl) (hyl : X.env.scope.names.lookup y = some .local := by rfl)
    (hs : ∀ x, foldedSetIterable iter X.env x = pure x := by intro _; rfl) : Es X W (.Assign [.Name y py] (.ListComp elt [⟨tg, iter, [c], 0⟩] scope pos) spos) ρ D := by
  subst ej
  exact ⟨fun σ H B L => (ps_setLc hc nd hy hyl hsw pi_w ok hg (fun _ _ _ _ _ => pts_one blkT) (fun _ _ _ _ _ => blkE) hs).toZ (h.go gz L fun p vs H' B' ds s L' h1 h2 h3 h4 h5 r => ⟨B', _, s, L'.own h1 h2 h3 h4 h5, r⟩)⟩
end

/-! ### built-ins -/
@[reducible] def rLen : PyData → (PyData → Prop) → Prop
  | .list ds, R => R (.int (ds.length : Int))
  | .tuple ds, R => R (.int (ds.length : Int))
  | _, _ => False
@[reducible] def rSeq : PyData → (List PyData → Prop) → Prop
  | .list ds, R => R ds
  | .tuple ds, R => R ds
  | _, _ => False
theorem ev_len {p : Pos} {R : PyData → Prop} (hm : X.mg "len" = none) (h : Ev X W e ρ fun d => rLen d R) (hg : Gl X "len" := by rfl)
    (he : starEach [e] X.env = (false, eval e X.env) :: starEach [] X.env := by rfl) (hpl : (backTo pos (starEach [] X.env)).any (·.1) = false := by rfl) : Ev X W (.Call (.Name "len" p) [e] [] pos) ρ R := by
  refine ⟨fun σ H B Q L k => (pe_callB call_len_seq hg hm PySem.boot_len (pa_cons pe_w pa_nil he) (by decide) (by decide) he hpl).toZ ?_⟩
  refine h.run σ H B _ L fun v H1 B1 d s1 L1 D1 h2 => ?_
  cases d <;> first | exact h2.elim | skip
  · obtain ⟨q, vs, rfl, h3, h4⟩ := dp_list D1
    refine ⟨q, vs, rfl, .inl (SqL.of (L1.gr.sub _ _ h3)), ?_⟩
    rw [dpAll_len h4]
    exact k _ H1 B1 _ s1 L1 (.int _) h2
  · obtain ⟨q, vs, rfl, h3, h4⟩ := dp_tup D1
    refine ⟨q, vs, rfl, .inr (seqT L1.gr.sub h3), ?_⟩
    rw [dpAll_len h4]
    exact k _ H1 B1 _ s1 L1 (.int _) h2
theorem ev_lenOwn (i : Nat) {x : Str} {px : Pos} {p : Pos} {R : PyData → Prop} {ds : List PyData} (hm : X.mg "len" = none) (hρ : ρ[i]? = some (.own ds)) (h : R (.int (ds.length : Int))) (hN : X.N[i]? = some x := by rfl) (hv : Vis X.env.scope x := by first | exact Or.inl rfl | exact Or.inr (Or.inl rfl) | exact Or.inr (Or.inr rfl)) (hg : Gl X "len" := by rfl)
    (hd : (x == ("__debug__" : Str)) = false := by decide) (hcd : (x == ("__classdict__" : Str)) = false := by decide)
    (he : starEach [.Name x px] X.env = (false, eval (.Name x px) X.env) :: starEach [] X.env := by rfl) (hpl : (backTo pos (starEach [] X.env)).any (·.1) = false := by rfl) : Ev X W (.Call (.Name "len" p) [.Name x px] [] pos) ρ R := by
  refine ⟨fun σ H B Q L k => (pe_callB call_len_seq hg hm PySem.boot_len (pa_cons (pe_var hN hv hd hcd) pa_nil he) (by decide) (by decide) he hpl).toZ ?_⟩
  obtain ⟨q, vs, e1, e2, e3, e4, e5⟩ := L.at' i _ hρ
  refine ⟨.ref q, e1, q, vs, rfl, .inl (SqL.of e4), ?_⟩
  rw [dpAll_len e5]
  exact k _ H B _ (Same.refl _) L (.int _) h
theorem boot_max : bootBuiltins "max" = some (.builtin "max") := by decide +kernel
theorem boot_min : bootBuiltins "min" = some (.builtin "min") := by decide +kernel
theorem boot_all : bootBuiltins "all" = some (.builtin "all") := by decide +kernel
theorem boot_list : bootBuiltins "list" = some (.type "list") := by decide +kernel
theorem boot_tuple : bootBuiltins "tuple" = some (.type "tuple") := by decide +kernel
theorem boot_sorted : bootBuiltins "sorted" = some (.builtin "sorted") := by decide +kernel
@[reducible] def r2I : PyData → PyData → (Int → Int → Prop) → Prop
  | .int i, .int j, K => K i j
  | _, _, _ => False
theorem ev_max2 {p : Pos} {R : PyData → Prop} (hc : X.calm = true) (hm : X.mg "max" = none) (h : Ev X W a ρ fun d => Ev X W b ρ fun d' => r2I d d' fun i j => ∀ m : Int, i ≤ m → j ≤ m → (m = i ∨ m = j) → R (.int m)) (hg : Gl X "max" := by rfl)
    (he : starEach [a, b] X.env = (false, eval a X.env) :: starEach [b] X.env := by rfl) (he2 : starEach [b] X.env = (false, eval b X.env) :: starEach [] X.env := by rfl) (hpl : (backTo pos (starEach [b] X.env)).any (·.1) = false := by rfl) : Ev X W (.Call (.Name "max" p) [a, b] [] pos) ρ R := by
  refine ⟨fun σ H B Q L k => (pe_callB (call_max2 hc) hg hm boot_max (pa_cons pe_w (pa_cons pe_w pa_nil he2) he) (by decide) (by decide) he hpl).toZ ?_⟩
  refine h.run σ H B _ L fun v H1 B1 d s1 L1 D1 h2 => ?_
  refine h2.run σ H1 B1 _ L1 fun u H2 B2 d' s2 L2 D2 h3 => ?_
  cases d <;> cases d' <;> first | exact h3.elim | skip
  rename_i i j
  cases dp_int D1
  cases dp_int D2
  exact ⟨i, j, rfl, k _ H2 B2 _ (s1.trans s2) L2 (.int _) (h3 _ (by split <;> omega) (by split <;> omega) (by split <;> simp))⟩
theorem ev_min2 {p : Pos} {R : PyData → Prop} (hc : X.calm = true) (hm : X.mg "min" = none) (h : Ev X W a ρ fun d => Ev X W b ρ fun d' => r2I d d' fun i j => ∀ m : Int, m ≤ i → m ≤ j → (m = i ∨ m = j) → R (.int m)) (hg : Gl X "min" := by rfl)
    (he : starEach [a, b] X.env = (false, eval a X.env) :: starEach [b] X.env := by rfl) (he2 : starEach [b] X.env = (false, eval b X.env) :: starEach [] X.env := by rfl) (hpl : (backTo pos (starEach [b] X.env)).any (·.1) = false := by rfl) : Ev X W (.Call (.Name "min" p) [a, b] [] pos) ρ R := by
  refine ⟨fun σ H B Q L k => (pe_callB (call_min2 hc) hg hm boot_min (pa_cons pe_w (pa_cons pe_w pa_nil he2) he) (by decide) (by decide) he hpl).toZ ?_⟩
  refine h.run σ H B _ L fun v H1 B1 d s1 L1 D1 h2 => ?_
  refine h2.run σ H1 B1 _ L1 fun u H2 B2 d' s2 L2 D2 h3 => ?_
  cases d <;> cases d' <;> first | exact h3.elim | skip
  rename_i i j
  cases dp_int D1
  cases dp_int D2
  exact ⟨i, j, rfl, k _ H2 B2 _ (s1.trans s2) L2 (.int _) (h3 _ (by split <;> omega) (by split <;> omega) (by split <;> simp))⟩
theorem dq_ints {K : PySem.W.Frag} {B : Hp} : ∀ {ns : List Int} {vs : List V}, DqAll K B vs (ns.map PyData.int) → vs = ns.map V.int
  | [], _, h => by cases h; rfl
  | n :: ns, _, h => by
    cases h with
    | cons h1 h2 => rw [dp_int h1, dq_ints h2]; rfl
theorem dq_bools {K : PySem.W.Frag} {B : Hp} : ∀ {ns : List Bool} {vs : List V}, DqAll K B vs (ns.map PyData.bool) → vs = ns.map V.bl
  | [], _, h => by cases h; rfl
  | n :: ns, _, h => by
    cases h with
    | cons h1 h2 => rw [dp_bool h1, dq_bools h2]; rfl
theorem ints_dq {K : PySem.W.Frag} {B : Hp} : ∀ ns : List Int, DqAll K B (ns.map V.int) (ns.map PyData.int)
  | [] => .nil
  | n :: ns => .cons (.int n) (ints_dq ns)
/-- min(xs) of a list of ints -/
theorem ev_minL {p : Pos} {R : PyData → Prop} (hc : X.calm = true) (hm : X.mg "min" = none) (h : Ev X W e ρ fun d => ∃ ns : List Int, d = .list (ns.map PyData.int) ∧ 0 < ns.length ∧ ∀ m, m ∈ ns → (∀ y, y ∈ ns → m ≤ y) → R (.int m)) (hg : Gl X "min" := by rfl)
    (he : starEach [e] X.env = (false, eval e X.env) :: starEach [] X.env := by rfl) (hpl : (backTo pos (starEach [] X.env)).any (·.1) = false := by rfl) : Ev X W (.Call (.Name "min" p) [e] [] pos) ρ R := by
  refine ⟨fun σ H B Q L k => (pe_callB (cr_min hc) hg hm boot_min (pa_cons pe_w pa_nil he) (by decide) (by decide) he hpl).toZ ?_⟩
  refine h.run σ H B _ L fun v H1 B1 d s1 L1 D1 h2 => ?_
  obtain ⟨ns, rfl, h3, h4⟩ := h2
  obtain ⟨q, vs, rfl, h5, h6⟩ := dp_list D1
  cases dq_ints h6
  exact ⟨q, ns, rfl, SqL.of (L1.gr.sub _ _ h5), h3, fun m h7 h8 => k _ H1 B1 _ s1 L1 (.int m) (h4 m h7 h8)⟩
/-- all(bs) of a list of bools -/
theorem ev_all {p : Pos} {R : PyData → Prop} (hc : X.calm = true) (hm : X.mg "all" = none) (h : Ev X W e ρ fun d => ∃ bs : List Bool, d = .list (bs.map PyData.bool) ∧ R (.bool (bs.all id))) (hg : Gl X "all" := by rfl)
    (he : starEach [e] X.env = (false, eval e X.env) :: starEach [] X.env := by rfl) (hpl : (backTo pos (starEach [] X.env)).any (·.1) = false := by rfl) : Ev X W (.Call (.Name "all" p) [e] [] pos) ρ R := by
  refine ⟨fun σ H B Q L k => (pe_callB (cr_all hc) hg hm boot_all (pa_cons pe_w pa_nil he) (by decide) (by decide) he hpl).toZ ?_⟩
  refine h.run σ H B _ L fun v H1 B1 d s1 L1 D1 h2 => ?_
  obtain ⟨bs, rfl, h3⟩ := h2
  obtain ⟨q, vs, rfl, h5, h6⟩ := dp_list D1
  cases dq_bools h6
  exact ⟨q, bs, rfl, SqL.of (L1.gr.sub _ _ h5), k _ H1 B1 _ s1 L1 (.bl _) h3⟩
/-- list(xs) -/
theorem el_list {p : Pos} {R : List PyData → Prop} (hm : X.mg "list" = none) (h : Ev X W e ρ fun d => rSeq d R) (hg : Gl X "list" := by rfl)
    (he : starEach [e] X.env = (false, eval e X.env) :: starEach [] X.env := by rfl) (hpl : (backTo pos (starEach [] X.env)).any (·.1) = false := by rfl) : El X W (.Call (.Name "list" p) [e] [] pos) ρ R := by
  refine ⟨fun σ H B Q L k => (pe_callTy call_list_of hg hm boot_list (pa_cons pe_w pa_nil he) (by decide) (by decide) he hpl).toZ ?_⟩
  refine h.run σ H B _ L fun v H1 B1 d s1 L1 D1 h2 => ?_
  cases d <;> first | exact h2.elim | skip
  · rename_i ds
    obtain ⟨q, vs, rfl, h3, h4⟩ := dp_list D1
    refine ⟨q, vs, rfl, .inl (SqL.of (L1.gr.sub _ _ h3)), fun l hl => ?_⟩
    obtain ⟨L', q1, q2, q3, q4⟩ := fresh_own L1 hl ds vs h4
    exact k l vs _ B1 ds s1 L' q1 q2 q3 q4 h4 h2
  · rename_i ds
    obtain ⟨q, vs, rfl, h3, h4⟩ := dp_tup D1
    refine ⟨q, vs, rfl, .inr (seqT L1.gr.sub h3), fun l hl => ?_⟩
    obtain ⟨L', q1, q2, q3, q4⟩ := fresh_own L1 hl ds vs h4
    exact k l vs _ B1 ds s1 L' q1 q2 q3 q4 h4 h2
/-- tuple(xs) -/
theorem ev_tupleOf {p : Pos} {R : PyData → Prop} (hm : X.mg "tuple" = none) (h : Ev X W e ρ fun d => match d with | .list ds => R (.tuple ds) | .tuple ds => R (.tuple ds) | _ => False) (hg : Gl X "tuple" := by rfl)
    (he : starEach [e] X.env = (false, eval e X.env) :: starEach [] X.env := by rfl) (hpl : (backTo pos (starEach [] X.env)).any (·.1) = false := by rfl) : Ev X W (.Call (.Name "tuple" p) [e] [] pos) ρ R := by
  refine ⟨fun σ H B Q L k => (pe_callTy call_tuple_of hg hm boot_tuple (pa_cons pe_w pa_nil he) (by decide) (by decide) he hpl).toZ ?_⟩
  refine h.run σ H B _ L fun v H1 B1 d s1 L1 D1 h2 => ?_
  cases d <;> first | exact h2.elim | skip
  · rename_i ds
    obtain ⟨q, vs, rfl, h3, h4⟩ := dp_list D1
    refine ⟨q, vs, rfl, .inl ⟨SqL.of (L1.gr.sub _ _ h3), fun l hl => ?_⟩⟩
    obtain ⟨s, L'⟩ := L1.fresh hl (.tup vs)
    exact k _ _ _ _ (s1.trans s) L' (.tup (SqT.of upd_same) (dpAllMono s _ _ h4)) h2
  · rename_i ds
    obtain ⟨q, vs, rfl, h3, h4⟩ := dp_tup D1
    exact ⟨q, vs, rfl, .inr ⟨seqT L1.gr.sub h3, k _ H1 B1 _ s1 L1 D1 h2⟩⟩
end

/-! ### defs -/
def startZ (N : List Str) (ds : List PyData) : List Sl := ds.map Sl.im ++ List.replicate (N.length - ds.length) Sl.no
theorem start_im {K : PySem.W.Frag} {B : Hp} : ∀ {ds : List PyData} {vs : List V}, DqAll K B vs ds → ∀ (i : Nat) (sl : Sl), (ds.map Sl.im)[i]? = some sl → ∃ v d, sl = .im d ∧ (vs.map some)[i]? = some (some v) ∧ Dq K B v d
  | [], _, _, i, sl, e => by simp at e
  | d :: ds, _, h, i, sl, e => by
    cases h with
    | cons h1 h2 =>
      cases i with
      | zero =>
        simp at e
        exact ⟨_, d, e.symm, by simp, h1⟩
      | succ i =>
        obtain ⟨v, d', a, b, c⟩ := start_im h2 i sl (by simpa using e)
        exact ⟨v, d', a, by simpa using b, c⟩
theorem start_ow {ds : List PyData} {n i : Nat} {sl : Sl} (e : (ds.map Sl.im ++ List.replicate n Sl.no)[i]? = some sl) : sl.ow = false := by
  have h := List.mem_of_getElem? e
  rcases List.mem_append.mp h with h | h
  · obtain ⟨d, _, rfl⟩ := List.mem_map.mp h
    rfl
  · rw [(List.mem_replicate.mp h).2]
    rfl
theorem start_lay {K : PySem.W.Frag} {B H : Hp} {N : List Str} {ds : List PyData} {vs : List V} {T : Option Addr} {ns : Addr × List Int} (s : Same B H) (t : ∀ a, T = some a → Tape ns B H a) (h : DqAll K B vs ds) : Lay K ⟨T, ns, B, H⟩ B H (L2.start N vs) (startZ N ds) := by
  have hl := dpAll_len h
  refine ⟨Gr.refl s t, by simp [L2.start, startZ, hl], fun i sl e => ?_, fun i j s t _ e1 _ o1 _ => by rw [start_ow e1] at o1; cases o1⟩
  unfold startZ at e
  by_cases hi : i < ds.length
  · rw [List.getElem?_append_left (by simpa using hi)] at e
    obtain ⟨v, d, rfl, e2, Dv⟩ := start_im h i sl e
    refine ⟨v, ?_, Dv⟩
    unfold L2.start
    rw [List.getElem?_append_left (by simp; omega)]
    exact e2
  · have e3 := List.mem_of_getElem? (by rw [List.getElem?_append_right (by simpa using hi)] at e; exact e)
    rw [(List.mem_replicate.mp e3).2]
    trivial
section
variable {P : Program} {w : World} {K : PySem.W.Frag} {mg : Str → Option Value} {base : Heap}
/-- the context of a def's body -/
abbrev Bx (P : Program) (w : World) (K : PySem.W.Frag) (mg : Str → Option Value) (base : Heap) (N : List Str) (qual : Str) (sc : Scope) (f : Addr) (cdv : Value) (A : Around) (outer : List Env) (s : Shared) (H : Hp) (E : XK) : Cx := (cxOf CX0 P w K mg base N qual sc f cdv A outer s H E).nox
theorem fn_con {x qual : Str} {st : Stmt} {f : Addr} {fd : FuncData} {N ps : List Str} {k : Nat} {P' : List PyData → (PyData → Prop) → Prop} (F : Fun K x qual st f fd) (S : FnScope N ps (defScope st)) (len : ∀ ds R, P' ds R → ds.length = ps.length)
    (body : ∀ (cdv : Value) (A : Around) (outer : List Env) (s : Shared) (H : Hp) (E : XK) (W : Wd) (ds : List PyData) (R : PyData → Prop), Room k (Bx P w K mg base N qual (defScope st) f cdv A outer s H E).A → P' ds R →
      Ess (Bx P w K mg base N qual (defScope st) f cdv A outer s H E) W (defBody st) (startZ N ds) { nx := fun _ => R .none, rt := R }) : FnOk P w K mg base CX0 (k + 1) f fd ps (Con K P') := by
  refine F.ok S (fun vs H Q E h => ?_) (fun cdv A outer s H vs Q E hr h => ?_)
  · obtain ⟨B, ds, R, _, h1, h2, _⟩ := h
    rw [dpAll_len h1]
    exact len ds R h2
  · obtain ⟨B, ds, R, sB, h1, h2, q⟩ := h
    refine ⟨_, pss_w, ?_⟩
    intro pins s0 I
    have L := start_lay (N := N) (T := none) (ns := (0, [])) sB (fun _ z => by cases z) h1
    refine thn ((body cdv A outer s H E ⟨none, (0, []), B, H⟩ ds R hr h2).run _ _ _ L pins s0 I) fun fl s' hs => ?_
    cases fl with
    | next => obtain ⟨σ', H', I', B', ρ', s', L', r⟩ := hs; exact ⟨σ', H', I', q .non H' B' .none L'.gr .non r⟩
    | brk => obtain ⟨σ', H', I', B', ρ', s', L', r⟩ := hs; exact r.elim
    | cont => obtain ⟨σ', H', I', B', ρ', s', L', r⟩ := hs; exact r.elim
    | ret u => obtain ⟨v, σ', H', I', r, B', d, g, Dv, rr⟩ := hs; exact ⟨v, σ', H', I', r, q v H' B' d g Dv rr⟩
/-- .. of a def that takes the tape first -/
theorem fn_conT {x qual : Str} {st : Stmt} {f : Addr} {fd : FuncData} {N ps : List Str} {k : Nat} {P' : List PyData → (PyData → Prop) → Prop} (F : Fun K x qual st f fd) (S : FnScope N ps (defScope st)) (len : ∀ ds R, P' ds R → ds.length + 1 = ps.length)
    (body : ∀ (cdv : Value) (A : Around) (outer : List Env) (s : Shared) (H : Hp) (E : XK) (W : Wd) (ds : List PyData) (R : PyData → Prop), Room k (Bx P w K mg base N qual (defScope st) f cdv A outer s H E).A → P' ds R →
      Ess (Bx P w K mg base N qual (defScope st) f cdv A outer s H E) W (defBody st) (.tape :: startZ N.tail ds) { nx := fun _ => R .none, rt := R }) (hN : N ≠ [] := by simp) : FnOk P w K mg base CX0 (k + 1) f fd ps (ConT K P') := by
  refine F.ok S (fun vs H Q E h => ?_) (fun cdv A outer s H vs Q E hr h => ?_)
  · obtain ⟨B, ds, R, T, ns, vs', rfl, _, _, h1, h2, _⟩ := h
    rw [List.length_cons, dpAll_len h1]
    exact len ds R h2
  · obtain ⟨B, ds, R, T, ns, vs', rfl, sB, tp, h1, h2, q⟩ := h
    refine ⟨_, pss_w, ?_⟩
    intro pins s0 I
    have tt : ∀ a, some T = some a → Tape ns B H a := fun a z => by cases z; exact tp
    have L0 := start_lay (N := N.tail) (T := some T) sB tt h1
    have e1 : L2.start N (V.ref T :: vs') = some (V.ref T) :: L2.start N.tail vs' := by
      cases N with
      | nil => exact absurd rfl hN
      | cons n N => simp [L2.start]
    have L : Lay K ⟨some T, ns, B, H⟩ B H (L2.start N (V.ref T :: vs')) (.tape :: startZ N.tail ds) := by
      rw [e1]
      refine ⟨L0.gr, by simp [L0.len], fun i sl e => ?_, fun i j s t hne f1 f2 o1 o2 => ?_⟩
      · cases i with
        | zero =>
          simp at e
          subst e
          exact ⟨T, rfl, by simp⟩
        | succ i => simpa using L0.at' i sl (by simpa using e)
      · cases i with
        | zero =>
          simp at f1
          subst f1
          cases o1
        | succ i =>
          have f1' : (startZ N.tail ds)[i]? = some s := by simpa using f1
          rw [start_ow f1'] at o1
          cases o1
    refine thn ((body cdv A outer s H E ⟨some T, ns, B, H⟩ ds R hr h2).run _ _ _ L pins s0 I) fun fl s' hs => ?_
    cases fl with
    | next => obtain ⟨σ', H', I', B', ρ', s', L', r⟩ := hs; exact ⟨σ', H', I', q .non H' B' .none L'.gr .non r⟩
    | brk => obtain ⟨σ', H', I', B', ρ', s', L', r⟩ := hs; exact r.elim
    | cont => obtain ⟨σ', H', I', B', ρ', s', L', r⟩ := hs; exact r.elim
    | ret u => obtain ⟨v, σ', H', I', r, B', d, g, Dv, rr⟩ := hs; exact ⟨v, σ', H', I', r, q v H' B' d g Dv rr⟩
end
end Z

namespace Z
open PySem PySem.Spec PyProof.Rows L2
theorem zu {k : Nat} {A : Around} (hr : Room k A) : A.units + 64 < cLine := by have := hr.un; omega
theorem zu5 {k : Nat} {A : Around} (hr : Room k A) : A.units + 65 < cLine := by have := hr.un; omega
theorem zu1 {k : Nat} {A : Around} (hr : Room k A) : A.units + 1 < cLine := by have := hr.un; omega
theorem dB {p A B : Prop} [Decidable p] (h1 : p → A) (h2 : ¬ p → B) : (decide p = true → A) ∧ (decide p = false → B) := ⟨fun h => h1 (of_decide_eq_true h), fun h => h2 (of_decide_eq_false h)⟩
theorem dN {p A B : Prop} [Decidable p] (h1 : ¬ p → A) (h2 : p → B) : ((!decide p) = true → A) ∧ ((!decide p) = false → B) := ⟨fun h => h1 (by simpa using h), fun h => h2 (by simpa using h)⟩
theorem divs {i j : Int} (h : 0 < j) (h2 : j < 10 ^ 60) : CDivW i j := wide_div (b := 200) h (by omega) (by decide) (by decide)
theorem mull {i j : Int} (h : -(2 ^ 63) ≤ i) (h2 : i ≤ 2 ^ 63) : CMul i j := .inl ⟨by omega, by omega⟩
theorem mulr {i j : Int} (h : -(2 ^ 63) ≤ j) (h2 : j ≤ 2 ^ 63) : CMul i j := .inr ⟨by omega, by omega⟩
/-- an item of a written list at a place within -/
theorem pick {ds : List PyData} {n : Int} {Pr : PyData → Prop} (h0 : 0 ≤ n) (h1 : n < ds.length) (h : ∀ d ∈ ds, Pr d) : ∃ d, atI ds n = some d ∧ Pr d := by
  obtain ⟨k, rfl⟩ := Int.eq_ofNat_of_zero_le h0
  have hk : k < ds.length := by omega
  exact ⟨ds[k], atI_nat (List.getElem?_eq_getElem hk), h _ (List.getElem_mem hk)⟩
section
variable {X : Cx} {W : Wd} {ρ : List Sl} {D : Dz} {R : PyData → Prop} {pos : Pos} {a b c e : Expr} {es : List Expr} {st : Stmt} {sts body : List Stmt}
theorem ev_powc {x y m : Int} {j1 j2 p1 p2} (h : R (.int m)) (hc : CPow x y := by exact ⟨by decide, by decide, by decide⟩) (hm : x ^ y.toNat = m := by decide) : Ev X W (.BinOp (.Constant (.int x) j1 p1) .Pow (.Constant (.int y) j2 p2) pos) ρ R := by
  subst hm
  exact ev_bin oz_pow (ev_int (ev_int ⟨hc, h⟩))
theorem Es.imp {D' : Dz} (h : Es X W st ρ D) (h1 : ∀ r, D.nx r → D'.nx r) (h2 : ∀ d, D.rt d → D'.rt d) (h3 : ∀ r, D.bk r → D'.bk r) (h4 : ∀ r, D.ct r → D'.ct r) : Es X W st ρ D' := by
  refine ⟨fun σ H B L pins s I => ?_⟩
  refine thn (h.run σ H B L pins s I) fun f s' q => ?_
  cases f with
  | next => obtain ⟨σ', H', I', B', ρ', s0, L', q⟩ := q; exact ⟨σ', H', I', B', ρ', s0, L', h1 _ q⟩
  | brk => obtain ⟨σ', H', I', B', ρ', s0, L', q⟩ := q; exact ⟨σ', H', I', B', ρ', s0, L', h3 _ q⟩
  | cont => obtain ⟨σ', H', I', B', ρ', s0, L', q⟩ := q; exact ⟨σ', H', I', B', ρ', s0, L', h4 _ q⟩
  | ret u => obtain ⟨v, σ', H', I', r, B', d, g, D1, q⟩ := q; exact ⟨v, σ', H', I', r, B', d, g, D1, h2 _ q⟩
/-- the ways of a statement join -/
theorem ess_cut (Mid : List Sl → Prop) (h : Es X W st ρ { D with nx := Mid }) (h2 : ∀ r, Mid r → Ess X W sts r D) : Ess X W (st :: sts) ρ D :=
  ess_cons (h.imp h2 (fun _ q => q) (fun _ q => q) fun _ q => q)
/-- a, b, c = x, y, z of plain locals -/
theorem es_par3 (i j l : Nat) {x y z : Str} {px py pz pt : Pos} {kt k2 pt2} (h : Ea X W [a, b, c] ρ fun ds => match ds with | [d, e, f] => D.nx (((ρ.set i (.im d)).set j (.im e)).set l (.im f)) | _ => False) (hc : X.calm = true) (hN : X.N.Nodup)
    (hi : X.N[i]? = some x := by rfl) (hj : X.N[j]? = some y := by rfl) (hl : X.N[l]? = some z := by rfl) (hij : i ≠ j := by decide) (hil : i ≠ l := by decide) (hjl : j ≠ l := by decide)
    (hx : X.env.scope.names.lookup x = some .local := by rfl) (hy : X.env.scope.names.lookup y = some .local := by rfl) (hz : X.env.scope.names.lookup z = some .local := by rfl)
    (hw : swappedStores [.Tuple [.Name x px, .Name y py, .Name z pz] kt pt] (.Tuple [a, b, c] k2 pt2) X.env = pure (some [x, y, z]) := by rfl)
    (hs : swapsWithSole [.Tuple [.Name x px, .Name y py, .Name z pz] kt pt] (.Tuple [a, b, c] k2 pt2) pos.line X.env = pure false := by rfl) :
    Es X W (.Assign [.Tuple [.Name x px, .Name y py, .Name z pz] kt pt] (.Tuple [a, b, c] k2 pt2) pos) ρ D := by
  refine ⟨fun σ H B L => (ps_par3 hc hN hi hj hl hij hil hjl hx hy hz pa_w hw hs).toZ ?_⟩
  refine h.run σ H B _ L fun vs H' B' ds s L' D' r => ?_
  cases D' with
  | nil => exact r.elim
  | cons h1 h2 =>
    cases h2 with
    | nil => exact r.elim
    | cons h3 h4 =>
      cases h4 with
      | nil => exact r.elim
      | cons h5 h6 =>
        cases h6 with
        | nil => exact ⟨_, _, _, rfl, B', _, s, ((L'.put h1).put h3).put h5, r⟩
        | cons _ _ => exact r.elim

/-! ### isinstance -/
def tyD : PyData → String
  | .none => "NoneType"
  | .bool _ => "bool"
  | .int _ => "int"
  | .str _ => "str"
  | .list _ => "list"
  | .tuple _ => "tuple"
  | .dict _ => "dict"
theorem tyX_of {K : PySem.W.Frag} {B H : Hp} {v : V} {d : PyData} (s : Same B H) (h : Dq K B v d) : TyX K H v (.type (tyD d)) := by
  cases h with
  | non => exact .base .non
  | bl b => exact .base (.bl b)
  | int i => exact .base (.int i)
  | str x => exact .base (.str x)
  | lst h _ => exact .base (.lst (s _ _ h))
  | tup h _ =>
    rcases seqT s h with (h | ⟨o, h⟩) | ⟨o, its, n, hk, hc, _⟩
    · exact .base (.tup h)
    · exact .fTuple h
    · exact .kTuple hk hc
/-- is d of the class T -/
def isD (T : String) (d : PyData) : Bool := (kitB (tyD d) T).getD false
theorem boot_isinstance : bootBuiltins "isinstance" = some (.builtin "isinstance") := by decide +kernel
theorem boot_ty : bootBuiltins "int" = some (.type "int") ∧ bootBuiltins "bool" = some (.type "bool") ∧ bootBuiltins "str" = some (.type "str") := by decide +kernel
theorem ev_isi {T : Str} {n : String} {p p2 : Pos} (hm : X.mg "isinstance" = none) (hT : X.mg T = none) (hb : bootBuiltins T = some (.type n)) (h : Ev X W e ρ fun d => (kitB (tyD d) n).isSome = true ∧ R (.bool (isD n d))) (hg : Gl X "isinstance" := by rfl) (hg2 : Gl X T := by rfl)
    (he : starEach [e, .Name T p2] X.env = (false, eval e X.env) :: starEach [.Name T p2] X.env := by rfl) (he2 : starEach [.Name T p2] X.env = (false, eval (.Name T p2) X.env) :: starEach [] X.env := by rfl) (hpl : (backTo pos (starEach [.Name T p2] X.env)).any (·.1) = false := by rfl)
    (hn : T ≠ "__name__" := by decide) (hd : (T == ("__debug__" : Str)) = false := by decide) : Ev X W (.Call (.Name "isinstance" p) [e, .Name T p2] [] pos) ρ R := by
  refine ⟨fun σ H B Q L k => (pe_callB call_isi hg hm boot_isinstance (pa_cons pe_w (pa_cons (pe_bltn hg2 hT hb (v := .ty n) rfl hn hd) pa_nil he2) he) (by decide) (by decide) he hpl).toZ ?_⟩
  refine h.run σ H B _ L fun v H1 B1 d s1 L1 D1 h2 => ?_
  obtain ⟨r, hr⟩ := Option.isSome_iff_exists.mp h2.1
  refine ⟨v, .ty n, _, _, r, rfl, .ty n, tyX_of L1.gr.sub D1, kit_ty hr, ?_⟩
  have e1 : isD n d = r := by unfold isD; rw [hr]; rfl
  rw [← e1]
  exact k _ H1 B1 _ s1 L1 (.bl _) h2.2
/-- isinstance(e, (list, tuple)) -/
def isLT : PyData → Bool
  | .list _ => true
  | .tuple _ => true
  | _ => false
theorem kit_tab : ∀ t ∈ ["NoneType", "bool", "int", "str", "list", "tuple", "dict"], ∀ n ∈ ["int", "bool", "str", "list", "tuple"], kitB t n = some (t == n || (t == "bool" && n == "int")) := by decide +kernel
theorem tyD_mem (d : PyData) : tyD d ∈ ["NoneType", "bool", "int", "str", "list", "tuple", "dict"] := by
  cases d <;> simp [tyD]
theorem kit_of_tab (d : PyData) {n : String} (hn : n ∈ ["int", "bool", "str", "list", "tuple"]) : kitB (tyD d) n = some (tyD d == n || (tyD d == "bool" && n == "int")) := kit_tab _ (tyD_mem d) n hn
theorem isD_of (d : PyData) {n : String} (hn : n ∈ ["int", "bool", "str", "list", "tuple"]) : isD n d = (tyD d == n || (tyD d == "bool" && n == "int")) := by
  unfold isD
  rw [kit_of_tab d hn]
  rfl
theorem isLT_kit {K : PySem.W.Frag} (d : PyData) : PySem.W.kitAny K (.type (tyD d)) [.type "list", .type "tuple"] = some (isLT d) := by
  have q : ∀ d : PyData, kitB (tyD d) "list" = some (match d with | .list _ => true | _ => false) ∧ kitB (tyD d) "tuple" = some (match d with | .tuple _ => true | _ => false) := by
    intro d
    rw [kit_of_tab d (by simp), kit_of_tab d (by simp)]
    cases d <;> exact ⟨rfl, rfl⟩
  obtain ⟨q1, q2⟩ := q d
  refine kitAny_cons (kit_ty q1) (fun z => kitAny_cons (kit_ty q2) (fun z2 => ?_) fun z2 => ?_) fun z => ?_
  · rw [kitAny_nil]
    cases d <;> first | rfl | (simp at z; done) | (simp at z2; done)
  · cases d <;> first | rfl | (simp at z2; done)
  · cases d <;> first | rfl | (simp at z; done)
theorem ev_isiLT {p p1 p2 p3 : Pos} {x1} (hm : X.mg "isinstance" = none) (h1 : X.mg "list" = none) (h2 : X.mg "tuple" = none) (h : Ev X W e ρ fun d => R (.bool (isLT d))) (hg : Gl X "isinstance" := by rfl) (hgl : Gl X "list" := by rfl) (hgt : Gl X "tuple" := by rfl)
    (he : starEach [e, .Tuple [.Name "list" p1, .Name "tuple" p2] x1 p3] X.env = (false, eval e X.env) :: starEach [.Tuple [.Name "list" p1, .Name "tuple" p2] x1 p3] X.env := by rfl)
    (he2 : starEach [.Tuple [.Name "list" p1, .Name "tuple" p2] x1 p3] X.env = (false, eval (.Tuple [.Name "list" p1, .Name "tuple" p2] x1 p3) X.env) :: starEach [] X.env := by rfl)
    (he3 : starEach [.Name "list" p1, .Name "tuple" p2] X.env = (false, eval (.Name "list" p1) X.env) :: starEach [.Name "tuple" p2] X.env := by rfl) (he4 : starEach [.Name "tuple" p2] X.env = (false, eval (.Name "tuple" p2) X.env) :: starEach [] X.env := by rfl)
    (hpl : (backTo pos (starEach [.Tuple [.Name "list" p1, .Name "tuple" p2] x1 p3] X.env)).any (·.1) = false := by rfl) : Ev X W (.Call (.Name "isinstance" p) [e, .Tuple [.Name "list" p1, .Name "tuple" p2] x1 p3] [] pos) ρ R := by
  refine ⟨fun σ H B Q L k => (pe_callB call_isiT hg hm boot_isinstance (pa_cons pe_w (pa_cons (pe_tup (pa_cons (pe_bltn hgl h1 boot_list (v := .ty "list") rfl) (pa_cons (pe_bltn hgt h2 boot_tuple (v := .ty "tuple") rfl) pa_nil he4) he3)) pa_nil he2) he) (by decide) (by decide) he hpl).toZ ?_⟩
  refine h.run σ H B _ L fun v H1 B1 d s1 L1 D1 h2 => ?_
  refine ⟨by show 2 ≤ sizeLine; decide, fun t ht => ?_⟩
  obtain ⟨s, L'⟩ := L1.fresh ht (.tup [.ty "list", .ty "tuple"])
  exact ⟨v, t, _, _, [.type "list", .type "tuple"], isLT d, rfl, upd_same, .cons (.ty _) (.cons (.ty _) .nil), tyX_of L'.gr.sub (dpMono s _ _ D1), isLT_kit d, k _ _ _ _ (s1.trans s) L' (.bl _) h2⟩

/-! ### the law's tape -/
theorem Lay.tape {K : PySem.W.Frag} {B H : Hp} {σ : L2.St} (L : Lay K W B H σ ρ) {T : Addr} (hT : W.T = some T) {vs : List V} (t : Tape W.ns B (upd H T (.lst vs)) T) : Lay K W B (upd H T (.lst vs)) σ ρ := by
  obtain ⟨t1, t2⟩ := L.gr.tp T hT
  refine ⟨⟨same_right L.gr.sub t2.1, L.gr.base, L.gr.new, fun a o h1 h2 => ?_, fun T' h => ?_⟩, L.len, fun i sl e => (L.at' i sl e).grow (Same.refl _) fun a u g1 g2 g3 g4 g5 => ⟨g3, ?_⟩, L.dis⟩
  · have ha : a ≠ T := by
      rintro rfl
      exact h2 hT
    rw [upd_ne ha]
    exact L.gr.keep a o h1 h2
  · rw [hT] at h
    cases h
    exact ⟨t1, t⟩
  · have ha : a ≠ T := by
      rintro rfl
      exact t1 g4
    rw [upd_ne ha]
    exact g5
/-- tape[0], tape[1], tape[2] -/
theorem ev_tape0 (i : Nat) {x : Str} {px p2 : Pos} {j2} (hρ : ρ[i]? = some .tape) (h : R (.list (W.ns.2.map PyData.int))) (hN : X.N[i]? = some x := by rfl) (hv : Vis X.env.scope x := by first | exact Or.inl rfl | exact Or.inr (Or.inl rfl) | exact Or.inr (Or.inr rfl))
    (hd : (x == ("__debug__" : Str)) = false := by decide) (hcd : (x == ("__classdict__" : Str)) = false := by decide) : Ev X W (.Subscript (.Name x px) (.Constant (.int 0) j2 p2) pos) ρ R := by
  refine ⟨fun σ H B Q L k => (pe_ix ix_list (pe_var hN hv hd hcd) pe_int fun _ _ => rfl).toZ ?_⟩
  obtain ⟨T, hT, e1⟩ := L.at' i _ hρ
  obtain ⟨_, _, z, c, e, _, _, q⟩ := L.gr.tp T hT
  exact ⟨.ref T, e1, T, _, 0, .ref W.ns.1, rfl, rfl, SqL.of e, rfl, k _ H B _ (Same.refl _) L (.lst q (ints_dq _)) h⟩
theorem ev_tape1 (i : Nat) {x : Str} {px p2 : Pos} {j2} (hρ : ρ[i]? = some .tape) (h : ∀ z : Int, 0 ≤ z → R (.int z)) (hN : X.N[i]? = some x := by rfl) (hv : Vis X.env.scope x := by first | exact Or.inl rfl | exact Or.inr (Or.inl rfl) | exact Or.inr (Or.inr rfl))
    (hd : (x == ("__debug__" : Str)) = false := by decide) (hcd : (x == ("__classdict__" : Str)) = false := by decide) : Ev X W (.Subscript (.Name x px) (.Constant (.int 1) j2 p2) pos) ρ R := by
  refine ⟨fun σ H B Q L k => (pe_ix ix_list (pe_var hN hv hd hcd) pe_int fun _ _ => rfl).toZ ?_⟩
  obtain ⟨T, hT, e1⟩ := L.at' i _ hρ
  obtain ⟨_, _, z, c, e, z0, _, q⟩ := L.gr.tp T hT
  exact ⟨.ref T, e1, T, _, 1, .int z, rfl, rfl, SqL.of e, rfl, k _ H B _ (Same.refl _) L (.int z) (h z z0)⟩
theorem ev_tape2 (i : Nat) {x : Str} {px p2 : Pos} {j2} (hρ : ρ[i]? = some .tape) (h : ∀ z : Int, 0 ≤ z → R (.int z)) (hN : X.N[i]? = some x := by rfl) (hv : Vis X.env.scope x := by first | exact Or.inl rfl | exact Or.inr (Or.inl rfl) | exact Or.inr (Or.inr rfl))
    (hd : (x == ("__debug__" : Str)) = false := by decide) (hcd : (x == ("__classdict__" : Str)) = false := by decide) : Ev X W (.Subscript (.Name x px) (.Constant (.int 2) j2 p2) pos) ρ R := by
  refine ⟨fun σ H B Q L k => (pe_ix ix_list (pe_var hN hv hd hcd) pe_int fun _ _ => rfl).toZ ?_⟩
  obtain ⟨T, hT, e1⟩ := L.at' i _ hρ
  obtain ⟨_, _, z, c, e, _, c0, q⟩ := L.gr.tp T hT
  exact ⟨.ref T, e1, T, _, 2, .int c, rfl, rfl, SqL.of e, rfl, k _ H B _ (Same.refl _) L (.int c) (h c c0)⟩
/-- tape[1] = e, tape[2] = e -/
theorem es_tape (i : Nat) {x : Str} {px p2 p3 : Pos} {j : Int} {j2} (hj : j = 1 ∨ j = 2) (hρ : ρ[i]? = some .tape) (h : Ev X W e ρ fun d => match d with | .int z => 0 ≤ z ∧ D.nx ρ | _ => False) (hN : X.N[i]? = some x := by rfl)
    (hv : Vis X.env.scope x := by first | exact Or.inl rfl | exact Or.inr (Or.inl rfl) | exact Or.inr (Or.inr rfl)) (hd : (x == ("__debug__" : Str)) = false := by decide) (hcd : (x == ("__classdict__" : Str)) = false := by decide)
    (ha : ∀ v, assign (.Subscript (.Name x px) (.Constant (.int j) j2 p3) p2) X.env v = (do
      let ov ← holding [v] (eval (.Name x px) X.env)
      let iv ← holding [v, ov] (eval (.Constant (.int j) j2 p3) X.env)
      standAt p2
      holding [v, ov, iv] (setItem ov iv v)
      release [v, ov, iv] []) := by intro _; rfl) (hs : swapsWithSole [.Subscript (.Name x px) (.Constant (.int j) j2 p3) p2] e pos.line X.env = pure false := by rfl) (hw : swappedStores [.Subscript (.Name x px) (.Constant (.int j) j2 p3) p2] e X.env = pure none := by rfl)
    (h1 : (assignEach [.Subscript (.Name x px) (.Constant (.int j) j2 p3) p2] X.env).map (·.2) = [assign (.Subscript (.Name x px) (.Constant (.int j) j2 p3) p2) X.env] := by rfl) : Es X W (.Assign [.Subscript (.Name x px) (.Constant (.int j) j2 p3) p2] e pos) ρ D := by
  refine ⟨fun σ H B L => (ps_asg pe_w (pg_sub (pe_var hN hv hd hcd) pe_int set_list ha) hs hw h1).toZ ?_⟩
  refine h.run σ H B _ L fun v H1 B1 d s1 L1 D1 h2 => ?_
  cases d <;> first | exact h2.elim | skip
  rename_i z
  cases dp_int D1
  obtain ⟨T, hT, e1⟩ := L1.at' i _ hρ
  obtain ⟨_, t1, z0, c, e, hz0, hc0, q⟩ := L1.gr.tp T hT
  rcases hj with rfl | rfl
  · exact ⟨.ref T, e1, T, _, 1, 1, rfl, rfl, e, rfl, B1, ρ, s1, L1.tape hT ⟨t1, z, c, upd_same, h2.1, hc0, q⟩, h2.2⟩
  · exact ⟨.ref T, e1, T, _, 2, 2, rfl, rfl, e, rfl, B1, ρ, s1, L1.tape hT ⟨t1, z0, z, upd_same, hz0, h2.1, q⟩, h2.2⟩
end
/-- the law's promise -/
def spLaw (K : PySem.W.Frag) : Sp := fun vs H Q _ => ∃ (a : Addr) (ns : List Int), vs = [.ref a] ∧ SqL K H a (ns.map V.int) ∧ ns.length ≤ 63 ∧ ∀ H', Q (.bl true) H'
section
variable {P : Program} {w : World} {K : PySem.W.Frag} {mg : Str → Option Value} {base : Heap}
theorem lay_start {K : PySem.W.Frag} {W : Wd} {B H : Hp} (g : Gr K W B H) {T : Addr} (hT : W.T = some T) {σ : L2.St} (i : Nat) (e : σ[i]? = some (some (.ref T))) : Lay K W B H σ ((List.replicate σ.length Sl.no).set i .tape) := by
  refine ⟨g, by simp, fun j sl q => ?_, fun j k s t hne q1 q2 o1 o2 => ?_⟩
  · by_cases hj : i = j
    · subst hj
      have hl := (List.getElem?_eq_some_iff.mp e).1
      rw [List.getElem?_set_self (by simpa using hl)] at q
      cases q
      exact ⟨T, hT, e⟩
    · rw [List.getElem?_set_ne hj] at q
      have := List.mem_of_getElem? q
      rw [(List.mem_replicate.mp this).2]
      trivial
  · by_cases hj : i = j
    · subst hj
      have hl := (List.getElem?_eq_some_iff.mp e).1
      rw [List.getElem?_set_self (by simpa using hl)] at q1
      cases q1
      cases o1
    · rw [List.getElem?_set_ne hj] at q1
      have := List.mem_of_getElem? q1
      rw [(List.mem_replicate.mp this).2] at o1
      cases o1
/-- the law: tape = [list(script), 0, 0], then the rest over the tape -/
theorem fn_law {st : Stmt} {f : Addr} {fd : FuncData} {N : List Str} {k : Nat} (i : Nat) (F : Fun K "law" "law" st f fd) (S : FnScope N ["script"] (defScope st)) (nl : mg "list" = none) {p1 p2 p3 p4 p5 p6 p7 p8 : Pos} {k1 k2} {rest : List Stmt}
    (hb : defBody st = .Assign [.Name "tape" p1] (.List [.Call (.Name "list" p2) [.Name "script" p3] [] p4, .Constant (.int 0) k1 p5, .Constant (.int 0) k2 p6] p7) p8 :: rest)
    (hi : N[i]? = some ("tape" : Str)) (h0 : N[0]? = some ("script" : Str)) (hx : Loc (defScope st) "tape") (hv : Vis (defScope st) "script") (hg : (defScope st).names.lookup ("list" : Str) = some .globalImplicit) (hi0 : i ≠ 0)
    (body : ∀ (cdv : Value) (A : Around) (outer : List Env) (s : Shared) (H : Hp) (E : XK) (W : Wd), Room k (Bx P w K mg base N "law" (defScope st) f cdv A outer s H E).A → W.ns.2.length ≤ 63 →
      Ess (Bx P w K mg base N "law" (defScope st) f cdv A outer s H E) W rest ((List.replicate N.length Sl.no).set i .tape) { nx := fun _ => False, rt := fun d => d = .bool true }) : FnOk P w K mg base CX0 (k + 1) f fd ["script"] (spLaw K) := by
  refine F.ok S (fun vs H Q E h => ?_) (fun cdv A outer s H vs Q E hr h => ?_)
  · obtain ⟨a, ns, rfl, _⟩ := h
    rfl
  · obtain ⟨a, ns, rfl, hS, hlen, q⟩ := h
    rw [hb]
    refine ⟨_, pss_cons (ps_set (i := i) S.nd hi hx (pe_lst (pa_cons (pe_callTy call_list_of hg nl boot_list (pa_cons (pe_var (i := 0) h0 hv) pa_nil)) (pa_cons pe_int (pa_cons pe_int pa_nil)))) (by rfl) (.inl rfl)) pss_w, ?_⟩
    have e0 : (L2.start N [V.ref a])[0]? = some (some (.ref a)) := by simp [L2.start]
    refine ⟨.ref a, e0, a, _, rfl, .inl hS, fun l hl => ⟨by show 3 ≤ sizeLine; decide, fun t ht => ?_⟩⟩
    intro pins s0 I
    have hlt : t ≠ l := by
      rintro rfl
      rw [upd_same] at ht
      cases ht
    have s1 : Same (upd H l (.lst (ns.map V.int))) (upd (upd H l (.lst (ns.map V.int))) t (.lst [.ref l, .int 0, .int 0])) := same_new ht
    have tp : ∀ x, some t = some x → Tape (l, ns) (upd H l (.lst (ns.map V.int))) (upd (upd H l (.lst (ns.map V.int))) t (.lst [.ref l, .int 0, .int 0])) x := fun x z => by
      cases z
      exact ⟨ht, 0, 0, upd_same, by decide, by decide, upd_same⟩
    have hl2 : i < (L2.start N [V.ref a]).length := by
      have := (List.getElem?_eq_some_iff.mp hi).1
      simp [L2.start]
      omega
    have L := lay_start (K := K) (Gr.refl s1 tp) (T := t) rfl (σ := (L2.start N [V.ref a]).set i (some (.ref t))) i (by rw [List.getElem?_set_self hl2])
    have el : ((L2.start N [V.ref a]).set i (some (.ref t))).length = N.length := by
      have := (List.getElem?_eq_some_iff.mp h0).1
      simp [L2.start]
      omega
    rw [el] at L
    refine thn ((body cdv A outer s H E ⟨some t, (l, ns), _, _⟩ hr hlen).run _ _ _ L pins s0 I) fun fl s' hs => ?_
    cases fl with
    | next => obtain ⟨σ', H', I', B', ρ', s', L', r⟩ := hs; exact r.elim
    | brk => obtain ⟨σ', H', I', B', ρ', s', L', r⟩ := hs; exact r.elim
    | cont => obtain ⟨σ', H', I', B', ρ', s', L', r⟩ := hs; exact r.elim
    | ret u =>
      obtain ⟨v, σ', H', I', r, B', d, g, Dv, rr⟩ := hs
      subst rr
      cases dp_bool Dv
      exact ⟨.bl true, σ', H', I', r, q H'⟩
end
end Z

namespace Z
open PySem PySem.Spec PyProof.Rows L2
def isIntD : PyData → Bool | .int _ => true | .bool _ => true | _ => false
def isBoolD : PyData → Bool | .bool _ => true | _ => false
def isListD : PyData → Bool | .list _ => true | _ => false
def isTupD : PyData → Bool | .tuple _ => true | _ => false
def isStrD : PyData → Bool | .str _ => true | _ => false
theorem boot_int' : bootBuiltins "int" = some (.type "int") := by decide +kernel
theorem boot_bool' : bootBuiltins "bool" = some (.type "bool") := by decide +kernel
theorem boot_str' : bootBuiltins "str" = some (.type "str") := by decide +kernel
theorem isD_int (d : PyData) : isD "int" d = isIntD d := by rw [isD_of d (by simp)]; cases d <;> rfl
theorem isD_bool (d : PyData) : isD "bool" d = isBoolD d := by rw [isD_of d (by simp)]; cases d <;> rfl
theorem isD_list (d : PyData) : isD "list" d = isListD d := by rw [isD_of d (by simp)]; cases d <;> rfl
theorem isD_tuple (d : PyData) : isD "tuple" d = isTupD d := by rw [isD_of d (by simp)]; cases d <;> rfl
theorem isD_str (d : PyData) : isD "str" d = isStrD d := by rw [isD_of d (by simp)]; cases d <;> rfl
section
variable {X : Cx} {W : Wd} {ρ : List Sl} {D : Dz} {R : PyData → Prop} {pos : Pos} {a b c e : Expr} {es : List Expr} {st : Stmt} {sts body : List Stmt}
theorem ev_isInt {p p2 : Pos} (hm : X.mg "isinstance" = none) (hT : X.mg "int" = none) (h : Ev X W e ρ fun d => R (.bool (isIntD d))) (hg : Gl X "isinstance" := by rfl) (hg2 : Gl X "int" := by rfl)
    (he : starEach [e, .Name "int" p2] X.env = (false, eval e X.env) :: starEach [.Name "int" p2] X.env := by rfl) (he2 : starEach [.Name "int" p2] X.env = (false, eval (.Name "int" p2) X.env) :: starEach [] X.env := by rfl) (hpl : (backTo pos (starEach [.Name "int" p2] X.env)).any (·.1) = false := by rfl) :
    Ev X W (.Call (.Name "isinstance" p) [e, .Name "int" p2] [] pos) ρ R :=
  ev_isi hm hT boot_int' (h.imp fun d q => ⟨by rw [kit_of_tab d (by simp)]; rfl, by rw [isD_int]; exact q⟩) hg hg2 he he2 hpl
theorem ev_isBool {p p2 : Pos} (hm : X.mg "isinstance" = none) (hT : X.mg "bool" = none) (h : Ev X W e ρ fun d => R (.bool (isBoolD d))) (hg : Gl X "isinstance" := by rfl) (hg2 : Gl X "bool" := by rfl)
    (he : starEach [e, .Name "bool" p2] X.env = (false, eval e X.env) :: starEach [.Name "bool" p2] X.env := by rfl) (he2 : starEach [.Name "bool" p2] X.env = (false, eval (.Name "bool" p2) X.env) :: starEach [] X.env := by rfl) (hpl : (backTo pos (starEach [.Name "bool" p2] X.env)).any (·.1) = false := by rfl) :
    Ev X W (.Call (.Name "isinstance" p) [e, .Name "bool" p2] [] pos) ρ R :=
  ev_isi hm hT boot_bool' (h.imp fun d q => ⟨by rw [kit_of_tab d (by simp)]; rfl, by rw [isD_bool]; exact q⟩) hg hg2 he he2 hpl
theorem ev_isList {p p2 : Pos} (hm : X.mg "isinstance" = none) (hT : X.mg "list" = none) (h : Ev X W e ρ fun d => R (.bool (isListD d))) (hg : Gl X "isinstance" := by rfl) (hg2 : Gl X "list" := by rfl)
    (he : starEach [e, .Name "list" p2] X.env = (false, eval e X.env) :: starEach [.Name "list" p2] X.env := by rfl) (he2 : starEach [.Name "list" p2] X.env = (false, eval (.Name "list" p2) X.env) :: starEach [] X.env := by rfl) (hpl : (backTo pos (starEach [.Name "list" p2] X.env)).any (·.1) = false := by rfl) :
    Ev X W (.Call (.Name "isinstance" p) [e, .Name "list" p2] [] pos) ρ R :=
  ev_isi hm hT boot_list (h.imp fun d q => ⟨by rw [kit_of_tab d (by simp)]; rfl, by rw [isD_list]; exact q⟩) hg hg2 he he2 hpl
theorem ev_isTup {p p2 : Pos} (hm : X.mg "isinstance" = none) (hT : X.mg "tuple" = none) (h : Ev X W e ρ fun d => R (.bool (isTupD d))) (hg : Gl X "isinstance" := by rfl) (hg2 : Gl X "tuple" := by rfl)
    (he : starEach [e, .Name "tuple" p2] X.env = (false, eval e X.env) :: starEach [.Name "tuple" p2] X.env := by rfl) (he2 : starEach [.Name "tuple" p2] X.env = (false, eval (.Name "tuple" p2) X.env) :: starEach [] X.env := by rfl) (hpl : (backTo pos (starEach [.Name "tuple" p2] X.env)).any (·.1) = false := by rfl) :
    Ev X W (.Call (.Name "isinstance" p) [e, .Name "tuple" p2] [] pos) ρ R :=
  ev_isi hm hT boot_tuple (h.imp fun d q => ⟨by rw [kit_of_tab d (by simp)]; rfl, by rw [isD_tuple]; exact q⟩) hg hg2 he he2 hpl
theorem ev_isStr {p p2 : Pos} (hm : X.mg "isinstance" = none) (hT : X.mg "str" = none) (h : Ev X W e ρ fun d => R (.bool (isStrD d))) (hg : Gl X "isinstance" := by rfl) (hg2 : Gl X "str" := by rfl)
    (he : starEach [e, .Name "str" p2] X.env = (false, eval e X.env) :: starEach [.Name "str" p2] X.env := by rfl) (he2 : starEach [.Name "str" p2] X.env = (false, eval (.Name "str" p2) X.env) :: starEach [] X.env := by rfl) (hpl : (backTo pos (starEach [.Name "str" p2] X.env)).any (·.1) = false := by rfl) :
    Ev X W (.Call (.Name "isinstance" p) [e, .Name "str" p2] [] pos) ρ R :=
  ev_isi hm hT boot_str' (h.imp fun d q => ⟨by rw [kit_of_tab d (by simp)]; rfl, by rw [isD_str]; exact q⟩) hg hg2 he he2 hpl
/-- == of two bools -/
theorem oz_eqB : OpZ X (compareOp .Eq) (fun x y R => match x, y with | .bool i, .bool j => R (.bool (decide (i = j))) | _, _ => False) := by
  refine ⟨_, op_eq, fun W σ ρ H B v u d e R Q L D1 D2 r k => ?_⟩
  cases d <;> cases e <;> first | exact r.elim | skip
  rename_i i j
  cases dp_bool D1
  cases dp_bool D2
  refine ⟨rfl, ?_⟩
  have e1 : decide (V.bl i = V.bl j) = decide (i = j) := by
    by_cases h : i = j
    · subst h; simp
    · rw [decide_eq_false h, decide_eq_false fun q => h (V.bl.inj q)]
  rw [e1]
  exact k _ H B _ (Same.refl _) L (.bl _) r
theorem oz_neB : OpZ X (compareOp .NotEq) (fun x y R => match x, y with | .bool i, .bool j => R (.bool (!decide (i = j))) | _, _ => False) := by
  refine ⟨_, op_ne, fun W σ ρ H B v u d e R Q L D1 D2 r k => ?_⟩
  cases d <;> cases e <;> first | exact r.elim | skip
  rename_i i j
  cases dp_bool D1
  cases dp_bool D2
  refine ⟨rfl, ?_⟩
  have e1 : decide (V.bl i = V.bl j) = decide (i = j) := by
    by_cases h : i = j
    · subst h; simp
    · rw [decide_eq_false h, decide_eq_false fun q => h (V.bl.inj q)]
  rw [e1]
  exact k _ H B _ (Same.refl _) L (.bl _) r
end
end Z

namespace Z
open PySem PySem.Spec PyProof.Rows L2
theorem noF {A B : Prop} (h : B) : (false = true → A) ∧ (false = false → B) := ⟨fun z => (by cases z), fun _ => h⟩
theorem yesT {A B : Prop} (h : A) : (true = true → A) ∧ (true = false → B) := ⟨fun _ => h, fun z => (by cases z)⟩
section
variable {X : Cx} {W : Wd} {ρ : List Sl} {D : Dz} {R : PyData → Prop} {pos : Pos} {a b c e : Expr} {es : List Expr} {st : Stmt} {sts body : List Stmt}
/-- is not True, of a bool -/
theorem et_notTrue {R : Bool → Prop} {j p2} (h : Ev X W e ρ (tst fun k => R (!k))) : Et X W (.Compare e [.IsNot] [.Constant (.bool true) j p2] pos) ρ R := by
  refine ⟨fun σ H B Q L k => (pt_cmpR op_isnot_bl pe_w pe_bl (nomark _)).toZ ?_⟩
  refine h.run σ H B _ L fun v H1 B1 d s1 L1 D1 h2 => ?_
  cases d <;> first | exact h2.elim | skip
  rename_i kk
  refine ⟨kk, true, dp_bool D1, rfl, _, rfl, ?_⟩
  have e1 : (!decide (kk = true)) = !kk := by cases kk <;> rfl
  rw [e1]
  exact k _ H1 B1 s1 L1 h2
/-- is True, of a bool -/
theorem ev_isTrue {j p2} (h : Ev X W e ρ (tst fun k => R (.bool k))) : Ev X W (.Compare e [.Is] [.Constant (.bool true) j p2] pos) ρ R := by
  refine ⟨fun σ H B Q L k => (pe_cmpR op_is_bl pe_w pe_bl (nomark _)).toZ ?_⟩
  refine h.run σ H B _ L fun v H1 B1 d s1 L1 D1 h2 => ?_
  cases d <;> first | exact h2.elim | skip
  rename_i kk
  refine ⟨kk, true, dp_bool D1, rfl, ?_⟩
  have e1 : (decide (kk = true)) = kk := by cases kk <;> rfl
  rw [e1]
  exact k _ H1 B1 _ s1 L1 (.bl _) h2
/-! ### slices -/
def cutD (xs : List PyData) (lo hi : Option Int) : List PyData := (xs.drop (HT.sIx xs.length 0 lo)).take (HT.sIx xs.length xs.length hi - HT.sIx xs.length 0 lo)
theorem cut_dq {K : PySem.W.Frag} {B : Hp} {ds : List PyData} {vs : List V} (h : DqAll K B vs ds) (lo hi : Option Int) : DqAll K B (cutV vs lo hi) (cutD ds lo hi) := by
  unfold cutV cutD
  rw [dpAll_len h]
  exact dpAll_take _ (dpAll_drop _ h)
def tWo (X : Cx) (o : Option Expr) : TO := match o with
  | none => tNoPart
  | some e => tPart (tW X e)
theorem po_w {o : Option Expr} : PO X o (tWo X o) := match o with
  | none => po_none
  | some _ => po_some pe_w
structure Eo (X : Cx) (W : Wd) (o : Option Expr) (ρ : List Sl) (R : Option Int → Prop) : Prop where
  run : ∀ (σ : L2.St) (H B : Hp) (Q : Option Int → Hp → Prop), Lay X.K W B H σ ρ → (∀ v H' B', Same B B' → Lay X.K W B' H' σ ρ → R v → Q v H') → tWo X o σ H Q
theorem eo_none {R : Option Int → Prop} (h : R none) : Eo X W none ρ R := ⟨fun σ H B Q L k => k none H B (Same.refl _) L h⟩
@[reducible] def rInt : PyData → (Int → Prop) → Prop
  | .int i, R => R i
  | _, _ => False
theorem eo_some {R : Option Int → Prop} (h : Ev X W e ρ fun d => rInt d fun i => R (some i)) : Eo X W (some e) ρ R := by
  refine ⟨fun σ H B Q L k => ?_⟩
  refine h.run σ H B _ L fun v H1 B1 d s1 L1 D1 h2 => ?_
  cases d <;> first | exact h2.elim | skip
  exact ⟨_, dp_int D1, k _ H1 B1 s1 L1 h2⟩
/-- t[lo:hi] of a tuple -/
theorem ev_slT {lo hi : Option Expr} {p2 : Pos} (h : Ev X W e ρ fun d => Eo X W lo ρ fun l => Eo X W hi ρ fun u => match d with | .tuple ds => R (.tuple (cutD ds l u)) | _ => False) : Ev X W (.Subscript e (.Slice lo hi none p2) pos) ρ R := by
  refine ⟨fun σ H B Q L k => (pe_slice sl_tupA pe_w po_w po_w).toZ ?_⟩
  refine h.run σ H B _ L fun v H1 B1 d s1 L1 D1 h2 => ?_
  refine h2.run σ H1 B1 _ L1 fun l H2 B2 s2 L2 h3 => ?_
  refine h3.run σ H2 B2 _ L2 fun u H3 B3 s3 L3 h4 => ?_
  cases d <;> first | exact h4.elim | skip
  rename_i ds
  obtain ⟨q, vs, rfl, h5, h6⟩ := dp_tup D1
  have h7 := dpAllMono (s2.trans s3) _ _ h6
  refine ⟨q, vs, rfl, seqT ((s2.trans s3).trans L3.gr.sub) h5, fun hw => ?_, fun _ p hp => ?_⟩
  · have e1 : cutD ds l u = ds := by
      unfold cutD
      rw [dpAll_len h6] at hw
      rw [hw.1, hw.2]
      simp
    have h4' : R (.tuple (cutD ds l u)) := h4
    rw [e1] at h4'
    exact k _ H3 B3 _ ((s1.trans s2).trans s3) L3 (dpMono (s2.trans s3) _ _ D1) h4'
  · obtain ⟨s, L'⟩ := L3.fresh hp (.tup (cutV vs l u))
    exact k _ _ _ _ (((s1.trans s2).trans s3).trans s) L' (.tup (SqT.of upd_same) (dpAllMono s _ _ (cut_dq h7 l u))) h4
/-- xs[lo:hi] of a list -/
theorem el_sl {lo hi : Option Expr} {p2 : Pos} {R : List PyData → Prop} (h : Ev X W e ρ fun d => Eo X W lo ρ fun l => Eo X W hi ρ fun u => match d with | .list ds => R (cutD ds l u) | _ => False) : El X W (.Subscript e (.Slice lo hi none p2) pos) ρ R := by
  refine ⟨fun σ H B Q L k => (pe_slice sl_list pe_w po_w po_w).toZ ?_⟩
  refine h.run σ H B _ L fun v H1 B1 d s1 L1 D1 h2 => ?_
  refine h2.run σ H1 B1 _ L1 fun l H2 B2 s2 L2 h3 => ?_
  refine h3.run σ H2 B2 _ L2 fun u H3 B3 s3 L3 h4 => ?_
  cases d <;> first | exact h4.elim | skip
  rename_i ds
  obtain ⟨q, vs, rfl, h5, h6⟩ := dp_list D1
  have h7 := cut_dq (dpAllMono (s2.trans s3) _ _ h6) l u
  refine ⟨q, vs, rfl, SqL.of (L3.gr.sub _ _ ((s2.trans s3) _ _ h5)), fun p hp => ?_⟩
  obtain ⟨L', q1, q2, q3, q4⟩ := fresh_own L3 hp (cutD ds l u) (cutV vs l u) h7
  exact k p _ _ B3 _ ((s1.trans s2).trans s3) L' q1 q2 q3 q4 h7 h4
end
end Z
namespace Z
open PySem PySem.Spec PyProof.Rows L2
section
variable {X : Cx} {W : Wd} {ρ : List Sl} {D : Dz} {pos : Pos} {a b c e : Expr} {es : List Expr} {st : Stmt} {sts body : List Stmt}
/-! ### an own list lent to a test -/
theorem Lay.lend (L : Lay X.K W B H σ ρ) {i : Nat} {ds : List PyData} (hρ : ρ[i]? = some (.own ds)) (ho : ∀ (j : Nat) (sl : Sl), j ≠ i → ρ[j]? = some sl → sl.ow = false) :
    ∃ B1, Same B B1 ∧ Lay X.K W B1 H σ (ρ.set i (.im (.list ds))) ∧ ∀ B' H', Same B1 B' → Lay X.K W B' H' σ (ρ.set i (.im (.list ds))) → ∃ B'', Same B B'' ∧ Lay X.K W B'' H' σ ρ := by
  obtain ⟨p, vs, e1, e2, e3, e4, e5⟩ := L.at' i _ hρ
  have hl : i < ρ.length := (List.getElem?_eq_some_iff.mp hρ).1
  obtain ⟨B1, s1, L1⟩ := L.frz hρ
  obtain ⟨v, q1, q2⟩ := L1.at' i (.im (.list ds)) (by rw [List.getElem?_set_self hl])
  rw [e1] at q1
  cases q1
  obtain ⟨p', us, h1, h2, h3⟩ := dp_list q2
  cases h1
  have hus : us = vs := by
    have := L1.gr.sub _ _ h2
    rw [e4] at this
    cases this
    rfl
  subst hus
  refine ⟨B1, s1, L1, fun B' H' s' L' => ?_⟩
  have hb : B' p = some (.lst us) := s' _ _ h2
  have hT : ∀ T, W.T = some T → T ≠ p := fun T h q => by
    subst q
    exact (L.gr.tp T h).1 e3
  have sB : Same B (fun x => if x = p then none else B' x) := fun x o q => by
    have hx : x ≠ p := by
      rintro rfl
      rw [e2] at q
      cases q
    show (if x = p then none else B' x) = some o
    rw [if_neg hx]
    exact s' _ _ (s1 _ _ q)
  refine ⟨fun x => if x = p then none else B' x, sB, ⟨⟨fun x o q => ?_, L.gr.base.trans sB, fun x q1 q2 => ?_, L'.gr.keep, fun T q => ?_⟩, L.len, fun j sl q => ?_, L.dis⟩⟩
  · have q : (if x = p then none else B' x) = some o := q
    by_cases hx : x = p
    · rw [if_pos hx] at q
      cases q
    · rw [if_neg hx] at q
      exact L'.gr.sub _ _ q
  · show (if x = p then none else B' x) = none
    by_cases hx : x = p
    · rw [if_pos hx]
    · rw [if_neg hx]
      exact L'.gr.new x q1 q2
  · obtain ⟨t1, t2, z, k, t3, t4, t5, t6⟩ := L'.gr.tp T q
    obtain ⟨_, _, z0, k0, u3, u4, u5, u6⟩ := L.gr.tp T q
    refine ⟨t1, ?_, z, k, t3, t4, t5, ?_⟩
    · show (if T = p then none else B' T) = none
      rw [if_neg (hT T q)]
      exact t2
    · exact sB _ _ u6
  · by_cases hj : j = i
    · subst hj
      rw [hρ] at q
      cases q
      refine ⟨p, us, e1, ?_, e3, L'.gr.sub _ _ hb, dpAllMono sB _ _ e5⟩
      show (if p = p then none else B' p) = none
      rw [if_pos rfl]
    · have hw := ho j sl hj q
      cases sl with
      | no => trivial
      | im d => obtain ⟨v, g1, g2⟩ := L.at' j _ q; exact ⟨v, g1, dpMono sB _ _ g2⟩
      | own _ => cases hw
      | dic _ => cases hw
      | dct _ => cases hw
      | dcf _ => obtain ⟨a, o, ws, g1, g2, g5⟩ := L.at' j _ q; exact ⟨a, o, ws, g1, sB _ _ g2, dctMono sB g5⟩
      | tape => exact L.at' j _ q
      | obj _ _ _ _ => cases hw
      | obk _ _ _ _ => obtain ⟨fv, g1, g2, g5⟩ := L.at' j _ q; exact ⟨fv, g1, g2.mono sB, fsMono sB g5⟩
      | ptr _ => exact L.at' j _ q
theorem et_lend (i : Nat) {ds : List PyData} {R : Bool → Prop} (hρ : ρ[i]? = some (.own ds)) (ho : ∀ (j : Nat) (sl : Sl), j ≠ i → ρ[j]? = some sl → sl.ow = false) (h : Et X W e (ρ.set i (.im (.list ds))) R) : Et X W e ρ R := by
  refine ⟨fun σ H B Q L k => ?_⟩
  obtain ⟨B1, s1, L1, back⟩ := L.lend hρ ho
  refine h.run σ H B1 _ L1 fun b H' B' s' L' r => ?_
  obtain ⟨B'', s'', L''⟩ := back B' H' s' L'
  exact k b H' B'' s'' L'' r
/-- a def that hands back a fresh list -/
def ConL (K : PySem.W.Frag) (P : List PyData → (List PyData → Prop) → Prop) : Sp := fun vs H Q _ => ∃ B ds R, Same B H ∧ DqAll K B vs ds ∧ P ds R ∧ ∀ a us H' B' xs, Gr K ⟨none, (0, []), B, H⟩ B' H' → B' a = none → H a = none → H' a = some (.lst us) → DqAll K B' us xs → R xs → Q (.ref a) H'
theorem el_callL {f : Addr} {fd : FuncData} {ps : List Str} {k : Nat} {x : Str} {p : Pos} {R : List PyData → Prop} {P : List PyData → (List PyData → Prop) → Prop} (F : FnOk X.prog X.w X.K X.mg X.base CX0 k f fd ps (ConL X.K P)) (hr : Room k X.A) (hm : X.mg x = some (.ref f))
    (hk : PySem.W.keepIn X.K (.ref f) = true) (hb : Binds X.K fd ps []) (h : Ea X W (e :: es) ρ fun ds => P ds R) (hg : Gl X x := by rfl)
    (hs : starEach (e :: es) X.env = (false, eval e X.env) :: starEach es X.env := by rfl) (hpl : (backTo pos (starEach es X.env)).any (·.1) = false := by rfl) (hdb : (x == ("__debug__" : Str)) = false := by decide) : El X W (.Call (.Name x p) (e :: es) [] pos) ρ R := by
  refine ⟨fun σ H B Q L k => PE.toZ (t := tCall (ConL X.K P) [] E0 (tWa X (e :: es))) (pe_call F hr hg hm hk hb .nil pass0 pa_w hdb hs hpl) ?_⟩
  refine h.run σ H B _ L fun vs H1 B1 ds s1 L1 D1 h2 => ?_
  rw [List.append_nil]
  refine ⟨B1, ds, R, L1.gr.sub, D1, h2, fun a us H' B' xs g b1 b2 b3 b4 r => ?_⟩
  obtain ⟨s, L'⟩ := L1.called (.inl rfl) g
  refine k a us H' B' xs (s1.trans s) L' b1 ?_ ?_ b3 b4 r
  · cases q : W.H0 a with
    | none => rfl
    | some o =>
      by_cases ht : W.T = some a
      · obtain ⟨_, _, z, c, e, _⟩ := L1.gr.tp a ht
        rw [e] at b2
        cases b2
      · have := L1.gr.keep a o q ht
        rw [b2] at this
        cases this
  · intro j sl q1 q2 q3
    obtain ⟨a', o, g1, g2, g3, g4, _⟩ := (L1.at' j sl q1).owner q2
    rw [q3] at g1
    cases g1
    rw [b2] at g4
    cases g4
end
section
variable {P : Program} {w : World} {K : PySem.W.Frag} {mg : Str → Option Value} {base : Heap}
/-- .. whose body is one return -/
theorem fn_conL {x qual : Str} {st : Stmt} {f : Addr} {fd : FuncData} {N ps : List Str} {k : Nat} {P' : List PyData → (List PyData → Prop) → Prop} (F : Fun K x qual st f fd) (S : FnScope N ps (defScope st)) (len : ∀ ds R, P' ds R → ds.length = ps.length) {e : Expr} {pos : Pos} (hb : defBody st = [.Return (some e) pos])
    (body : ∀ (cdv : Value) (A : Around) (outer : List Env) (s : Shared) (H : Hp) (E : XK) (W : Wd) (ds : List PyData) (R : List PyData → Prop), Room k (Bx P w K mg base N qual (defScope st) f cdv A outer s H E).A → P' ds R →
      El (Bx P w K mg base N qual (defScope st) f cdv A outer s H E) W e (startZ N ds) R) : FnOk P w K mg base CX0 (k + 1) f fd ps (ConL K P') := by
  refine F.ok S (fun vs H Q E h => ?_) (fun cdv A outer s H vs Q E hr h => ?_)
  · obtain ⟨B, ds, R, _, h1, h2, _⟩ := h
    rw [dpAll_len h1]
    exact len ds R h2
  · obtain ⟨B, ds, R, sB, h1, h2, q⟩ := h
    rw [hb]
    refine ⟨_, pss_one (ps_ret pe_w), ?_⟩
    have L := start_lay (N := N) (T := none) (ns := (0, [])) sB (fun _ z => by cases z) h1
    exact (body cdv A outer s H E ⟨none, (0, []), B, H⟩ ds R hr h2).run _ _ _ _ L fun a us H' B' xs s' L' q1 q2 q3 q4 q5 r => q a us H' B' xs L'.gr q1 q2 q4 q5 r
end
end Z
namespace Z
open PySem PySem.Spec PyProof.Rows L2
/-- slots forgotten -/
inductive Wk : List Sl → List Sl → Prop
  | nil : Wk [] []
  | eq {x : Sl} {a b : List Sl} : Wk a b → Wk (x :: a) (x :: b)
  | no {x : Sl} {a b : List Sl} : Wk a b → Wk (.no :: a) (x :: b)
theorem Wk.len : ∀ {a b : List Sl}, Wk a b → a.length = b.length
  | _, _, .nil => rfl
  | _, _, .eq h => by simp [h.len]
  | _, _, .no h => by simp [h.len]
theorem Wk.at' : ∀ {a b : List Sl}, Wk a b → ∀ (i : Nat) (sl : Sl), a[i]? = some sl → sl = .no ∨ b[i]? = some sl
  | _, _, .nil, i, sl, e => by simp at e
  | _, _, .eq h, 0, sl, e => .inr e
  | _, _, .eq h, i + 1, sl, e => by simpa using h.at' i sl (by simpa using e)
  | _, _, .no h, 0, sl, e => by simp at e; exact .inl e.symm
  | _, _, .no h, i + 1, sl, e => by simpa using h.at' i sl (by simpa using e)
section
variable {X : Cx} {W : Wd} {ρ : List Sl} {D : Dz} {sts : List Stmt} {st : Stmt}
theorem Lay.weak {K : PySem.W.Frag} {B H : Hp} {σ : L2.St} (L : Lay K W B H σ ρ) {ρ' : List Sl} (w : Wk ρ' ρ) : Lay K W B H σ ρ' := by
  refine ⟨L.gr, by rw [w.len]; exact L.len, fun i sl e => ?_, fun i j s t hne e1 e2 o1 o2 => ?_⟩
  · rcases w.at' i sl e with q | q
    · subst q
      trivial
    · exact L.at' i sl q
  · rcases w.at' i s e1 with q | q
    · subst q
      cases o1
    · rcases w.at' j t e2 with q2 | q2
      · subst q2
        cases o2
      · exact L.dis i j s t hne q q2 o1 o2
theorem ess_weak (ρ' : List Sl) (w : Wk ρ' ρ) (h : Ess X W sts ρ' D) : Ess X W sts ρ D := ⟨fun σ H B L => h.run σ H B (L.weak w)⟩
theorem es_weak (ρ' : List Sl) (w : Wk ρ' ρ) (h : Es X W st ρ' D) : Es X W st ρ D := ⟨fun σ H B L => h.run σ H B (L.weak w)⟩
end
/-- no other slot is an owner -/
inductive No1 : Nat → List Sl → Prop
  | here {x : Sl} {a : List Sl} : (∀ sl ∈ a, sl.ow = false) → No1 0 (x :: a)
  | next {x : Sl} {i : Nat} {a : List Sl} : x.ow = false → No1 i a → No1 (i + 1) (x :: a)
theorem No1.at' : ∀ {i : Nat} {a : List Sl}, No1 i a → ∀ (j : Nat) (sl : Sl), j ≠ i → a[j]? = some sl → sl.ow = false
  | _, _, .here h, 0, sl, hj, e => absurd rfl hj
  | _, _, .here h, j + 1, sl, hj, e => h sl (List.mem_of_getElem? (by simpa using e))
  | _, _, .next h1 h2, 0, sl, hj, e => by simp at e; rw [← e]; exact h1
  | _, _, .next h1 h2, j + 1, sl, hj, e => h2.at' j sl (by omega) (by simpa using e)
end Z
namespace Z
open PySem PySem.Spec PyProof.Rows L2
section
variable {X : Cx} {W : Wd} {ρ : List Sl} {D : Dz} {R : PyData → Prop} {pos : Pos} {a b c e o : Expr} {es : List Expr}
/-- xs.index(e): the first place of an int -/
theorem ev_index {pa : Pos} (h : Ev X W o ρ fun d => ∃ ns : List Int, d = .list (ns.map PyData.int) ∧ Ev X W e ρ fun x => ∃ (m : Int) (j : Nat), x = .int m ∧ ns[j]? = some m ∧ (∀ k : Nat, k < j → ns[k]? ≠ some m) ∧ R (.int (j : Int)))
    (hbase : attributeBase o "index" X.env (eval o X.env) = eval o X.env := by rfl)
    (hfew : ((backTo pos (starEach [e] X.env)).all (fun x => !x.1) && (backToKw pos (keywordEach [] X.env)).all (fun x => x.1.isSome) && decide (([e] : List Expr).length + ([] : List Keyword).length + (if ([] : List Keyword).isEmpty then 0 else 1) < 30)) = true := by rfl)
    (hline : (pa.endLine == pos.line) = true := by rfl) (hse : starEach [e] X.env = (false, eval e X.env) :: starEach [] X.env := by rfl) (hpl : (backTo pos (starEach [] X.env)).any (·.1) = false := by rfl) :
    Ev X W (.Call (.Attribute o "index" pa) [e] [] pos) ρ R := by
  refine ⟨fun σ H B Q L k => (pe_bm PySem.F.plainAttrs_list PySem.F.slot_list_index PySem.F.type_list_index mt_index pe_w (pa_cons pe_w pa_nil hse) hbase hfew hline hse hpl).toZ ?_⟩
  refine h.run σ H B _ L fun v H1 B1 d s1 L1 D1 h2 => ?_
  obtain ⟨ns, rfl, h2⟩ := h2
  obtain ⟨p, vs, rfl, h3, h4⟩ := dp_list D1
  refine ⟨.inl ⟨rfl, vs, SqL.of (L1.gr.sub _ _ h3)⟩, ?_⟩
  refine h2.run σ H1 B1 _ L1 fun u H2 B2 d' s2 L2 D2 h5 => ?_
  obtain ⟨m, j, e2, e3, e4, e5⟩ := h5
  subst e2
  cases dp_int D2
  cases dq_ints h4
  refine ⟨p, ns.map V.int, .int m, j, .int m, rfl, rfl, SqL.of (L2.gr.sub _ _ (s2 _ _ h3)), rfl, ?_, ?_, ?_, fun q z hq hz => ?_, k _ H2 B2 _ (s1.trans s2) L2 (.int _) e5⟩
  · rw [List.all_eq_true]
    intro x hx
    obtain ⟨i, _, rfl⟩ := List.mem_map.mp hx
    rfl
  · rw [List.getElem?_map, e3]
    rfl
  · show (m == m) = true
    exact beq_self_eq_true m
  · rw [List.getElem?_map] at hz
    cases hq2 : ns[q]? with
    | none => rw [hq2] at hz; cases hz
    | some i =>
      rw [hq2] at hz
      cases hz
      have := e4 q hq
      rw [hq2] at this
      show (i == m) = false
      exact beq_eq_false_iff_ne.mpr fun e => this (by rw [e])
end
end Z

namespace Z
open PySem PySem.Spec PyProof.Rows L2
section
variable {X : Cx} {W : Wd} {ρ : List Sl} {D : Dz} {R : PyData → Prop} {pos : Pos} {a b c e : Expr} {es : List Expr} {st : Stmt} {sts body : List Stmt} {B H : Hp} {σ : L2.St}
/-! ### dicts with int keys -/
theorem fresh_any {K : PySem.W.Frag} {B H : Hp} {σ : L2.St} (L : Lay K W B H σ ρ) {p : Addr} (hp : H p = none) (o0 : HO) :
    Lay K W B (upd H p o0) σ ρ ∧ B p = none ∧ W.H0 p = none ∧ (∀ (j : Nat) (sl : Sl), ρ[j]? = some sl → sl.ow = true → σ[j]? ≠ some (some (.ref p))) ∧ (upd H p o0) p = some o0 := by
  have bp : B p = none := Same.free L.gr.sub hp
  have h0 : W.H0 p = none := by
    cases q : W.H0 p with
    | none => rfl
    | some u =>
      by_cases ht : W.T = some p
      · obtain ⟨_, t⟩ := L.gr.tp p ht
        obtain ⟨_, i, c, e, _⟩ := t
        rw [e] at hp
        cases hp
      · have := L.gr.keep p u q ht
        rw [hp] at this
        cases this
  have np : ∀ a u, H a = some u → a ≠ p := fun a u e => ne_of_none e hp
  refine ⟨⟨⟨same_right L.gr.sub bp, L.gr.base, L.gr.new, fun a o h1 h2 => ?_, fun T h => ?_⟩, L.len, fun i sl e => (L.at' i sl e).grow (Same.refl _) fun a u _ _ h2 _ h4 => ?_, L.dis⟩, bp, h0, fun j sl e1 e2 q => ?_, upd_same⟩
  · have := L.gr.keep a o h1 h2
    rw [upd_ne (np a o this)]
    exact this
  · obtain ⟨t1, t2⟩ := L.gr.tp T h
    obtain ⟨_, i, c, e, _⟩ := id t2
    exact ⟨t1, t2.mono (Same.refl _) t2.1 fun o ho => by rw [upd_ne (np T _ e)]; exact ho⟩
  · rw [upd_ne (np a u h4)]
    exact ⟨h2, h4⟩
  · obtain ⟨a, o, g1, g2, g3, g4, _⟩ := (L.at' j sl e1).owner e2
    rw [q] at g1
    cases g1
    rw [hp] at g4
    cases g4

theorem Lay.ownD (L : Lay X.K W B H σ ρ) {i : Nat} {p : Addr} {ws : List (Key × V)} {kvs : List (Key × PyData)} (h1 : B p = none) (h2 : W.H0 p = none) (h3 : ∀ (j : Nat) (sl : Sl), ρ[j]? = some sl → sl.ow = true → σ[j]? ≠ some (some (.ref p))) (h4 : H p = some (.dK ws)) (h5 : KvD X.K B ws kvs) :
    Lay X.K W B H (σ.set i (some (.ref p))) (ρ.set i (.dic kvs)) := by
  refine ⟨L.gr, by simp [L.len], fun j sl e => ?_, fun j k s t hne e1 e2 o1 o2 => ?_⟩
  · by_cases hj : i = j
    · subst hj
      have hl : i < ρ.length := by
        have := (List.getElem?_eq_some_iff.mp e).1
        simpa using this
      rw [List.getElem?_set_self hl] at e
      cases e
      rw [List.getElem?_set_self (by rw [L.len]; exact hl)]
      exact ⟨p, ws, rfl, h1, h2, h4, h5⟩
    · rw [List.getElem?_set_ne hj] at e ⊢
      exact L.at' j sl e
  · by_cases hj : i = j
    · subst hj
      have hl : i < ρ.length := by
        have := (List.getElem?_eq_some_iff.mp e1).1
        simpa using this
      rw [List.getElem?_set_self (by rw [L.len]; exact hl)]
      rw [List.getElem?_set_ne hne] at e2 ⊢
      exact fun q => h3 k t e2 o2 q.symm
    · by_cases hk : i = k
      · subst hk
        have hl : i < ρ.length := by
          have := (List.getElem?_eq_some_iff.mp e2).1
          simpa using this
        rw [List.getElem?_set_self (by rw [L.len]; exact hl)]
        rw [List.getElem?_set_ne hj] at e1 ⊢
        exact h3 j s e1 o1
      · rw [List.getElem?_set_ne hj] at e1 ⊢
        rw [List.getElem?_set_ne hk] at e2 ⊢
        exact L.dis j k s t hne e1 e2 o1 o2

theorem Lay.chgD (L : Lay X.K W B H σ ρ) {i : Nat} {p : Addr} {ws : List (Key × V)} {kvs kvs0 : List (Key × PyData)} (hρ : ρ[i]? = some (.dic kvs0)) (hσ : σ[i]? = some (some (.ref p))) (h5 : KvD X.K B ws kvs) : Lay X.K W B (upd H p (.dK ws)) σ (ρ.set i (.dic kvs)) := by
  obtain ⟨p', vs0, e1, e2, e3, e4, e5⟩ := L.at' i _ hρ
  rw [hσ] at e1
  cases e1
  have hl : i < ρ.length := (List.getElem?_eq_some_iff.mp hρ).1
  have hT : ∀ T, W.T = some T → T ≠ p := fun T h q => by
    subst q
    exact (L.gr.tp T h).1 e3
  refine ⟨⟨same_right L.gr.sub e2, L.gr.base, L.gr.new, fun a o h1 h2 => ?_, fun T h => ?_⟩, by simp [L.len], fun j sl e => ?_, fun j k s t hne f1 f2 o1 o2 => ?_⟩
  · have ha : a ≠ p := by
      rintro rfl
      rw [e3] at h1
      cases h1
    rw [upd_ne ha]
    exact L.gr.keep a o h1 h2
  · obtain ⟨t1, t2⟩ := L.gr.tp T h
    exact ⟨t1, t2.mono (Same.refl _) t2.1 fun o ho => by rw [upd_ne (hT T h)]; exact ho⟩
  · by_cases hj : i = j
    · subst hj
      rw [List.getElem?_set_self hl] at e
      cases e
      exact ⟨p, ws, hσ, e2, e3, upd_same, h5⟩
    · rw [List.getElem?_set_ne hj] at e
      refine (L.at' j sl e).grow (Same.refl _) fun a o g1 g2 g3 _ g5 => ⟨g3, ?_⟩
      have ha : a ≠ p := by
        rintro rfl
        exact L.dis i j _ sl hj hρ e rfl g2 (hσ.trans g1.symm)
      rw [upd_ne ha]
      exact g5
  · have q1 : ∃ s', ρ[j]? = some s' ∧ s'.ow = true := by
      by_cases hj : i = j
      · subst hj
        exact ⟨_, hρ, rfl⟩
      · rw [List.getElem?_set_ne hj] at f1
        exact ⟨s, f1, o1⟩
    have q2 : ∃ s', ρ[k]? = some s' ∧ s'.ow = true := by
      by_cases hj : i = k
      · subst hj
        exact ⟨_, hρ, rfl⟩
      · rw [List.getElem?_set_ne hj] at f2
        exact ⟨t, f2, o2⟩
    obtain ⟨s', g1, g2⟩ := q1
    obtain ⟨t', g3, g4⟩ := q2
    exact L.dis j k s' t' hne g1 g3 g2 g4

/-! what a dict holds, as data -/
def gtD (kvs : List (Key × PyData)) (k : Key) : Option PyData := (kvs.find? fun kv => decide (kv.1 = k)).map (·.2)
def ptD (kvs : List (Key × PyData)) (k : Key) (d : PyData) : List (Key × PyData) := if (gtD kvs k).isSome = true then kvs.map fun kv => if kv.1 = k then (kv.1, d) else kv else kvs ++ [(k, d)]
theorem gtD_nil {k : Key} : gtD [] k = none := rfl
theorem gtD_pos {p : Key × PyData} {r : List (Key × PyData)} {k : Key} (e : p.1 = k) : gtD (p :: r) k = some p.2 := by simp [gtD, List.find?_cons, e]
theorem gtD_neg {p : Key × PyData} {r : List (Key × PyData)} {k : Key} (e : ¬ p.1 = k) : gtD (p :: r) k = gtD r k := by simp [gtD, List.find?_cons, e]
theorem gtD_map (k j : Key) (y : PyData) : ∀ kvs : List (Key × PyData), gtD (kvs.map fun kv => if kv.1 = k then (kv.1, y) else kv) j = (gtD kvs j).map fun x => if j = k then y else x
  | [] => rfl
  | p :: r => by
    rw [List.map_cons]
    by_cases e : p.1 = k
    · rw [if_pos e]
      by_cases q : p.1 = j
      · rw [gtD_pos (p := (p.1, y)) q, gtD_pos q, Option.map_some, if_pos (q.symm.trans e)]
      · rw [gtD_neg (p := (p.1, y)) q, gtD_neg q, gtD_map]
    · rw [if_neg e]
      by_cases q : p.1 = j
      · rw [gtD_pos q, gtD_pos q, Option.map_some, if_neg (fun z => e (q.trans z))]
      · rw [gtD_neg q, gtD_neg q, gtD_map]
theorem gtD_snoc (k j : Key) (y : PyData) : ∀ kvs : List (Key × PyData), gtD kvs k = none → gtD (kvs ++ [(k, y)]) j = if j = k then some y else gtD kvs j
  | [], _ => by
    by_cases e : j = k
    · rw [if_pos e]
      exact gtD_pos e.symm
    · rw [if_neg e]
      exact gtD_neg fun z => e z.symm
  | p :: r, h => by
    by_cases e : p.1 = k
    · rw [gtD_pos e] at h
      cases h
    · rw [gtD_neg e] at h
      rw [List.cons_append]
      by_cases q : p.1 = j
      · rw [gtD_pos q, gtD_pos q, if_neg (fun z => e (q.trans z))]
      · rw [gtD_neg q, gtD_neg q, gtD_snoc k j y r h]
theorem gtD_put (kvs : List (Key × PyData)) (k j : Key) (y : PyData) : gtD (ptD kvs k y) j = if j = k then some y else gtD kvs j := by
  unfold ptD
  by_cases a : (gtD kvs k).isSome = true
  · rw [if_pos a, gtD_map]
    by_cases e : j = k
    · obtain ⟨x, hx⟩ := Option.isSome_iff_exists.mp a
      rw [if_pos e, e, hx, Option.map_some, if_pos rfl]
    · rw [if_neg e]
      cases gtD kvs j with
      | none => rfl
      | some x => rw [Option.map_some, if_neg e]
  · rw [if_neg a]
    refine gtD_snoc k j y kvs ?_
    cases q : gtD kvs k with
    | none => rfl
    | some x => rw [q] at a; exact (a rfl).elim
theorem ptD_len (kvs : List (Key × PyData)) (k : Key) (v : PyData) : (ptD kvs k v).length ≤ kvs.length + 1 := by
  unfold ptD
  split
  · rw [List.length_map]; omega
  · rw [List.length_append, List.length_cons, List.length_nil]; omega
theorem kv_val {K : PySem.W.Frag} {ws : List (Key × V)} {kvs : List (Key × PyData)} (h : KvD K B ws kvs) (k : Key) : (valV ws k = none ∧ gtD kvs k = none) ∨ ∃ v d, valV ws k = some v ∧ gtD kvs k = some d ∧ Dq K B v d := by
  unfold KvD at h
  induction h with
  | nil => exact .inl ⟨rfl, rfl⟩
  | @cons p q ps qs h t ih =>
    obtain ⟨h1, h2⟩ := h
    by_cases e : p.1 = k
    · exact .inr ⟨p.2, q.2, valV_pos e, gtD_pos (h1.symm.trans e), h2⟩
    · rw [valV_neg e, gtD_neg (fun z => e (h1.trans z))]
      exact ih
theorem kv_some {K : PySem.W.Frag} {ws : List (Key × V)} {kvs : List (Key × PyData)} (h : KvD K B ws kvs) (k : Key) : (valV ws k).isSome = (gtD kvs k).isSome := by
  rcases kv_val h k with ⟨e1, e2⟩ | ⟨v, d, e1, e2, _⟩ <;> rw [e1, e2] <;> rfl
theorem kv_put {K : PySem.W.Frag} {ws : List (Key × V)} {kvs : List (Key × PyData)} (h : KvD K B ws kvs) (k : Key) {v : V} {d : PyData} (hd : Dq K B v d) : KvD K B (putK ws k v) (ptD kvs k d) := by
  have hs := kv_some h k
  unfold putK ptD
  rw [valV_any, hs]
  by_cases q : (gtD kvs k).isSome = true
  · rw [if_pos q, if_pos q]
    unfold KvD at h ⊢
    clear q hs
    induction h with
    | nil => exact .nil
    | @cons p q ps qs h t ih =>
      rw [List.map_cons, List.map_cons]
      refine .cons ?_ ih
      obtain ⟨h1, h2⟩ := h
      by_cases e : p.1 = k
      · rw [if_pos e, if_pos (h1.symm.trans e)]; exact ⟨h1, hd⟩
      · rw [if_neg e, if_neg (fun z => e (h1.trans z))]; exact ⟨h1, h2⟩
  · rw [if_neg q, if_neg q]
    exact Paired.snoc h ⟨rfl, hd⟩
theorem kv_len {K : PySem.W.Frag} {ws : List (Key × V)} {kvs : List (Key × PyData)} (h : KvD K B ws kvs) : ws.length = kvs.length := Paired.length h
/-- a fresh, empty dict comes to a slot -/
theorem Lay.newD (L : Lay X.K W B H σ ρ) (i : Nat) {p : Addr} (hp : H p = none) : Lay X.K W B (upd H p (.dK [])) (σ.set i (some (.ref p))) (ρ.set i (.dic [])) := by
  obtain ⟨L', h1, h2, h3, h4⟩ := fresh_any L hp (.dK [])
  exact L'.ownD h1 h2 h3 h4 .nil
theorem no_put {p : Addr} {i : Nat} {v : V} {d : PyData} (h : ∀ (j : Nat) (sl : Sl), ρ[j]? = some sl → sl.ow = true → σ[j]? ≠ some (some (.ref p))) : ∀ (j : Nat) (sl : Sl), (ρ.set i (.im d))[j]? = some sl → sl.ow = true → (σ.set i (some v))[j]? ≠ some (some (.ref p)) := fun j sl e1 e2 => by
  by_cases hj : i = j
  · subst hj
    have hl : i < ρ.length := by
      have := (List.getElem?_eq_some_iff.mp e1).1
      simpa using this
    rw [List.getElem?_set_self hl] at e1
    cases e1
    cases e2
  · rw [List.getElem?_set_ne hj] at e1 ⊢
    exact h j sl e1 e2
/-- x = {} -/
theorem es_dic (i : Nat) {x : Str} {pos' dp : Pos} (h : D.nx (ρ.set i (.dic []))) (hN : X.N.Nodup) (hi : X.N[i]? = some x := by rfl) (hx : Loc X.env.scope x := by first | exact .inl rfl | exact .inr rfl) (hs : swapsWith (.Dict [] [] dp) (some (.Name x pos')) pos.line X.env = pure false := by rfl)
    (hf : X.fn x = true ∨ X.env.scope.names.lookup x = some .local := by first | exact .inl rfl | exact .inr rfl | assumption) : Es X W (.Assign [.Name x pos'] (.Dict [] [] dp) pos) ρ D :=
  ⟨fun σ H B L => (ps_set hN hi hx pe_dnewK hs hf).toZ fun p hp => ⟨B, _, Same.refl _, L.newD i hp, h⟩⟩
/-- x, y, z = {}, m, n -/
theorem es_par3D (i j l : Nat) {m n : Int} {x y z : Str} {px py pz pt dp p1 p2 : Pos} {kt k2 pt2 j1 j2} (h : D.nx (((ρ.set i (.dic [])).set j (.im (.int m))).set l (.im (.int n)))) (hc : X.calm = true) (hN : X.N.Nodup)
    (hi : X.N[i]? = some x := by rfl) (hj : X.N[j]? = some y := by rfl) (hl : X.N[l]? = some z := by rfl) (hij : i ≠ j := by decide) (hil : i ≠ l := by decide) (hjl : j ≠ l := by decide)
    (hx : X.env.scope.names.lookup x = some .local := by rfl) (hy : X.env.scope.names.lookup y = some .local := by rfl) (hz : X.env.scope.names.lookup z = some .local := by rfl)
    (hw : swappedStores [.Tuple [.Name x px, .Name y py, .Name z pz] kt pt] (.Tuple [.Dict [] [] dp, .Constant (.int m) j1 p1, .Constant (.int n) j2 p2] k2 pt2) X.env = pure (some [x, y, z]) := by rfl)
    (hs : swapsWithSole [.Tuple [.Name x px, .Name y py, .Name z pz] kt pt] (.Tuple [.Dict [] [] dp, .Constant (.int m) j1 p1, .Constant (.int n) j2 p2] k2 pt2) pos.line X.env = pure false := by rfl) :
    Es X W (.Assign [.Tuple [.Name x px, .Name y py, .Name z pz] kt pt] (.Tuple [.Dict [] [] dp, .Constant (.int m) j1 p1, .Constant (.int n) j2 p2] k2 pt2) pos) ρ D := by
  refine ⟨fun σ H B L => (ps_par3 hc hN hi hj hl hij hil hjl hx hy hz (pa_cons pe_dnewK (pa_cons pe_int (pa_cons pe_int pa_nil rfl) rfl) rfl) hw hs).toZ ?_⟩
  intro p hp
  exact ⟨_, _, _, rfl, B, _, Same.refl _, ((L.newD i hp).put (.int m)).put (.int n), h⟩
/-- x, y, z, t = a, m, n, {} -/
theorem es_par4D (i j l o : Nat) {m n : Int} {x y z t : Str} {px py pz pq pt dp p1 p2 : Pos} {kt k2 pt2 j1 j2} (h : Ev X W a ρ fun d => D.nx ((((ρ.set i (.im d)).set j (.im (.int m))).set l (.im (.int n))).set o (.dic []))) (hc : X.calm = true) (hN : X.N.Nodup)
    (hi : X.N[i]? = some x := by rfl) (hj : X.N[j]? = some y := by rfl) (hl : X.N[l]? = some z := by rfl) (ho : X.N[o]? = some t := by rfl)
    (hx : X.env.scope.names.lookup x = some .local := by rfl) (hy : X.env.scope.names.lookup y = some .local := by rfl) (hz : X.env.scope.names.lookup z = some .local := by rfl) (ht : X.env.scope.names.lookup t = some .local := by rfl)
    (hx' : Loc X.env.scope x := by first | exact .inl rfl | exact .inr rfl) (hy' : Loc X.env.scope y := by first | exact .inl rfl | exact .inr rfl) (hz' : Loc X.env.scope z := by first | exact .inl rfl | exact .inr rfl) (ht' : Loc X.env.scope t := by first | exact .inl rfl | exact .inr rfl)
    (n1 : (assignEach [.Name x px, .Name y py, .Name z pz, .Name t pq] X.env).map (·.2) = assign (.Name x px) X.env :: (assignEach [.Name y py, .Name z pz, .Name t pq] X.env).map (·.2) := by rfl)
    (n2 : (assignEach [.Name y py, .Name z pz, .Name t pq] X.env).map (·.2) = assign (.Name y py) X.env :: (assignEach [.Name z pz, .Name t pq] X.env).map (·.2) := by rfl)
    (n3 : (assignEach [.Name z pz, .Name t pq] X.env).map (·.2) = assign (.Name z pz) X.env :: (assignEach [.Name t pq] X.env).map (·.2) := by rfl)
    (n4 : (assignEach [.Name t pq] X.env).map (·.2) = assign (.Name t pq) X.env :: (assignEach [] X.env).map (·.2) := by rfl)
    (n5 : (assignEach [.Name x px, .Name y py, .Name z pz, .Name t pq] X.env).length = 4 := by rfl) (n6 : (assignEach [.Name x px, .Name y py, .Name z pz, .Name t pq] X.env).findIdx? (·.1) = none := by rfl)
    (hse : starEach [a, .Constant (.int m) j1 p1, .Constant (.int n) j2 p2, .Dict [] [] dp] X.env = (false, eval a X.env) :: starEach [.Constant (.int m) j1 p1, .Constant (.int n) j2 p2, .Dict [] [] dp] X.env := by rfl)
    (hs : swapsWithSole [.Tuple [.Name x px, .Name y py, .Name z pz, .Name t pq] kt pt] (.Tuple [a, .Constant (.int m) j1 p1, .Constant (.int n) j2 p2, .Dict [] [] dp] k2 pt2) pos.line X.env = pure false := by rfl)
    (hw : swappedStores [.Tuple [.Name x px, .Name y py, .Name z pz, .Name t pq] kt pt] (.Tuple [a, .Constant (.int m) j1 p1, .Constant (.int n) j2 p2, .Dict [] [] dp] k2 pt2) X.env = pure none := by rfl)
    (h1 : (assignEach [.Tuple [.Name x px, .Name y py, .Name z pz, .Name t pq] kt pt] X.env).map (·.2) = [assign (.Tuple [.Name x px, .Name y py, .Name z pz, .Name t pq] kt pt) X.env] := by rfl) :
    Es X W (.Assign [.Tuple [.Name x px, .Name y py, .Name z pz, .Name t pq] kt pt] (.Tuple [a, .Constant (.int m) j1 p1, .Constant (.int n) j2 p2, .Dict [] [] dp] k2 pt2) pos) ρ D := by
  refine ⟨fun σ H B L => (ps_asg (pe_tup (pa_cons pe_w (pa_cons pe_int (pa_cons pe_int (pa_cons pe_dnewK pa_nil rfl) rfl) rfl) hse))
    (pg_tup hc (pgs_cons (pg_name hN hi hx' (.inr hx)) (pgs_cons (pg_name hN hj hy' (.inr hy)) (pgs_cons (pg_name hN hl hz' (.inr hz)) (pgs_cons (pg_name hN ho ht' (.inr ht)) pgs_nil n4) n3) n2) n1) n5 n6) hs hw h1).toZ ?_⟩
  refine h.run σ H B _ L fun v H1 B1 d s1 L1 D1 h2 => ?_
  intro p hp
  refine ⟨by rw [sizeLine_eq]; exact (by decide : 4 ≤ 16777216), fun q hq => ?_⟩
  obtain ⟨L2, g1, g2, g3, g4⟩ := fresh_any L1 hp (.dK [])
  obtain ⟨L3, _⟩ := fresh_any L2 hq (.tup [v, .int m, .int n, .ref p])
  have hpq : p ≠ q := ne_of_none g4 hq
  have g5 : (upd (upd H1 p (.dK [])) q (.tup [v, .int m, .int n, .ref p])) p = some (.dK []) := by
    rw [upd_ne hpq]
    exact g4
  refine ⟨q, _, rfl, SqT.of upd_same, rfl, _, _, rfl, _, _, rfl, _, _, rfl, _, _, rfl, rfl, B1, _, s1, ?_, h2⟩
  refine Lay.ownD (((L3.put D1).put (.int m)).put (.int n)) g1 g2 (no_put (no_put (no_put g3))) g5 .nil
/-- e in d -/
theorem et_inD (i : Nat) {x : Str} {px : Pos} {kvs : List (Key × PyData)} {R : Bool → Prop} (hρ : ρ[i]? = some (.dic kvs)) (hu : X.A.units + 1 < cLine) (h : Ev X W a ρ fun y => match y with | .int z => R (gtD kvs (.inl z)).isSome | _ => False) (hN : X.N[i]? = some x := by rfl)
    (hv : Vis X.env.scope x := by first | exact Or.inl rfl | exact Or.inr (Or.inl rfl) | exact Or.inr (Or.inr rfl)) (hd : (x == ("__debug__" : Str)) = false := by decide) (hcd : (x == ("__classdict__" : Str)) = false := by decide) : Et X W (.Compare a [.In] [.Name x px] pos) ρ R := by
  refine ⟨fun σ H B Q L k => (pt_cmp (pc_din hu pe_w (pe_var hN hv hd hcd))).toZ ?_⟩
  refine h.run σ H B _ L fun v H1 B1 y s1 L1 D1 h2 => ?_
  cases y <;> first | exact h2.elim | skip
  rename_i z
  obtain ⟨p, ws, e1, e2, e3, e4, e5⟩ := L1.at' i _ hρ
  cases dp_int D1
  refine ⟨.ref p, e1, p, _, rfl, DGet.k (k := .inl z) e4, ?_⟩
  rw [kv_some e5]
  exact ⟨_, rfl, k _ H1 B1 s1 L1 h2⟩
theorem et_notInD (i : Nat) {x : Str} {px : Pos} {kvs : List (Key × PyData)} {R : Bool → Prop} (hρ : ρ[i]? = some (.dic kvs)) (hu : X.A.units + 1 < cLine) (h : Ev X W a ρ fun y => match y with | .int z => R (!(gtD kvs (.inl z)).isSome) | _ => False) (hN : X.N[i]? = some x := by rfl)
    (hv : Vis X.env.scope x := by first | exact Or.inl rfl | exact Or.inr (Or.inl rfl) | exact Or.inr (Or.inr rfl)) (hd : (x == ("__debug__" : Str)) = false := by decide) (hcd : (x == ("__classdict__" : Str)) = false := by decide) : Et X W (.Compare a [.NotIn] [.Name x px] pos) ρ R := by
  refine ⟨fun σ H B Q L k => (pt_cmp (pc_dnotin hu pe_w (pe_var hN hv hd hcd))).toZ ?_⟩
  refine h.run σ H B _ L fun v H1 B1 y s1 L1 D1 h2 => ?_
  cases y <;> first | exact h2.elim | skip
  rename_i z
  obtain ⟨p, ws, e1, e2, e3, e4, e5⟩ := L1.at' i _ hρ
  cases dp_int D1
  refine ⟨.ref p, e1, p, _, rfl, DGet.k (k := .inl z) e4, ?_⟩
  rw [kv_some e5]
  exact ⟨_, rfl, k _ H1 B1 s1 L1 h2⟩
/-- d[e] -/
theorem ev_ixD (i : Nat) {x : Str} {px : Pos} {kvs : List (Key × PyData)} (hρ : ρ[i]? = some (.dic kvs)) (hu : X.A.units + 1 < cLine) (h : Ev X W b ρ fun y => match y with | .int z => ∃ d, gtD kvs (.inl z) = some d ∧ R d | _ => False) (hN : X.N[i]? = some x := by rfl)
    (hs : NoSl b := by exact fun _ _ => rfl) (hv : Vis X.env.scope x := by first | exact Or.inl rfl | exact Or.inr (Or.inl rfl) | exact Or.inr (Or.inr rfl)) (hd : (x == ("__debug__" : Str)) = false := by decide) (hcd : (x == ("__classdict__" : Str)) = false := by decide) : Ev X W (.Subscript (.Name x px) b pos) ρ R := by
  refine ⟨fun σ H B Q L k => (pe_dget hu (pe_var hN hv hd hcd) pe_w hs).toZ ?_⟩
  obtain ⟨p, vs, e1, e2, e3, e4, e5⟩ := L.at' i _ hρ
  refine ⟨.ref p, e1, ?_⟩
  refine h.run σ H B _ L fun u H2 B2 y s2 L2 D2 h3 => ?_
  cases y <;> first | exact h3.elim | skip
  rename_i z
  obtain ⟨d, hd, r⟩ := h3
  obtain ⟨p', vs', f1, f2, f3, f4, f5⟩ := L2.at' i _ hρ
  rw [e1] at f1
  cases f1
  cases dp_int D2
  rcases kv_val f5 (.inl z) with ⟨q1, q2⟩ | ⟨v, d', q1, q2, q3⟩
  · rw [q2] at hd
    cases hd
  · rw [q2] at hd
    cases hd
    refine ⟨p, v, rfl, ?_, k v H2 B2 _ s2 L2 q3 r⟩
    rw [← q1]
    exact DGet.k (k := .inl z) f4
/-- d[b] = e -/
theorem es_putD (i : Nat) {x : Str} {px p2 : Pos} {kvs : List (Key × PyData)} (hρ : ρ[i]? = some (.dic kvs)) (hu : X.A.units + 1 < cLine) (h : Ev X W e ρ fun d => Ev X W b ρ fun y => match y with | .int z => kvs.length < sizeLine ∧ D.nx (ρ.set i (.dic (ptD kvs (.inl z) d))) | _ => False) (hN : X.N[i]? = some x := by rfl)
    (hv : Vis X.env.scope x := by first | exact Or.inl rfl | exact Or.inr (Or.inl rfl) | exact Or.inr (Or.inr rfl)) (hd : (x == ("__debug__" : Str)) = false := by decide) (hcd : (x == ("__classdict__" : Str)) = false := by decide)
    (hs : swapsWith e (some (.Subscript (.Name x px) b p2)) pos.line X.env = pure false := by rfl) : Es X W (.Assign [.Subscript (.Name x px) b p2] e pos) ρ D := by
  refine ⟨fun σ H B L => (ps_dput hu (pe_var hN hv hd hcd) pe_w pe_w hs).toZ ?_⟩
  refine h.run σ H B _ L fun v H1 B1 d s1 L1 D1 h2 => ?_
  obtain ⟨p, vs, e1, e2, e3, e4, e5⟩ := L1.at' i _ hρ
  refine ⟨.ref p, e1, ?_⟩
  refine h2.run σ H1 B1 _ L1 fun u H2 B2 y s2 L2 D2 h3 => ?_
  cases y <;> first | exact h3.elim | skip
  rename_i z
  obtain ⟨hl, hn⟩ := h3
  obtain ⟨p', vs', f1, f2, f3, f4, f5⟩ := L2.at' i _ hρ
  rw [e1] at f1
  cases f1
  cases dp_int D2
  exact ⟨p, _, rfl, DPut.k (k := .inl z) f4 (by rw [kv_len f5]; exact hl), B2, _, s1.trans s2, L2.chgD hρ e1 (kv_put f5 (.inl z) (dpMono s2 _ _ D1)), hn⟩
/-! ### len(set(xs)) -/
def tLenSetL (K : PySem.W.Frag) (ta : TE) : TE := fun σ H Q => ta σ H fun x H1 => ∃ (l : Addr) (ns : List Int), x = .ref l ∧ SqL K H1 l (ns.map V.int) ∧ ns.length ≤ 4000 ∧ Q (.int ((PyProof.Rows.firstMet (fun i => ns.getD i 0) ns.length).length : Nat)) H1
theorem pe_lenSetL {p p2 q : Pos} {ta : TE} (hg : Gl X "len") (hm : X.mg "len" = none) (hg2 : Gl X "set") (hm2 : X.mg "set" = none) (ha : PE X a ta) (hc : X.calm = true)
    (na : starEach [a] X.env = (false, eval a X.env) :: starEach [] X.env) (n2 : (starEach [.Call (.Name "set" p2) [a] [] q] X.env) = (false, eval (.Call (.Name "set" p2) [a] [] q) X.env) :: starEach [] X.env) : PE X (.Call (.Name "len" p) [.Call (.Name "set" p2) [a] [] q] [] pos) (tLenSetL X.K ta) := by
  refine ⟨fun pins s σ H Q I h => ?_⟩
  refine Call_ (ld_blt I hg hm boot_len ?_)
  refine PyProof.Rows.callWith_builtin1 (PyProof.Rows.args_cons ?_ n2) n2 rfl
  refine Call_ (ld_blt I hg2 hm2 boot_set ?_)
  refine PyProof.Rows.callWith_type1 (PyProof.Rows.args_cons (thn (ha.run pins s σ H _ I h) fun v s1 ⟨x, H1, I1, r1, q1⟩ => PyProof.Rows.args_nil ?_) na) na rfl
  obtain ⟨l, ns, rfl, hq, hl, q1⟩ := q1
  cases r1
  obtain ⟨its, r, pl, hz⟩ := I1.list hq
  have hlen : its.toArray.size = ns.length := by rw [List.size_toArray, ← r.length, List.length_map]
  refine call_set_list (I1.ok.hd hc) pl.isList (by simpa using RZ.intsAre_vals r) (by rw [hlen]; unfold scanBound; omega) fun h' tk hS hk => ?_
  refine PyProof.Rows.args_nil ?_
  rw [hlen] at hS
  obtain ⟨o, es, ep, t, ho, hex, hd, _, _, _, hf, hn⟩ := hS
  have I2 : Inv X pins σ H1 { s1 with heap := h', toks := tk } := I1.kept fun b o e => hk b o (Heap.lt_size e) e
  have hb := PyProof.Rows.firstMet_length_le (fun i => ns.getD i 0) ns.length
  exact call_len_set ho hex hd hf (by rw [hn] <;> omega) ⟨.int (PyProof.Rows.firstMet (fun i => ns.getD i 0) ns.length).length, H1, I2.tok _, ⟨_, by rw [hn]⟩, q1⟩
theorem ev_lenSetL {p p2 q : Pos} (hc : X.calm = true) (hm : X.mg "len" = none) (hm2 : X.mg "set" = none) (h : Ev X W a ρ fun d => ∃ ns : List Int, d = .list (ns.map PyData.int) ∧ ns.length ≤ 4000 ∧ R (.int ((PyProof.Rows.firstMet (fun i => ns.getD i 0) ns.length).length : Nat)))
    (hg : Gl X "len" := by rfl) (hg2 : Gl X "set" := by rfl) (na : starEach [a] X.env = (false, eval a X.env) :: starEach [] X.env := by rfl) (n2 : (starEach [.Call (.Name "set" p2) [a] [] q] X.env) = (false, eval (.Call (.Name "set" p2) [a] [] q) X.env) :: starEach [] X.env := by rfl) :
    Ev X W (.Call (.Name "len" p) [.Call (.Name "set" p2) [a] [] q] [] pos) ρ R := by
  refine ⟨fun σ H B Q L k => (pe_lenSetL hg hm hg2 hm2 pe_w hc na n2).toZ ?_⟩
  refine h.run σ H B _ L fun v H1 B1 d s1 L1 D1 h2 => ?_
  obtain ⟨ns, rfl, h3, h4⟩ := h2
  obtain ⟨q, vs, rfl, h5, h6⟩ := dp_list D1
  cases dq_ints h6
  exact ⟨q, ns, rfl, SqL.of (L1.gr.sub _ _ h5), h3, k _ H1 B1 _ s1 L1 (.int _) h4⟩
theorem setR_count {w : World} {h : Heap} {a : Addr} {ns : List Int} {c : Nat} (R : SetR w h a (fun j => decide (j ∈ ns)) c) (hn : ns.Nodup) : c = ns.length := by
  obtain ⟨o, es, ep, t, ho, hex, hd, _, hnd, hmem, _, _, hsz, _⟩ := R
  have hp : (es.toList.map keyOf).Perm ns := by
    refine (List.perm_ext_iff_of_nodup hnd hn).mpr fun k => ?_
    rw [← hmem k]
    simp
  have := hp.length_eq
  rw [List.length_map, Array.length_toList] at this
  omega
def tLenSetT (K : PySem.W.Frag) (ta : TE) : TE := fun σ H Q => ta σ H fun x H1 => ∃ (l : Addr) (ns : List Int), x = .ref l ∧ SqT K H1 l (ns.map V.int) ∧ ns.Nodup ∧ ns.length ≤ 4000 ∧ Q (.int (ns.length : Nat)) H1
theorem pe_lenSetT {p p2 q : Pos} {ta : TE} (hg : Gl X "len") (hm : X.mg "len" = none) (hg2 : Gl X "set") (hm2 : X.mg "set" = none) (ha : PE X a ta) (hc : X.calm = true)
    (na : starEach [a] X.env = (false, eval a X.env) :: starEach [] X.env) (n2 : (starEach [.Call (.Name "set" p2) [a] [] q] X.env) = (false, eval (.Call (.Name "set" p2) [a] [] q) X.env) :: starEach [] X.env) : PE X (.Call (.Name "len" p) [.Call (.Name "set" p2) [a] [] q] [] pos) (tLenSetT X.K ta) := by
  refine ⟨fun pins s σ H Q I h => ?_⟩
  refine Call_ (ld_blt I hg hm boot_len ?_)
  refine PyProof.Rows.callWith_builtin1 (PyProof.Rows.args_cons ?_ n2) n2 rfl
  refine Call_ (ld_blt I hg2 hm2 boot_set ?_)
  refine PyProof.Rows.callWith_type1 (PyProof.Rows.args_cons (thn (ha.run pins s σ H _ I h) fun v s1 ⟨x, H1, I1, r1, q1⟩ => PyProof.Rows.args_nil ?_) na) na rfl
  obtain ⟨l, ns, rfl, hq, hnd, hl, q1⟩ := q1
  cases r1
  obtain ⟨its, r, pl, hz⟩ := I1.tuple hq
  refine call_set_tupI ns (I1.ok.hd hc) pl (by simpa using RZ.intsAre_vals r) (by unfold scanBound; omega) fun h' tk c hS hc hk => ?_
  refine PyProof.Rows.args_nil ?_
  obtain rfl := setR_count hS hnd
  obtain ⟨o, es, ep, t, ho, hex, hd, _, _, _, _, hf, hn, _⟩ := hS
  have I2 : Inv X pins σ H1 { s1 with heap := h', toks := tk } := I1.kept fun b o e => hk b o e
  exact call_len_set ho hex hd hf (by rw [hn] <;> omega) ⟨.int ns.length, H1, I2.tok _, ⟨_, by rw [hn]⟩, q1⟩
theorem ev_lenSetT {p p2 q : Pos} (hc : X.calm = true) (hm : X.mg "len" = none) (hm2 : X.mg "set" = none) (h : Ev X W a ρ fun d => ∃ ns : List Int, d = .tuple (ns.map PyData.int) ∧ ns.Nodup ∧ ns.length ≤ 4000 ∧ R (.int (ns.length : Nat)))
    (hg : Gl X "len" := by rfl) (hg2 : Gl X "set" := by rfl) (na : starEach [a] X.env = (false, eval a X.env) :: starEach [] X.env := by rfl) (n2 : (starEach [.Call (.Name "set" p2) [a] [] q] X.env) = (false, eval (.Call (.Name "set" p2) [a] [] q) X.env) :: starEach [] X.env := by rfl) :
    Ev X W (.Call (.Name "len" p) [.Call (.Name "set" p2) [a] [] q] [] pos) ρ R := by
  refine ⟨fun σ H B Q L k => (pe_lenSetT hg hm hg2 hm2 pe_w hc na n2).toZ ?_⟩
  refine h.run σ H B _ L fun v H1 B1 d s1 L1 D1 h2 => ?_
  obtain ⟨ns, rfl, h3, h3', h4⟩ := h2
  obtain ⟨q, vs, rfl, h5, h6⟩ := dp_tup D1
  cases dq_ints h6
  exact ⟨q, ns, rfl, seqT L1.gr.sub h5, h3, h3', k _ H1 B1 _ s1 L1 (.int _) h4⟩
/-! ### zip of two lists -/
def zipD : List PyData → List PyData → List PyData
  | x :: xs, y :: ys => .tuple [x, y] :: zipD xs ys
  | _, _ => []
theorem zipD_len : ∀ xs ys : List PyData, (zipD xs ys).length = min xs.length ys.length
  | [], _ => by simp [zipD]
  | _ :: _, [] => by simp [zipD]
  | _ :: xs, _ :: ys => by simp [zipD, zipD_len xs ys]
theorem zipD_get : ∀ (xs ys : List PyData) (i : Nat) {x y : PyData}, xs[i]? = some x → ys[i]? = some y → (zipD xs ys)[i]? = some (.tuple [x, y])
  | [], _, i, _, _, h, _ => by simp at h
  | _ :: _, [], i, _, _, _, h => by simp at h
  | x :: xs, y :: ys, 0, _, _, h1, h2 => by
    simp at h1 h2
    simp [zipD, h1, h2]
  | x :: xs, y :: ys, i + 1, _, _, h1, h2 => by
    simp only [zipD, List.getElem?_cons_succ] at h1 h2 ⊢
    exact zipD_get xs ys i h1 h2
theorem walk_zip {K : PySem.W.Frag} {p q : Addr} {vs us : List V} {ds es : List PyData} {B : Hp} (h : B p = some (.lst vs)) (hd : DqAll K B vs ds) (h' : B q = some (.lst us)) (he : DqAll K B us es) : WalkZ K (Itz K p q) (zipD ds es) B where
  go := fun i B' H' s s' hi => by
    rw [zipD_len, ← dpAll_len hd, ← dpAll_len he] at hi
    have i1 : i < vs.length := by omega
    have i2 : i < us.length := by omega
    exact ⟨vs, us, vs[i], us[i], SqL.of (s' _ _ (s _ _ h)), SqL.of (s' _ _ (s _ _ h')), by simp [i1], by simp [i2]⟩
  stop := fun B' H' s s' => by
    refine ⟨vs, us, SqL.of (s' _ _ (s _ _ h)), SqL.of (s' _ _ (s _ _ h')), ?_⟩
    rw [zipD_len, ← dpAll_len hd, ← dpAll_len he]
    omega
  yld := fun i B' H' x H'' W σ ρ s L hy hi => by
    obtain ⟨T, x1, y1, rfl, hT, rfl, hx, hy⟩ := hy
    rw [zipD_len] at hi
    have hx := hx vs (SqL.of (L.gr.sub _ _ (s _ _ h)))
    have hy := hy us (SqL.of (L.gr.sub _ _ (s _ _ h')))
    have i1 : i < ds.length := by omega
    have i2 : i < es.length := by omega
    obtain ⟨v, h1, h2⟩ := dpAll_get hd (List.getElem?_eq_getElem i1)
    obtain ⟨u, h3, h4⟩ := dpAll_get he (List.getElem?_eq_getElem i2)
    rw [hx] at h1
    rw [hy] at h3
    cases h1
    cases h3
    obtain ⟨sB, L'⟩ := L.fresh hT (.tup [x1, y1])
    refine ⟨_, _, zipD_get ds es i (List.getElem?_eq_getElem i1) (List.getElem?_eq_getElem i2), sB, L', .tup (SqT.of upd_same) (.cons (dpMono (s.trans sB) _ _ h2) (.cons (dpMono (s.trans sB) _ _ h4) .nil)), fun b o q => ?_, fun b o q1 q2 => ?_⟩
    · rw [upd_ne (ne_of_none q hT)]
      exact q
    · rw [upd_ne (ne_of_none q1 hT)]
      exact q2
theorem ei_zip {p tpos : Pos} {elts : List Expr} {kk : Nat} {R : List PyData → Prop} (hm : X.mg "zip" = none) (h : Ev X W a ρ fun d => Ev X W b ρ fun d' => match d, d' with | .list xs, .list ys => R (zipD xs ys) | _, _ => False) (hg : Gl X "zip" := by rfl)
    (hs : starEach [a, b] X.env = (false, eval a X.env) :: starEach [b] X.env := by rfl) (hs2 : starEach [b] X.env = (false, eval b X.env) :: starEach [] X.env := by rfl) (hpl : (backTo pos (starEach [b] X.env)).any (·.1) = false := by rfl) : Ei X W (.Tuple elts kk tpos) (.Call (.Name "zip" p) [a, b] [] pos) ρ R := by
  refine ⟨fun σ H B Q L k => (RZ.pi_zipA hg hm (pa_cons pe_w (pa_cons pe_w pa_nil hs2) hs) hs hpl).toZ ?_⟩
  refine h.run σ H B _ L fun v H1 B1 d s1 L1 D1 h2 => ?_
  refine h2.run σ H1 B1 _ L1 fun u H2 B2 d' s2 L2 D2 h3 => ?_
  cases d <;> first | exact h3.elim | skip
  cases d' <;> first | exact h3.elim | skip
  obtain ⟨p, vs, rfl, h4, h5⟩ := dp_list D1
  obtain ⟨q, us, rfl, h6, h7⟩ := dp_list D2
  have h4' := s2 _ _ h4
  refine ⟨p, q, vs, us, rfl, .inl ⟨SqL.of (L2.gr.sub _ _ h4'), SqL.of (L2.gr.sub _ _ h6), k _ H2 B2 _ (s1.trans s2) L2 (walk_zip h4' (dpAllMono s2 _ _ h5) h6 h7) h3⟩⟩
/-! ### min of a list of pairs -/
def prZ (p : Int × Int) : PyData := .tuple [.int p.1, .int p.2]
def prLe (p q : Int × Int) : Prop := p.1 < q.1 ∨ (p.1 = q.1 ∧ p.2 ≤ q.2)
theorem prZ_lt (p q : Int × Int) : PySem.W.dataLt (prZ p) (prZ q) = decide (p.1 < q.1 ∨ (p.1 = q.1 ∧ p.2 < q.2)) := PySem.W.dataLt_ii _ _ _ _
theorem minD_pr (p : Int × Int) (ps : List (Int × Int)) : ∃ m, m ∈ p :: ps ∧ (∀ y ∈ p :: ps, prLe m y) ∧ PySem.W.minD (prZ p) (ps.map prZ) = prZ m := by
  unfold PySem.W.minD
  induction ps generalizing p with
  | nil => exact ⟨p, by simp, fun y hy => by simp at hy; subst hy; exact .inr ⟨rfl, Int.le_refl _⟩, rfl⟩
  | cons q qs ih =>
    rw [List.map_cons, List.foldl_cons, prZ_lt]
    by_cases h : q.1 < p.1 ∨ (q.1 = p.1 ∧ q.2 < p.2)
    · rw [decide_eq_true h, if_pos rfl]
      obtain ⟨m, h1, h2, h3⟩ := ih q
      refine ⟨m, List.mem_cons_of_mem _ h1, fun y hy => ?_, h3⟩
      rcases List.mem_cons.mp hy with rfl | hy
      · have := h2 q List.mem_cons_self
        unfold prLe at this ⊢
        omega
      · exact h2 y hy
    · rw [decide_eq_false h, if_neg (by decide)]
      obtain ⟨m, h1, h2, h3⟩ := ih p
      refine ⟨m, ?_, fun y hy => ?_, h3⟩
      · rcases List.mem_cons.mp h1 with rfl | h1
        · exact List.mem_cons_self
        · exact List.mem_cons_of_mem _ (List.mem_cons_of_mem _ h1)
      · rcases List.mem_cons.mp hy with rfl | hy
        · exact h2 y List.mem_cons_self
        · rcases List.mem_cons.mp hy with rfl | hy
          · have := h2 p List.mem_cons_self
            unfold prLe at this ⊢
            omega
          · exact h2 y (List.mem_cons_of_mem _ hy)
def rMinPr (K : PySem.W.Frag) : List V → Hp → VK → Prop := fun vs H Q => ∃ (a : Addr) (us : List V) (p : Int × Int) (ps : List (Int × Int)), vs = [V.ref a] ∧ SqL K H a us ∧ DpAll K H us ((p :: ps).map prZ) ∧ ∀ (i : Nat) m u, us[i]? = some u → ((p :: ps).map prZ)[i]? = some (prZ m) → (∀ y ∈ p :: ps, prLe m y) → Q u H
theorem prZ_inj {p q : Int × Int} (h : prZ p = prZ q) : p = q := by
  unfold prZ at h
  injection h with h
  injection h with h1 h
  injection h with h2 h
  injection h1 with h1
  injection h2 with h2
  exact Prod.ext h1 h2
theorem prZ_alike (p q : Int × Int) : PySem.W.alike (prZ p) (prZ q) = true := by
  unfold prZ
  first | rfl | decide | simp [PySem.W.alike, PySem.W.alikeAll]
theorem prZ_depth : ∀ ps : List (Int × Int), PyData.depthAll (ps.map prZ) ≤ 3
  | [] => by simp [PyData.depthAll]
  | p :: ps => by
    have h := prZ_depth ps
    rw [List.map_cons]
    simp only [PyData.depthAll, prZ, PyData.depth]
    omega
theorem prZ_alikeAll (ps : List (Int × Int)) : PySem.W.AlikeAll (ps.map prZ) := by
  refine ⟨fun x hx y hy => ?_, fun x hx => ?_⟩
  · obtain ⟨p, _, rfl⟩ := List.mem_map.mp hx
    obtain ⟨q, _, rfl⟩ := List.mem_map.mp hy
    exact prZ_alike p q
  · obtain ⟨p, _, rfl⟩ := List.mem_map.mp hx
    exact fun z => nomatch z
theorem cr_minPr (hc : X.calm = true) (hu : X.A.units + 64 < cLine) : CallR X (.builtin "min") (rMinPr X.K) := by
  intro pins s σ H vs us Q I r h
  obtain ⟨a, xs, p, ps, rfl, hs, hd, q⟩ := h
  obtain ⟨its, rv, hl, _⟩ := I.list hs
  rw [Vals.ref1 r]
  obtain ⟨as, rd⟩ := Dp.readsAll I _ _ _ hd rv
  have hdep := prZ_depth (p :: ps)
  rw [List.map_cons] at rd hdep
  refine PySem.W.min_list_data (I.ok.hd hc) hl.isList (by simpa using rd) (by rw [← List.map_cons]; exact prZ_alikeAll (p :: ps)) (by omega) fun i v h' tk bs hi r' hk => ?_
  obtain ⟨m, m1, m2, m3⟩ := minD_pr p ps
  rw [m3] at r'
  have hi' : its[i]? = some v := by simpa using hi
  obtain ⟨cs, rc, il, _⟩ := PySem.W.readsAll_at rd i v hi'
  have hln : i < xs.length := by
    have := (List.getElem?_eq_some_iff.mp hi').1
    rw [← rv.length] at this
    exact this
  obtain ⟨v', e1, e2⟩ := Vals.get rv (List.getElem?_eq_getElem hln)
  rw [hi'] at e1
  cases e1
  obtain ⟨e3, _⟩ := Reads.unique (Reads.keeps hk rc) _ _ r'
  refine ⟨xs[i], H, I.kept hk, e2, q i m _ (List.getElem?_eq_getElem hln) ?_ m2⟩
  rw [← e3, List.map_cons, List.getD_eq_getElem?_getD, List.getElem?_eq_getElem il]
  rfl
theorem ev_minPr {p : Pos} (hc : X.calm = true) (hu : X.A.units + 64 < cLine) (hm : X.mg "min" = none) (h : Ev X W e ρ fun d => ∃ (q : Int × Int) (ps : List (Int × Int)), d = .list ((q :: ps).map prZ) ∧ ∀ m ∈ q :: ps, (∀ y ∈ q :: ps, prLe m y) → R (prZ m)) (hg : Gl X "min" := by rfl)
    (he : starEach [e] X.env = (false, eval e X.env) :: starEach [] X.env := by rfl) (hpl : (backTo pos (starEach [] X.env)).any (·.1) = false := by rfl) : Ev X W (.Call (.Name "min" p) [e] [] pos) ρ R := by
  refine ⟨fun σ H B Q L k => (pe_callB (cr_minPr hc hu) hg hm boot_min (pa_cons pe_w pa_nil he) (by decide) (by decide) he hpl).toZ ?_⟩
  refine h.run σ H B _ L fun v H1 B1 d s1 L1 D1 h2 => ?_
  obtain ⟨m0, ps, rfl, h3⟩ := h2
  obtain ⟨q, vs, rfl, h5, h6⟩ := dp_list D1
  refine ⟨q, vs, m0, ps, rfl, SqL.of (L1.gr.sub _ _ h5), dqDpAll _ _ (dpAllMono L1.gr.sub _ _ h6), fun i m u hu hd hle => ?_⟩
  obtain ⟨v, e1, e2⟩ := dpAll_get h6 hd
  rw [hu] at e1
  cases e1
  have hm : m ∈ m0 :: ps := by
    obtain ⟨m', h1, h2⟩ := List.mem_map.mp (List.mem_of_getElem? hd)
    rw [← prZ_inj h2]
    exact h1
  exact k _ H1 B1 _ s1 L1 e2 (h3 m hm hle)
/-- x.extend(e), e a list -/
theorem es_extend (i : Nat) {x : Str} {px pa cp : Pos} {ds : List PyData} (hρ : ρ[i]? = some (.own ds)) (h : Ev X W e ρ fun d => match d with | .list ys => ds.length + ys.length ≤ sizeLine ∧ D.nx (ρ.set i (.own (ds ++ ys))) | _ => False) (hN : X.N[i]? = some x := by rfl) (hv : Vis X.env.scope x := by first | exact Or.inl rfl | exact Or.inr (Or.inl rfl) | exact Or.inr (Or.inr rfl))
    (hs : swapsWith (.Call (.Attribute (.Name x px) "extend" pa) [e] [] cp) none pos.line X.env = pure false := by rfl) (hd : (x == ("__debug__" : Str)) = false := by decide) (hcd : (x == ("__classdict__" : Str)) = false := by decide)
    (hbase : attributeBase (.Name x px) "extend" X.env (eval (.Name x px) X.env) = eval (.Name x px) X.env := by rfl)
    (hfew : ((backTo cp (starEach [e] X.env)).all (fun x => !x.1) && (backToKw cp (keywordEach [] X.env)).all (fun x => x.1.isSome) && decide (([e] : List Expr).length + ([] : List Keyword).length + (if ([] : List Keyword).isEmpty then 0 else 1) < 30)) = true := by rfl)
    (hline : (pa.endLine == cp.line) = true := by rfl) (hse : starEach [e] X.env = (false, eval e X.env) :: starEach [] X.env := by rfl) (hpl : (backTo cp (starEach [] X.env)).any (·.1) = false := by rfl) :
    Es X W (.Expr (.Call (.Attribute (.Name x px) "extend" pa) [e] [] cp) pos) ρ D := by
  refine ⟨fun σ H B L => (ps_expr (pe_bm PySem.F.plainAttrs_list PySem.F.slot_list_extend PySem.F.type_list_extend mt_extend (pe_var hN hv hd hcd) (pa_cons pe_w pa_nil hse) hbase hfew hline hse hpl) hs).toZ ?_⟩
  obtain ⟨p, vs, e1, e2, e3, e4, e5⟩ := L.at' i _ hρ
  refine ⟨.ref p, e1, .inl ⟨rfl, vs, SqL.of e4⟩, ?_⟩
  refine h.run σ H B _ L fun v H2 B2 d s2 L2 D2 h3 => ?_
  cases d <;> first | exact h3.elim | skip
  rename_i ys
  obtain ⟨p', vs', f1, f2, f3, f4, f5⟩ := L2.at' i _ hρ
  rw [e1] at f1
  cases f1
  obtain ⟨q, us, rfl, g1, g2⟩ := dp_list D2
  exact ⟨p, q, vs', us, rfl, rfl, f4, L2.gr.sub _ _ g1, by rw [dpAll_len f5, dpAll_len g2]; exact h3.1, B2, _, s2, L2.chg hρ e1 (dpAll_app f5 g2), h3.2⟩
/-- x, y = [], n -/
theorem es_parL (i j : Nat) {n : Int} {x y : Str} {px py pt p1 p2 : Pos} {kt k2 pt2 j2} (h : D.nx ((ρ.set i (.own [])).set j (.im (.int n)))) (hc : X.calm = true) (hN : X.N.Nodup) (hi : X.N[i]? = some x := by rfl) (hj : X.N[j]? = some y := by rfl) (hij : i ≠ j := by decide)
    (hx : X.env.scope.names.lookup x = some .local := by rfl) (hy : X.env.scope.names.lookup y = some .local := by rfl)
    (hw : swappedStores [.Tuple [.Name x px, .Name y py] kt pt] (.Tuple [.List [] p1, .Constant (.int n) j2 p2] k2 pt2) X.env = pure (some [x, y]) := by rfl)
    (hs : swapsWithSole [.Tuple [.Name x px, .Name y py] kt pt] (.Tuple [.List [] p1, .Constant (.int n) j2 p2] k2 pt2) pos.line X.env = pure false := by rfl) :
    Es X W (.Assign [.Tuple [.Name x px, .Name y py] kt pt] (.Tuple [.List [] p1, .Constant (.int n) j2 p2] k2 pt2) pos) ρ D := by
  refine ⟨fun σ H B L => (ps_par hc hN hi hj hij hx hy (pa_cons (pe_lst pa_nil) (pa_cons pe_int pa_nil rfl) rfl) hw hs).toZ ?_⟩
  refine ⟨Nat.zero_le _, fun p hp => ?_⟩
  obtain ⟨L', q1, q2, q3, q4⟩ := fresh_own L hp [] [] .nil
  exact ⟨_, _, rfl, B, _, Same.refl _, (L'.own q1 q2 q3 q4 .nil).put (.int n), h⟩
/-- lo, lo + k, .. -/
def rng3D (i k : Int) (n : Nat) : List PyData := (List.range n).map fun j => PyData.int (i + (j : Nat) * k)
theorem rng3D_len {i k : Int} {n : Nat} : (rng3D i k n).length = n := by simp [rng3D]
theorem rng3D_get {i k : Int} {n j : Nat} (h : j < n) : (rng3D i k n)[j]? = some (.int (i + (j : Nat) * k)) := by simp [rng3D, h]
theorem rgC_up {i j k : Int} (hi : 0 ≤ i) (hi2 : i ≤ 2 ^ 40) (hj : 0 ≤ j) (hj2 : j ≤ 2 ^ 40) (hk : 0 < k) (hk2 : k ≤ 1000000) : RgC i j k (if i < j then (j - i - 1) / k + 1 else 0).toNat := by
  have h0 : 0 ≤ (if i < j then (j - i - 1) / k + 1 else 0) ∧ (if i < j then (j - i - 1) / k + 1 else 0) ≤ 2 ^ 40 := by
    split
    · have h1 := Int.ediv_nonneg (a := j - i - 1) (b := k) (by omega) (by omega)
      have h2 := Int.ediv_le_self k (show (0 : Int) ≤ j - i - 1 by omega)
      omega
    · omega
  have hs : Builtin.Range.rangeSize i j k = (if i < j then (j - i - 1) / k + 1 else 0) := by
    unfold Builtin.Range.rangeSize
    rw [if_pos hk]
  refine ⟨by omega, by omega, ?_, by rw [hs]; omega⟩
  unfold Builtin.Range.small
  rw [hs]
  simp only [Builtin.Range.rangeFitsLong, Bool.and_eq_true, Bool.or_eq_true, decide_eq_true_eq, beq_iff_eq]
  rw [if_pos hk]
  generalize (if i < j then (j - i - 1) / k + 1 else 0) = n at h0
  refine ⟨⟨⟨⟨by omega, by omega⟩, by omega⟩, by omega⟩, .inr ?_⟩
  rw [Bool.and_eq_true, decide_eq_true_eq, decide_eq_true_eq]
  omega
theorem walk_rng3 {K : PySem.W.Frag} {lo k : Int} {n : Nat} {B : Hp} : WalkZ K (Itc lo k n) (rng3D lo k n) B where
  go := fun i B' H' s s' hi => by
    rw [rng3D_len] at hi
    exact hi
  stop := fun B' H' s s' => by
    show n ≤ (rng3D lo k n).length
    rw [rng3D_len]
    exact Nat.le_refl _
  yld := fun i B' H' x H'' W σ ρ s L hy hi => by
    obtain ⟨e, hx⟩ := hy
    subst e
    rw [rng3D_len] at hi
    exact ⟨_, B', rng3D_get hi, Same.refl _, L, by rw [hx]; exact .int _, fun _ _ q => q, fun _ _ _ q => q⟩
/-- the size of a range up -/
def rgN (i j k : Int) : Nat := (if i < j then (j - i - 1) / k + 1 else 0).toNat
theorem ei_range3 {tg : Expr} {p : Pos} {R : List PyData → Prop} (hm : X.mg "range" = none)
    (h : Ea X W [a, b, c] ρ fun ds => match ds with | [.int i, .int j, .int k] => (0 ≤ i ∧ i ≤ 2 ^ 40 ∧ 0 ≤ j ∧ j ≤ 2 ^ 40 ∧ 0 < k ∧ k ≤ 1000000) ∧ R (rng3D i k (rgN i j k)) | _ => False) (hg : Gl X "range" := by rfl)
    (hs : starEach [a, b, c] X.env = (false, eval a X.env) :: starEach [b, c] X.env := by rfl) (hpl : (backTo pos (starEach [b, c] X.env)).any (·.1) = false := by rfl) : Ei X W tg (.Call (.Name "range" p) [a, b, c] [] pos) ρ R := by
  refine ⟨fun σ H B Q L k => (pi_range3 hg hm pa_w hs hpl).toZ ?_⟩
  refine h.run σ H B _ L fun vs H1 B1 ds s1 L1 D1 h2 => ?_
  match ds, D1, h2 with
  | [.int i, .int j, .int l], .cons d1 (.cons d2 (.cons d3 .nil)), ⟨⟨h1, h2, h3, h4, h5, h6⟩, h7⟩ =>
    cases dp_int d1
    cases dp_int d2
    cases dp_int d3
    exact ⟨i, j, l, _, rfl, rgC_up h1 h2 h3 h4 h5 h6, k _ H1 B1 _ s1 L1 walk_rng3 h7⟩
/-- list(range(a, b, c)) -/
def rng3V (i k : Int) (n : Nat) : List V := (List.range n).map fun j => V.int (i + (j : Nat) * k)
theorem rng3_dq {K : PySem.W.Frag} {B : Hp} (i k : Int) (n : Nat) : DqAll K B (rng3V i k n) (rng3D i k n) := by
  have e1 : rng3V i k n = ((List.range n).map fun j => i + ((j : Nat) : Int) * k).map V.int := by rw [List.map_map]; rfl
  have e2 : rng3D i k n = ((List.range n).map fun j => i + ((j : Nat) : Int) * k).map PyData.int := by rw [List.map_map]; rfl
  rw [e1, e2]
  exact ints_dq _
theorem vals_rg3 {a k : Int} {n : Nat} {acc : Array Value} (h : ItemsOf (fun i v => ∃ t, v = .int (a + i * k) t) acc n) : Vals (rng3V a k n) acc.toList := by
  have e : acc.toList.length = n := by rw [Array.length_toList]; exact h.1
  unfold rng3V
  rw [← e]
  refine vals_of_get acc.toList _ fun j u hj => ?_
  obtain ⟨t, rfl⟩ := h.2 j u (by rw [← hj, Array.getElem?_toList])
  exact ⟨t, rfl⟩
def tListR3 (ta : TA) : TE := fun σ H Q => ta σ H fun vs H1 => ∃ (i j k : Int) (n : Nat), vs = [.int i, .int j, .int k] ∧ RgC i j k n ∧ n ≤ 2 ^ 24 ∧ ∀ q, H1 q = none → Q (.ref q) (upd H1 q (.lst (rng3V i k n)))
theorem pe_listR3 {p p2 q : Pos} {ta : TA} (hg : Gl X "list") (hm : X.mg "list" = none) (hg2 : Gl X "range") (hm2 : X.mg "range" = none) (ha : PA X [a, b, c] ta) (hc : X.calm = true)
    (hs : starEach [a, b, c] X.env = (false, eval a X.env) :: starEach [b, c] X.env) (hpl : (backTo q (starEach [b, c] X.env)).any (·.1) = false)
    (n2 : (starEach [.Call (.Name "range" p2) [a, b, c] [] q] X.env) = (false, eval (.Call (.Name "range" p2) [a, b, c] [] q) X.env) :: starEach [] X.env) : PE X (.Call (.Name "list" p) [.Call (.Name "range" p2) [a, b, c] [] q] [] pos) (tListR3 ta) := by
  refine ⟨fun pins s σ H Q I h => ?_⟩
  refine Call_ (ld_blt I hg hm boot_list ?_)
  refine PyProof.Rows.callWith_type1 (PyProof.Rows.args_cons ?_ n2) n2 rfl
  refine Call_ (ld_blt I hg2 hm2 boot_range (PyProof.Rows.callWith_type1 (thn (ha.run q pins s σ H _ I h) fun us s1 ⟨vs, H1, I1, r1, q1⟩ => ?_) hs hpl))
  obtain ⟨i, j, k, n, e, ⟨c0, c1, c2, c3⟩, hn, q1⟩ := q1
  subst e
  cases r1 with
  | cons r rr =>
  cases rr with
  | cons r' rr =>
  cases rr with
  | cons r'' rr =>
    cases rr
    obtain ⟨t1, rfl⟩ := r
    obtain ⟨t2, rfl⟩ := r'
    obtain ⟨t3, rfl⟩ := r''
    refine call_range_3 c0 ?_ (.inl (PyProof.noPylong_small c1))
    refine PyProof.Rows.args_nil ?_
    obtain ⟨s2, e2⟩ : ∃ s2 : Shared, s2 = { s1 with heap := s1.heap.push { cls := .type "range", data := .fields #[.int i t1, .int j t2, .int k t3] } } := ⟨_, rfl⟩
    have I2 : Inv X pins σ H1 s2 := by
      rw [e2]
      exact I1.kept (t' := s1.toks) fun b o e => Heap.get?_push_of_some _ e
    have hr : IsRange s2.heap s1.heap.objs.size i j k t1 t2 t3 := by
      rw [e2]
      exact IsRange.new ..
    rw [← e2]
    refine call_list_range (n := n) (I2.ok.hd hc) hr c2 c3 hn fun h' tk acc c' hk e' hi => ?_
    have hlen : (rng3V i k n).length = n := by simp [rng3V]
    refine ⟨.ref s2.heap.objs.size, upd H1 s2.heap.objs.size (.lst (rng3V i k n)), I2.laid hk (Nat.le_refl _) (show ObjOk X.prog X.w _ _ _ (.lst (rng3V i k n)) from ⟨?_, acc.toList, c', vals_rg3 hi, ?_⟩), rfl, q1 _ (I2.hok.fresh (Nat.le_refl _))⟩
    · rw [hlen, sizeLine_eq]
      omega
    · rw [Array.toArray_toList]; exact e'
theorem el_listR3 {p p2 q : Pos} {R : List PyData → Prop} (hc : X.calm = true) (hm : X.mg "list" = none) (hm2 : X.mg "range" = none)
    (h : Ea X W [a, b, c] ρ fun ds => match ds with | [.int i, .int j, .int k] => (0 ≤ i ∧ i ≤ 2 ^ 40 ∧ 0 ≤ j ∧ j ≤ 2 ^ 40 ∧ 0 < k ∧ k ≤ 1000000) ∧ rgN i j k ≤ 1000000 ∧ R (rng3D i k (rgN i j k)) | _ => False) (hg : Gl X "list" := by rfl) (hg2 : Gl X "range" := by rfl)
    (hs : starEach [a, b, c] X.env = (false, eval a X.env) :: starEach [b, c] X.env := by rfl) (hpl : (backTo q (starEach [b, c] X.env)).any (·.1) = false := by rfl)
    (n2 : (starEach [.Call (.Name "range" p2) [a, b, c] [] q] X.env) = (false, eval (.Call (.Name "range" p2) [a, b, c] [] q) X.env) :: starEach [] X.env := by rfl) :
    El X W (.Call (.Name "list" p) [.Call (.Name "range" p2) [a, b, c] [] q] [] pos) ρ R := by
  refine ⟨fun σ H B Q L k => (pe_listR3 hg hm hg2 hm2 pa_w hc hs hpl n2).toZ ?_⟩
  refine h.run σ H B _ L fun vs H1 B1 ds s1 L1 D1 h2 => ?_
  match ds, D1, h2 with
  | [.int i, .int j, .int l], .cons d1 (.cons d2 (.cons d3 .nil)), ⟨⟨h1, h2, h3, h4, h5, h6⟩, h7, h8⟩ =>
    cases dp_int d1
    cases dp_int d2
    cases dp_int d3
    refine ⟨i, j, l, _, rfl, rgC_up h1 h2 h3 h4 h5 h6, Nat.le_trans h7 (by decide), fun p hp => ?_⟩
    obtain ⟨L', q1, q2, q3, q4⟩ := fresh_own L1 hp (rng3D i l (rgN i j l)) (rng3V i l (rgN i j l)) (rng3_dq _ _ _)
    exact k p _ _ B1 _ s1 L' q1 q2 q3 q4 (rng3_dq _ _ _) h8
section
variable {X : Cx} {W : Wd} {ρ : List Sl} {D : Dz} {R : PyData → Prop} {pos : Pos} {a b c e : Expr} {es : List Expr} {st : Stmt} {sts body : List Stmt}
theorem dpAll_eraseIdx {K : PySem.W.Frag} {B : Hp} : ∀ {vs : List V} {ds : List PyData} (k : Nat), DqAll K B vs ds → DqAll K B (vs.eraseIdx k) (ds.eraseIdx k)
  | _, _, _, .nil => .nil
  | _, _, 0, .cons _ t => t
  | _, _, k + 1, .cons h t => .cons h (dpAll_eraseIdx k t)
theorem dpAll_rev {K : PySem.W.Frag} {B : Hp} : ∀ {vs : List V} {ds : List PyData}, DqAll K B vs ds → DqAll K B vs.reverse ds.reverse
  | _, _, .nil => .nil
  | _, _, .cons h t => by
    rw [List.reverse_cons, List.reverse_cons]
    exact dpAll_app (dpAll_rev t) (.cons h .nil)
/-- x.pop(e), its value thrown away -/
theorem es_popAt (i : Nat) {x : Str} {px pa cp : Pos} {ds : List PyData} (hρ : ρ[i]? = some (.own ds)) (h : Ev X W e ρ fun d => match d with | .int k => (0 ≤ k ∧ k < ds.length ∧ ds.length ≤ 1000000) ∧ D.nx (ρ.set i (.own (ds.eraseIdx k.toNat))) | _ => False) (hN : X.N[i]? = some x := by rfl) (hv : Vis X.env.scope x := by first | exact Or.inl rfl | exact Or.inr (Or.inl rfl) | exact Or.inr (Or.inr rfl))
    (hs : swapsWith (.Call (.Attribute (.Name x px) "pop" pa) [e] [] cp) none pos.line X.env = pure false := by rfl) (hd : (x == ("__debug__" : Str)) = false := by decide) (hcd : (x == ("__classdict__" : Str)) = false := by decide)
    (hbase : attributeBase (.Name x px) "pop" X.env (eval (.Name x px) X.env) = eval (.Name x px) X.env := by rfl)
    (hfew : ((backTo cp (starEach [e] X.env)).all (fun x => !x.1) && (backToKw cp (keywordEach [] X.env)).all (fun x => x.1.isSome) && decide (([e] : List Expr).length + ([] : List Keyword).length + (if ([] : List Keyword).isEmpty then 0 else 1) < 30)) = true := by rfl)
    (hline : (pa.endLine == cp.line) = true := by rfl) (hse : starEach [e] X.env = (false, eval e X.env) :: starEach [] X.env := by rfl) (hpl : (backTo cp (starEach [] X.env)).any (·.1) = false := by rfl) :
    Es X W (.Expr (.Call (.Attribute (.Name x px) "pop" pa) [e] [] cp) pos) ρ D := by
  refine ⟨fun σ H B L => (ps_expr (pe_bm PySem.F.plainAttrs_list PySem.F.slot_list_pop PySem.F.type_list_pop mt_popAt (pe_var hN hv hd hcd) (pa_cons pe_w pa_nil hse) hbase hfew hline hse hpl) hs).toZ ?_⟩
  obtain ⟨p, vs, e1, e2, e3, e4, e5⟩ := L.at' i _ hρ
  refine ⟨.ref p, e1, .inl ⟨rfl, vs, SqL.of e4⟩, ?_⟩
  refine h.run σ H B _ L fun v H2 B2 d s2 L2 D2 h3 => ?_
  cases d <;> first | exact h3.elim | skip
  rename_i k
  obtain ⟨⟨k0, k1, k2⟩, h4⟩ := h3
  obtain ⟨p', vs', f1, f2, f3, f4, f5⟩ := L2.at' i _ hρ
  rw [e1] at f1
  cases f1
  cases dp_int D2
  have hl := dpAll_len f5
  have hk : k.toNat < vs'.length := by omega
  exact ⟨p, vs', k, k.toNat, vs'[k.toNat], rfl, rfl, f4, by omega, by omega, seqIndex_of k0 (by omega), List.getElem?_eq_getElem hk, B2, _, s2, L2.chg hρ e1 (dpAll_eraseIdx _ f5), h4⟩
/-- x.insert(b, e) -/
theorem es_insert (i : Nat) {x : Str} {px pa cp : Pos} {ds : List PyData} (hρ : ρ[i]? = some (.own ds)) (h : Ea X W [b, e] ρ fun us => match us with | [.int k, d] => (0 ≤ k ∧ k < 2 ^ 63 ∧ ds.length < sizeLine) ∧ D.nx (ρ.set i (.own (ds.take k.toNat ++ [d] ++ ds.drop k.toNat))) | _ => False) (hN : X.N[i]? = some x := by rfl) (hv : Vis X.env.scope x := by first | exact Or.inl rfl | exact Or.inr (Or.inl rfl) | exact Or.inr (Or.inr rfl))
    (hs : swapsWith (.Call (.Attribute (.Name x px) "insert" pa) [b, e] [] cp) none pos.line X.env = pure false := by rfl) (hd : (x == ("__debug__" : Str)) = false := by decide) (hcd : (x == ("__classdict__" : Str)) = false := by decide)
    (hbase : attributeBase (.Name x px) "insert" X.env (eval (.Name x px) X.env) = eval (.Name x px) X.env := by rfl)
    (hfew : ((backTo cp (starEach [b, e] X.env)).all (fun x => !x.1) && (backToKw cp (keywordEach [] X.env)).all (fun x => x.1.isSome) && decide (([b, e] : List Expr).length + ([] : List Keyword).length + (if ([] : List Keyword).isEmpty then 0 else 1) < 30)) = true := by rfl)
    (hline : (pa.endLine == cp.line) = true := by rfl) (hse : starEach [b, e] X.env = (false, eval b X.env) :: starEach [e] X.env := by rfl) (hpl : (backTo cp (starEach [e] X.env)).any (·.1) = false := by rfl) :
    Es X W (.Expr (.Call (.Attribute (.Name x px) "insert" pa) [b, e] [] cp) pos) ρ D := by
  refine ⟨fun σ H B L => (ps_expr (pe_bm PySem.F.plainAttrs_list PySem.F.slot_list_insert PySem.F.type_list_insert mt_insert (pe_var hN hv hd hcd) pa_w hbase hfew hline hse hpl) hs).toZ ?_⟩
  obtain ⟨p, vs, e1, e2, e3, e4, e5⟩ := L.at' i _ hρ
  refine ⟨.ref p, e1, .inl ⟨rfl, vs, SqL.of e4⟩, ?_⟩
  refine h.run σ H B _ L fun us H2 B2 ds2 s2 L2 D2 h3 => ?_
  match ds2, D2, h3 with
  | [.int k, d], .cons d1 (.cons d2 .nil), ⟨⟨k0, k1, k2⟩, h4⟩ =>
    obtain ⟨p', vs', f1, f2, f3, f4, f5⟩ := L2.at' i _ hρ
    rw [e1] at f1
    cases f1
    cases dp_int d1
    have hl := dpAll_len f5
    exact ⟨p, vs', k, _, rfl, rfl, f4, by omega, k0, k1, B2, _, s2, L2.chg hρ e1 (dpAll_app (dpAll_app (dpAll_take _ f5) (.cons d2 .nil)) (dpAll_drop _ f5)), h4⟩
/-- x[::-1] of an own list -/
theorem el_revOwn (i : Nat) {x : Str} {ds : List PyData} {px p1 p2 p3 : Pos} {kk : Nat} {R : List PyData → Prop} (hρ : ρ[i]? = some (.own ds)) (h : R ds.reverse) (hN : X.N[i]? = some x := by rfl) (hv : Vis X.env.scope x := by first | exact Or.inl rfl | exact Or.inr (Or.inl rfl) | exact Or.inr (Or.inr rfl))
    (hd : (x == ("__debug__" : Str)) = false := by decide) (hcd : (x == ("__classdict__" : Str)) = false := by decide) : El X W (.Subscript (.Name x px) (.Slice none none (some (.UnaryOp .USub (.Constant (.int 1) kk p1) p2)) p3) pos) ρ R := by
  refine ⟨fun σ H B Q L k => (pe_revL (pe_var hN hv hd hcd)).toZ ?_⟩
  obtain ⟨p, vs, e1, e2, e3, e4, e5⟩ := L.at' i _ hρ
  refine ⟨.ref p, e1, p, vs, rfl, SqL.of e4, fun q hq => ?_⟩
  obtain ⟨L', q1, q2, q3, q4⟩ := fresh_own L hq ds.reverse vs.reverse (dpAll_rev e5)
  exact k q _ _ B _ (Same.refl _) L' q1 q2 q3 q4 (dpAll_rev e5) h
/-- z[lo:hi] of a text -/
theorem ev_slS {lo hi : Option Expr} {p2 : Pos} (h : Ev X W e ρ fun d => Eo X W lo ρ fun l => Eo X W hi ρ fun u => match d with | .str z => z.length ≤ sizeLine ∧ R (.str (cutS z l u)) | _ => False) : Ev X W (.Subscript e (.Slice lo hi none p2) pos) ρ R := by
  refine ⟨fun σ H B Q L k => (pe_slice sl_str pe_w po_w po_w).toZ ?_⟩
  refine h.run σ H B _ L fun v H1 B1 d s1 L1 D1 h2 => ?_
  refine h2.run σ H1 B1 _ L1 fun l H2 B2 s2 L2 h3 => ?_
  refine h3.run σ H2 B2 _ L2 fun u H3 B3 s3 L3 h4 => ?_
  cases d <;> first | exact h4.elim | skip
  rename_i z
  cases dp_str D1
  exact ⟨z, rfl, h4.1, k _ H3 B3 _ ((s1.trans s2).trans s3) L3 (.str _) h4.2⟩
theorem isTL_kit {K : PySem.W.Frag} (d : PyData) : PySem.W.kitAny K (.type (tyD d)) [.type "tuple", .type "list"] = some (isLT d) := by
  have q : ∀ d : PyData, kitB (tyD d) "list" = some (match d with | .list _ => true | _ => false) ∧ kitB (tyD d) "tuple" = some (match d with | .tuple _ => true | _ => false) := by
    intro d
    rw [kit_of_tab d (by simp), kit_of_tab d (by simp)]
    cases d <;> exact ⟨rfl, rfl⟩
  obtain ⟨q1, q2⟩ := q d
  refine kitAny_cons (kit_ty q2) (fun z => kitAny_cons (kit_ty q1) (fun z2 => ?_) fun z2 => ?_) fun z => ?_
  · rw [kitAny_nil]
    cases d <;> first | rfl | (simp at z; done) | (simp at z2; done)
  · cases d <;> first | rfl | (simp at z2; done)
  · cases d <;> first | rfl | (simp at z; done)
/-- isinstance(e, (tuple, list)) -/
theorem ev_isiTL {p p1 p2 p3 : Pos} {x1} (hm : X.mg "isinstance" = none) (h1 : X.mg "list" = none) (h2 : X.mg "tuple" = none) (h : Ev X W e ρ fun d => R (.bool (isLT d))) (hg : Gl X "isinstance" := by rfl) (hgl : Gl X "list" := by rfl) (hgt : Gl X "tuple" := by rfl)
    (he : starEach [e, .Tuple [.Name "tuple" p1, .Name "list" p2] x1 p3] X.env = (false, eval e X.env) :: starEach [.Tuple [.Name "tuple" p1, .Name "list" p2] x1 p3] X.env := by rfl)
    (he2 : starEach [.Tuple [.Name "tuple" p1, .Name "list" p2] x1 p3] X.env = (false, eval (.Tuple [.Name "tuple" p1, .Name "list" p2] x1 p3) X.env) :: starEach [] X.env := by rfl)
    (he3 : starEach [.Name "tuple" p1, .Name "list" p2] X.env = (false, eval (.Name "tuple" p1) X.env) :: starEach [.Name "list" p2] X.env := by rfl) (he4 : starEach [.Name "list" p2] X.env = (false, eval (.Name "list" p2) X.env) :: starEach [] X.env := by rfl)
    (hpl : (backTo pos (starEach [.Tuple [.Name "tuple" p1, .Name "list" p2] x1 p3] X.env)).any (·.1) = false := by rfl) : Ev X W (.Call (.Name "isinstance" p) [e, .Tuple [.Name "tuple" p1, .Name "list" p2] x1 p3] [] pos) ρ R := by
  refine ⟨fun σ H B Q L k => (pe_callB call_isiT hg hm boot_isinstance (pa_cons pe_w (pa_cons (pe_tup (pa_cons (pe_bltn hgt h2 boot_tuple (v := .ty "tuple") rfl) (pa_cons (pe_bltn hgl h1 boot_list (v := .ty "list") rfl) pa_nil he4) he3)) pa_nil he2) he) (by decide) (by decide) he hpl).toZ ?_⟩
  refine h.run σ H B _ L fun v H1 B1 d s1 L1 D1 h2 => ?_
  refine ⟨by show 2 ≤ sizeLine; decide, fun t ht => ?_⟩
  obtain ⟨s, L'⟩ := L1.fresh ht (.tup [.ty "tuple", .ty "list"])
  exact ⟨v, t, _, _, [.type "tuple", .type "list"], isLT d, rfl, upd_same, .cons (.ty _) (.cons (.ty _) .nil), tyX_of L'.gr.sub (dpMono s _ _ D1), isTL_kit d, k _ _ _ _ (s1.trans s) L' (.bl _) h2⟩
end
/-- len(z) of a text -/
theorem ev_lenS {X : Cx} {W : Wd} {ρ : List Sl} {pos : Pos} {e : Expr} {p : Pos} {R : PyData → Prop} (hm : X.mg "len" = none) (h : Ev X W e ρ fun d => match d with | .str z => z.length ≤ sizeLine ∧ R (.int (z.length : Int)) | _ => False) (hg : Gl X "len" := by rfl)
    (he : starEach [e] X.env = (false, eval e X.env) :: starEach [] X.env := by rfl) (hpl : (backTo pos (starEach [] X.env)).any (·.1) = false := by rfl) : Ev X W (.Call (.Name "len" p) [e] [] pos) ρ R := by
  refine ⟨fun σ H B Q L k => (pe_callB call_len_str hg hm PySem.boot_len (pa_cons pe_w pa_nil he) (by decide) (by decide) he hpl).toZ ?_⟩
  refine h.run σ H B _ L fun v H1 B1 d s1 L1 D1 h2 => ?_
  cases d <;> first | exact h2.elim | skip
  rename_i z
  cases dp_str D1
  exact ⟨z, rfl, h2.1, k _ H1 B1 _ s1 L1 (.int _) h2.2⟩
/-- a + b of two lists, a fresh one -/
theorem el_add {X : Cx} {W : Wd} {ρ : List Sl} {pos : Pos} {a b : Expr} {R : List PyData → Prop} (h : Ev X W a ρ fun d => Ev X W b ρ fun d' => match d, d' with | .list xs, .list ys => xs.length + ys.length ≤ sizeLine ∧ R (xs ++ ys) | _, _ => False) : El X W (.BinOp a .Add b pos) ρ R := by
  refine ⟨fun σ H B Q L k => (pe_op op_cat pe_w pe_w).toZ ?_⟩
  refine h.run σ H B _ L fun v H1 B1 d s1 L1 D1 h2 => ?_
  refine h2.run σ H1 B1 _ L1 fun u H2 B2 d' s2 L2 D2 h3 => ?_
  cases d <;> first | exact h3.elim | skip
  cases d' <;> first | exact h3.elim | skip
  rename_i xs ys
  obtain ⟨p, vs, rfl, g1, g2⟩ := dp_list D1
  obtain ⟨q, us, rfl, g3, g4⟩ := dp_list D2
  have g2' := dpAllMono s2 _ _ g2
  refine ⟨p, q, vs, us, rfl, rfl, L2.gr.sub _ _ (s2 _ _ g1), L2.gr.sub _ _ g3, by rw [dpAll_len g2, dpAll_len g4]; exact h3.1, fun t ht => ?_⟩
  obtain ⟨L', q1, q2, q3, q4⟩ := fresh_own L2 ht (xs ++ ys) (vs ++ us) (dpAll_app g2' g4)
  exact k t _ _ B2 _ (s1.trans s2) L' q1 q2 q3 q4 (dpAll_app g2' g4) h3.2
/-! ### tuples backwards -/
theorem sliceApplied_rev {prog : Program} {w : World} {A : Around} {E : Value → Shared → Prop} {s : Shared} {sl : Addr} {vs : Value} {n : Nat} {Q : Int × Int × Nat → Shared → Prop} (hs : s.heap.IsSliceOf sl .none .none vs) (ps : IsPart vs (some (-1)))
    (h : Q ((n : Int) - 1, -1, n) s) : wpAny (model prog w) A (Builtin.Slice.sliceApplied (.ref sl) (pure (n : Int))) Q E s := by
  obtain ⟨os, hos, hcs, hds⟩ := id hs
  unfold Builtin.Slice.sliceApplied Builtin.Slice.sliceFields
  refine wpAny_bind (wpAny_bind (wpAny_field hos hds (x := .none) rfl (wpAny_bind (wpAny_field hos hds (x := .none) rfl (wpAny_bind (wpAny_field hos hds (x := vs) rfl (wpAny_pure ?_)))))))
  refine wpAny_bind (HT.slicePart_ ps ?_)
  show wpAny _ _ (if ((-1 : Int) == 0) = true then _ else _) _ _ s
  rw [if_neg (by decide)]
  refine wpAny_bind (HT.slicePart_ .none (wpAny_bind (HT.slicePart_ .none (wpAny_bind (wpAny_pure ?_)))))
  have e1 : Builtin.Slice.sliceAdjust none none (-1) (n : Int) = ((n : Int) - 1, -1) := by
    unfold Builtin.Slice.sliceAdjust
    simp
  have e2 : Builtin.Slice.slicePlaces ((n : Int) - 1) (-1) (-1) = n := by
    unfold Builtin.Slice.slicePlaces
    simp
    omega
  show wpAny _ _ (match Builtin.Slice.sliceAdjust none none (-1) (n : Int) with | (lo, hi) => pure (lo, (-1 : Int), Builtin.Slice.slicePlaces lo hi (-1))) _ _ s
  rw [e1]
  show wpAny _ _ (pure ((n : Int) - 1, (-1 : Int), Builtin.Slice.slicePlaces ((n : Int) - 1) (-1) (-1))) _ _ s
  rw [e2]
  exact wpAny_pure h
theorem pick_rev (xs : Array Value) : ((List.range xs.size).filterMap fun (m : Nat) => xs[(((xs.size : Int) - 1) + (m : Int) * (-1)).toNat]?).toArray = xs.toList.reverse.toArray := by
  have e : (fun (m : Nat) => xs[(((xs.size : Int) - 1) + (m : Int) * (-1)).toNat]?) = fun m => xs[xs.size - 1 - m]? := by
    funext m
    have : (((xs.size : Int) - 1) + (m : Int) * (-1)).toNat = xs.size - 1 - m := by omega
    rw [this]
  rw [e]
  have h := PySem.W.krv_all xs
  have h2 : (List.range xs.size).filterMap (fun m => xs[xs.size - 1 - m]?) = ((List.range xs.size).map (fun k => xs.size - 1 - k)).filterMap (xs[·]?) := by
    rw [List.filterMap_map]
    rfl
  rw [h2, PySem.W.krv_range, List.filterMap_reverse, h]
theorem getItem_tuple_rev {prog : Program} {w : World} {A : Around} {E : Value → Shared → Prop} {s : Shared} {t sl : Addr} {items : Array Value} {vs : Value} {Q : Value → Shared → Prop} (ht : IsTup s.heap t items) (hs : s.heap.IsSliceOf sl .none .none vs) (ps : IsPart vs (some (-1)))
    (h : Q (.ref s.heap.objs.size) { s with heap := s.heap.push { cls := .type "tuple", data := .seq items.toList.reverse.toArray } }) (hsz : items.size ≤ sizeLine) : wpAny (model prog w) A (getItem (.ref t) (.ref sl)) Q E s := by
  have htake : sizeOk (.seq items.toList.reverse.toArray) := by
    show items.toList.reverse.toArray.size ≤ sizeLine
    rw [List.size_toArray, List.length_reverse, Array.length_toList]
    exact hsz
  obtain ⟨os, hos, hcs, hds⟩ := id hs
  have hTs : s.TypeIs (.ref sl) "slice" := ⟨os, hos, hcs⟩
  unfold getItem
  try with_reducible refine wpAny_holding ?_
  first | refine wpAny_bind (wpAny_pure ?_) | skip
  refine wpAny_bind (wpAny_sequenceKey ht.typeIs (by decide) ?_)
  refine wpAny_bind (wpAny_callSpecial?_slot (name := Str.ofString "__getitem__") ht.typeIs PyProof.Rows.slot_tuple_getitem
    (wpAny_call_entry PyProof.Rows.slot_tuple_getitem ht.typeIs entry_tuple_getitem ?_ (args_tuple_getitem _ _)))
  show wpAny _ _ (Builtin.Tuple.tupleItemsOf (.ref t) >>= _) _ _ s
  refine wpAny_bind (tupleItemsOf_ ht ?_)
  refine wpAny_bind (wpAny_typeOf hTs ?_)
  rw [if_pos (by decide)]
  refine wpAny_bind (sliceApplied_rev hs ps ?_)
  have hno : ¬ ((((items.size : Int) - 1) == 0 && (-1 : Int) == 1 && items.size == items.size) = true) := by
    intro q
    rw [Bool.and_eq_true, Bool.and_eq_true] at q
    exact absurd q.1.2 (by decide)
  show wpAny _ _ (if (((items.size : Int) - 1) == 0 && (-1 : Int) == 1 && items.size == items.size) = true then _ else _) _ _ s
  rw [if_neg hno, pick_rev]
  first
    | exact wpAny_bind (m := Builtin.Tuple.tupleExact _) (wpAny_newObj_type (wpAny_pure ⟨_, rfl, wpAny_pure h⟩) htake)
    | exact wpAny_bind (m := Builtin.Tuple.tupleExact _) (wpAny_newObj_type (wpAny_bind (wpAny_pure (wpAny_pure ⟨_, rfl, wpAny_pure h⟩))) htake)
    | exact wpAny_bind (wpAny_bind (m := Builtin.Tuple.tupleExact _) (wpAny_newObj_type (wpAny_pure (wpAny_pure ⟨_, rfl, wpAny_pure h⟩)) htake))
    | exact wpAny_bind (wpAny_bind (m := Builtin.Tuple.tupleExact _) (wpAny_newObj_type (wpAny_pure ⟨_, rfl, wpAny_pure h⟩) htake))
section
variable {X : Cx} {W : Wd} {ρ : List Sl} {D : Dz} {R : PyData → Prop} {pos : Pos} {a b c e : Expr} {es : List Expr}
/-- t[::-1] -/
def tRevT (K : PySem.W.Frag) (te : TE) : TE := fun σ H Q => te σ H fun x H1 => ∃ a xs, x = .ref a ∧ SqT K H1 a xs ∧ ∀ p, H1 p = none → Q (.ref p) (upd H1 p (.tup xs.reverse))
theorem pe_revT {te : TE} {k : Nat} {p1 p2 p3 : Pos} (he : PE X e te) : PE X (.Subscript e (.Slice none none (some (.UnaryOp .USub (.Constant (.int 1) k p1) p2)) p3) pos) (tRevT X.K te) := by
  refine ⟨fun pins s σ H Q I h => ?_⟩
  refine Subscript_ (thn (he.run pins s σ H _ I h) fun v s1 ⟨x, H1, I1, r1, q1⟩ => ?_)
  obtain ⟨a, xs, ex, hx, q⟩ := q1
  subst ex
  cases r1
  have hst : PO X (some (.UnaryOp .USub (.Constant (.int 1) k p1) p2)) (tPart (tUn (rU fun i => .int (-i)) (tC (.int 1)))) := po_some (pe_un un_neg pe_int)
  refine wpAny_Slice (thn (po_none.run pins s1 σ H1 (fun o H2 => o = none ∧ H2 = H1) I1 ⟨rfl, rfl⟩) fun vl s2 ⟨l, H2, I2, pl, el, e2⟩ => ?_)
  subst el e2
  refine thn (po_none.run pins s2 σ H2 (fun o H3 => o = none ∧ H3 = H2) I2 ⟨rfl, rfl⟩) fun vu s3 ⟨u, H3, I3, pu, eu, e3⟩ => ?_
  subst eu e3
  refine thn (hst.run pins s3 σ H3 (fun o H4 => o = some (-1) ∧ H4 = H3) I3 ⟨1, rfl, -1, rfl, rfl, rfl⟩) fun vs s4 ⟨o, H4, I4, ps, eo, e4⟩ => ?_
  subst eo e4
  have hvl : vl = .none := by cases pl; rfl
  have hvu : vu = .none := by cases pu; rfl
  subst hvl hvu
  have I5 : Inv X pins σ H4 { s4 with heap := s4.heap.push { cls := .type "slice", data := .fields #[.none, .none, vs] } } := I4.kept (t' := s4.toks) fun b ob q => Heap.get?_push_of_some _ q
  obtain ⟨its, r, ht, hz⟩ := I5.tuple hx
  show wpAny (model X.prog X.w) X.A (subscriptTail e (.Slice none none (some (.UnaryOp .USub (.Constant (.int 1) k p1) p2)) p3) (.ref a) (.ref s4.heap.objs.size)) (EP X pins σ Q) X.xe { s4 with heap := s4.heap.push { cls := .type "slice", data := .fields #[.none, .none, vs] } }
  refine tail_any (ops := [.ref a, .ref s4.heap.objs.size]) ht.typeIs (PyProof.Rows.slot_tuple_getitem.lookup) ?_ (by with_unfolding_all rfl)
  refine getItem_tuple_rev ht (Heap.IsSliceOf.new _ .none .none vs) ps ?_ (by rw [List.size_toArray, ← r.length]; exact hz)
  refine ⟨.ref _, _, I5.laid (t' := s4.toks) (o := .tup xs.reverse) (fun b ob q => Heap.get?_push_of_some _ q) (Nat.le_refl _) ?_, rfl, q _ (I5.hok.fresh (Nat.le_refl _))⟩
  exact ⟨by rw [List.length_reverse]; exact hz, _, r.reverse, IsTup.new _ _⟩
theorem ev_revT {p1 p2 p3 : Pos} {kk : Nat} (h : Ev X W e ρ fun d => match d with | .tuple ds => R (.tuple ds.reverse) | _ => False) : Ev X W (.Subscript e (.Slice none none (some (.UnaryOp .USub (.Constant (.int 1) kk p1) p2)) p3) pos) ρ R := by
  refine ⟨fun σ H B Q L k => (pe_revT pe_w).toZ ?_⟩
  refine h.run σ H B _ L fun v H1 B1 d s1 L1 D1 h2 => ?_
  cases d <;> first | exact h2.elim | skip
  rename_i ds
  obtain ⟨q, vs, rfl, h5, h6⟩ := dp_tup D1
  refine ⟨q, vs, rfl, seqT L1.gr.sub h5, fun p hp => ?_⟩
  obtain ⟨s, L'⟩ := L1.fresh hp (.tup vs.reverse)
  exact k _ _ _ _ (s1.trans s) L' (.tup (SqT.of upd_same) (dpAllMono s _ _ (dpAll_rev h6))) h2
/-- list(range(n)) -/
theorem rgV_dq {K : PySem.W.Frag} {B : Hp} (i j : Int) : DqAll K B (rgV i j) (rngD i (j - i).toNat) := by
  have e1 : rgV i j = ((List.range (j - i).toNat).map fun k => i + ((k : Nat) : Int)).map V.int := by unfold rgV; rw [List.map_map]; rfl
  have e2 : rngD i (j - i).toNat = ((List.range (j - i).toNat).map fun k => i + ((k : Nat) : Int)).map PyData.int := by unfold rngD; rw [List.map_map]; rfl
  rw [e1, e2]
  exact ints_dq _
theorem el_listR1 {p p2 q : Pos} {R : List PyData → Prop} (hc : X.calm = true) (hm : X.mg "list" = none) (hm2 : X.mg "range" = none)
    (h : Ev X W a ρ fun d => match d with | .int n => (0 ≤ n ∧ n ≤ 1000000) ∧ R (rngD 0 n.toNat) | _ => False) (hg : Gl X "list" := by rfl) (hg2 : Gl X "range" := by rfl)
    (na : starEach [a] X.env = (false, eval a X.env) :: starEach [] X.env := by rfl)
    (n2 : (starEach [.Call (.Name "range" p2) [a] [] q] X.env) = (false, eval (.Call (.Name "range" p2) [a] [] q) X.env) :: starEach [] X.env := by rfl) :
    El X W (.Call (.Name "list" p) [.Call (.Name "range" p2) [a] [] q] [] pos) ρ R := by
  refine ⟨fun σ H B Q L k => (pe_listRg hc hg hm (prg_1 hg2 hm2 pe_w na) n2).toZ ?_⟩
  refine h.run σ H B _ L fun v H1 B1 d s1 L1 D1 h2 => ?_
  cases d <;> first | exact h2.elim | skip
  rename_i n
  cases dp_int D1
  obtain ⟨⟨n0, n1⟩, h3⟩ := h2
  refine ⟨n, rfl, ⟨by decide, by decide, by omega, by omega, by omega⟩, fun p hp => ?_⟩
  have hd : DqAll X.K B1 (rgV 0 n) (rngD 0 n.toNat) := by
    have := rgV_dq (K := X.K) (B := B1) 0 n
    rw [Int.sub_zero] at this
    exact this
  obtain ⟨L', q1, q2, q3, q4⟩ := fresh_own L1 hp (rngD 0 n.toNat) (rgV 0 n) hd
  exact k p _ _ B1 _ s1 L' q1 q2 q3 q4 hd h3
/-- sorted(xs), xs a list of ints -/
theorem el_sorted {p : Pos} {R : List PyData → Prop} (hm : X.mg "sorted" = none) (h : Ev X W a ρ fun d => ∃ ns : List Int, d = .list (ns.map PyData.int) ∧ ∀ ms : List Int, ms.Perm ns → ms.Pairwise (· ≤ ·) → R (ms.map PyData.int)) (hg : Gl X "sorted" := by rfl)
    (he : starEach [a] X.env = (false, eval a X.env) :: starEach [] X.env := by rfl) (hpl : (backTo pos (starEach [] X.env)).any (·.1) = false := by rfl) : El X W (.Call (.Name "sorted" p) [a] [] pos) ρ R := by
  refine ⟨fun σ H B Q L k => (pe_callB cr_sortedI hg hm boot_sorted (pa_cons pe_w pa_nil he) (by decide) (by decide) he hpl).toZ ?_⟩
  refine h.run σ H B _ L fun v H1 B1 d s1 L1 D1 h2 => ?_
  obtain ⟨ns, rfl, h3⟩ := h2
  obtain ⟨q, vs, rfl, h5, h6⟩ := dp_list D1
  cases dq_ints h6
  refine ⟨q, ns, rfl, SqL.of (L1.gr.sub _ _ h5), fun ms t h7 h8 ht => ?_⟩
  obtain ⟨L', q1, q2, q3, q4⟩ := fresh_own L1 ht (ms.map PyData.int) (ms.map V.int) (ints_dq ms)
  exact k t _ _ B1 _ s1 L' q1 q2 q3 q4 (ints_dq ms) (h3 ms h7 h8)
end
/-! ### x.extend(t), t a tuple -/
open AutoSeq1 in
theorem list_extend_tup (l : Addr) (items : Array Value) (n : Nat) (b : Addr) (items2 : Array Value) (n2 : Nat) (dd : Option Addr) (sl : Array (Option Value)) (hs0 : ¬(!items.isEmpty && Builtin.List.listTooLong (items.size + items2.size)) = true) (hs1 : items.size ≤ sizeLine) (hs2 : items.size + items2.size ≤ sizeLine + 1) :
    Meets (Builtin.«list.extend» ⟨[.ref l, .ref b], []⟩) (fun _ R s => s.heap.get? l = some { cls := .type "list", dict := none, data := .seq items n, slots := #[] } ∧ s.heap.get? b = some { cls := .type "tuple", dict := dd, data := .seq items2 n2, slots := sl } ∧ R (.ok (.ret Value.none)) { s with heap := s.heap.update l (Obj.mapSeq fun x => x ++ items2), toks := s.toks }) :=
  .of_wp fun prog w A R s h => by
    obtain ⟨hp, g, d, tk, os⟩ := s
    obtain ⟨hl, hb, h⟩ := h
    have f1 := idx_int
    have f2 := F.sub_tuple_tuple
    have f3 := F.sub_list_list
    have f4 := F.sub_tuple_list
    have f5 := F.sub_list_tuple
    have hz' : (items ++ items2).size ≤ sizeLine + 1 := by rw [Array.size_append]; exact hs2
    wp_walk using (wpAny_updateSeq hl rfl (hz := hs1) (_hz' := hz')), wpAny_loadPart' hl, wpAny_loadPart' hb
    exact ⟨_, rfl, h⟩
def rExtendT (K : PySem.W.Frag) : V → List V → Hp → VK → Prop := fun x vs H Q => ∃ l b xs zs, x = .ref l ∧ vs = [.ref b] ∧ H l = some (.lst xs) ∧ SqT K H b zs ∧ xs.length + zs.length ≤ sizeLine ∧ Q .non (upd H l (.lst (xs ++ zs)))
theorem mt_extendT {X : Cx} : MtM X "list.extend" (rExtendT X.K) := by
  intro pins s σ H x vs v us Q I rx rv h
  obtain ⟨l, b, xs, zs, rfl, rfl, hH, hB, hz, q⟩ := h
  cases rx
  obtain ⟨u, rfl, ru⟩ := rv.one
  cases ru
  obtain ⟨z, its, n, r, hl, e⟩ := I.lstM hH
  obtain ⟨its2, r2, ⟨⟨ocls, dd, odata, sl⟩, ho, hc, n2, hd⟩, _⟩ := I.tuple hB
  simp only at hc hd
  subst hc hd
  have hl2 := r2.length
  have hsz : its.toArray.size + its2.toArray.size ≤ sizeLine := by rw [List.size_toArray, List.size_toArray]; omega
  have hlong : ¬ (!its.toArray.isEmpty && Builtin.List.listTooLong (its.toArray.size + its2.toArray.size)) = true := by
    rw [notLongL hsz, Bool.and_false]
    exact Bool.false_ne_true
  refine call_meets F.slot_list_extend ⟨_, e, rfl⟩ F.entry_list_extend (F.args_list_extend_2 _ _)
    (list_extend_tup l its.toArray n b its2.toArray n2 dd sl hlong (by rw [List.size_toArray]; omega) (by omega)) ⟨e, ho, ?_⟩
  refine ⟨.non, _, I.lset (its' := its ++ its2) hH e (by simp) (r.append r2) ?_, rfl, q⟩
  rw [List.length_append]
  omega
theorem es_extendT {X : Cx} {W : Wd} {ρ : List Sl} {D : Dz} {pos : Pos} {e : Expr} (i : Nat) {x : Str} {px pa cp : Pos} {ds : List PyData} (hρ : ρ[i]? = some (.own ds)) (h : Ev X W e ρ fun d => match d with | .tuple ys => ds.length + ys.length ≤ sizeLine ∧ D.nx (ρ.set i (.own (ds ++ ys))) | _ => False) (hN : X.N[i]? = some x := by rfl) (hv : Vis X.env.scope x := by first | exact Or.inl rfl | exact Or.inr (Or.inl rfl) | exact Or.inr (Or.inr rfl))
    (hs : swapsWith (.Call (.Attribute (.Name x px) "extend" pa) [e] [] cp) none pos.line X.env = pure false := by rfl) (hd : (x == ("__debug__" : Str)) = false := by decide) (hcd : (x == ("__classdict__" : Str)) = false := by decide)
    (hbase : attributeBase (.Name x px) "extend" X.env (eval (.Name x px) X.env) = eval (.Name x px) X.env := by rfl)
    (hfew : ((backTo cp (starEach [e] X.env)).all (fun x => !x.1) && (backToKw cp (keywordEach [] X.env)).all (fun x => x.1.isSome) && decide (([e] : List Expr).length + ([] : List Keyword).length + (if ([] : List Keyword).isEmpty then 0 else 1) < 30)) = true := by rfl)
    (hline : (pa.endLine == cp.line) = true := by rfl) (hse : starEach [e] X.env = (false, eval e X.env) :: starEach [] X.env := by rfl) (hpl : (backTo cp (starEach [] X.env)).any (·.1) = false := by rfl) :
    Es X W (.Expr (.Call (.Attribute (.Name x px) "extend" pa) [e] [] cp) pos) ρ D := by
  refine ⟨fun σ H B L => (ps_expr (pe_bm PySem.F.plainAttrs_list PySem.F.slot_list_extend PySem.F.type_list_extend mt_extendT (pe_var hN hv hd hcd) (pa_cons pe_w pa_nil hse) hbase hfew hline hse hpl) hs).toZ ?_⟩
  obtain ⟨p, vs, e1, e2, e3, e4, e5⟩ := L.at' i _ hρ
  refine ⟨.ref p, e1, .inl ⟨rfl, vs, SqL.of e4⟩, ?_⟩
  refine h.run σ H B _ L fun v H2 B2 d s2 L2 D2 h3 => ?_
  cases d <;> first | exact h3.elim | skip
  rename_i ys
  obtain ⟨p', vs', f1, f2, f3, f4, f5⟩ := L2.at' i _ hρ
  rw [e1] at f1
  cases f1
  obtain ⟨q, us, rfl, g1, g2⟩ := dp_tup D2
  exact ⟨p, q, vs', us, rfl, rfl, f4, seqT L2.gr.sub g1, by rw [dpAll_len f5, dpAll_len g2]; exact h3.1, B2, _, s2, L2.chg hρ e1 (dpAll_app f5 g2), h3.2⟩
/-- x + b of an own list and another, a fresh one -/
theorem el_addOwn {X : Cx} {W : Wd} {ρ : List Sl} {pos : Pos} {b : Expr} (i : Nat) {x : Str} {px : Pos} {ds : List PyData} {R : List PyData → Prop} (hρ : ρ[i]? = some (.own ds)) (h : Ev X W b ρ fun d' => match d' with | .list ys => ds.length + ys.length ≤ sizeLine ∧ R (ds ++ ys) | _ => False) (hN : X.N[i]? = some x := by rfl) (hv : Vis X.env.scope x := by first | exact Or.inl rfl | exact Or.inr (Or.inl rfl) | exact Or.inr (Or.inr rfl))
    (hd : (x == ("__debug__" : Str)) = false := by decide) (hcd : (x == ("__classdict__" : Str)) = false := by decide) : El X W (.BinOp (.Name x px) .Add b pos) ρ R := by
  refine ⟨fun σ H B Q L k => (pe_op op_cat (pe_var hN hv hd hcd) pe_w).toZ ?_⟩
  obtain ⟨p, vs, e1, e2, e3, e4, e5⟩ := L.at' i _ hρ
  refine ⟨.ref p, e1, ?_⟩
  refine h.run σ H B _ L fun u H2 B2 d' s2 L2 D2 h3 => ?_
  cases d' <;> first | exact h3.elim | skip
  rename_i ys
  obtain ⟨p', vs', f1, f2, f3, f4, f5⟩ := L2.at' i _ hρ
  rw [e1] at f1
  cases f1
  obtain ⟨q, us, rfl, g3, g4⟩ := dp_list D2
  refine ⟨p, q, vs', us, rfl, rfl, f4, L2.gr.sub _ _ g3, by rw [dpAll_len f5, dpAll_len g4]; exact h3.1, fun t ht => ?_⟩
  obtain ⟨L', q1, q2, q3, q4⟩ := fresh_own L2 ht (ds ++ ys) (vs' ++ us) (dpAll_app f5 g4)
  exact k t _ _ B2 _ s2 L' q1 q2 q3 q4 (dpAll_app f5 g4) h3.2
end
section
variable {X : Cx} {W : Wd} {ρ : List Sl} {tg e : Expr}
/-! ### for x in xs, xs a list or a tuple -/
def iSeq (K : PySem.W.Frag) (tl : TE) : TI := fun σ H R => tl σ H fun x H1 => ∃ a, x = V.ref a ∧ (((∃ xs, SqL K H1 a xs) ∧ R (Itl K a) H1) ∨ ((∃ xs, SqT K H1 a xs) ∧ R (Itt K a) H1))
theorem pi_seq {tl : TE} (hl : PE X e tl) : PI X tg e (iSeq X.K tl) := by
  refine ⟨fun pins s σ H R I h => ?_⟩
  refine thn (hl.run pins s σ H _ I h) fun v s1 ⟨x, H1, I1, r1, q1⟩ => ?_
  obtain ⟨a, e, hh⟩ := q1
  subst e
  cases r1
  rcases hh with ⟨⟨xs, hq⟩, q⟩ | ⟨⟨xs, hq⟩, q⟩
  · obtain ⟨its, rv, p, hz⟩ := I1.list hq
    refine wpAny_pyIter_list p.isList ?_
    refine ⟨s1.heap.objs.size, [s1.heap.objs.size], _, _, H1, rfl, I1.kept (t' := s1.toks) fun b o e => Heap.get?_push_of_some _ e, turn_list a _, ⟨_, Heap.get?_push_size _ rfl, rfl, rfl⟩, fun b hb => ?_, q⟩
    have e : b = s1.heap.objs.size := by simpa using hb
    subst e
    exact I1.fpOk (Nat.le_refl _) (I1.hok.fresh (Nat.le_refl _))
  · obtain ⟨its, rv, p, hz⟩ := I1.tuple hq
    refine wpAny_pyIter_tuple (show s1.heap.IsTuple a its.toArray from p) ?_
    refine ⟨s1.heap.objs.size, [s1.heap.objs.size], _, _, H1, rfl, I1.kept (t' := s1.toks) fun b o e => Heap.get?_push_of_some _ e, turn_tuple a _, ⟨_, Heap.get?_push_size _ rfl, rfl, rfl⟩, fun b hb => ?_, q⟩
    have e : b = s1.heap.objs.size := by simpa using hb
    subst e
    exact I1.fpOk (Nat.le_refl _) (I1.hok.fresh (Nat.le_refl _))
theorem ei_seq {R : List PyData → Prop} (h : Ev X W e ρ fun d => ∃ ds, (d = .tuple ds ∨ d = .list ds) ∧ R ds) : Ei X W tg e ρ R := by
  refine ⟨fun σ H B Q L k => (pi_seq pe_w).toZ ?_⟩
  refine h.run σ H B _ L fun v H1 B1 d s1 L1 D1 h2 => ?_
  obtain ⟨ds, h2, h5⟩ := h2
  rcases h2 with rfl | rfl
  · obtain ⟨p, vs, rfl, h3, h4⟩ := dp_tup D1
    exact ⟨p, rfl, .inr ⟨⟨vs, seqT L1.gr.sub h3⟩, k _ H1 B1 _ s1 L1 (walk_tup h3 h4) h5⟩⟩
  · obtain ⟨p, vs, rfl, h3, h4⟩ := dp_list D1
    exact ⟨p, rfl, .inl ⟨⟨vs, SqL.of (L1.gr.sub _ _ h3)⟩, k _ H1 B1 _ s1 L1 (walk_list h3 h4) h5⟩⟩
end
end Z

namespace Z
open PySem PySem.Spec PyProof.Rows L2 GenW
section
variable {M : Model} {A : Around} {R : GenEnd} {Y : Protocol} {n : Nat} {s₀ : Shared} {c : Code} {fs : List Frame} {s : Shared} {env : Env}
  {K : Flow → Sem PySem.Fin} {H : Value → Sem PySem.Fin} {gd : Bool → Bool} {lv : List Value → List Value}
/-- if, in a generator's body -/
theorem seg_If {test : Expr} {body orelse : List Stmt} {pos : Pos}
    (h : wpAny M (A.over c fs) (isTrue test env (eval test env)) (fun b s' => if b = true then Seg M A R Y n s₀ c ((execs body env).wrap K H gd lv) fs s' else Seg M A R Y n s₀ c ((execs orelse env).wrap K H gd lv) fs s')
      (fun x s' => Seg M A R Y n s₀ c (H x) fs s') s) : Seg M A R Y n s₀ c ((exec (.If test body orelse pos) env).wrap K H gd lv) fs s := by
  refine seg_at ?_
  show Seg M A R Y n s₀ c ((isTrue test env (eval test env) >>= fun b => if b = true then execs body env else execs orelse env).wrap K H gd lv) fs s
  rw [Sem.bind_eq_wrap', Sem.wrap_wrap]
  refine seg_wrap (wpAny_mono h (fun b s' hb => ?_) fun _ _ x => x)
  cases b with
  | true =>
    rw [if_pos rfl] at hb
    exact hb
  | false =>
    rw [if_neg Bool.false_ne_true] at hb
    exact hb
/-- for, in a generator's body -/
theorem seg_For {target iter : Expr} {body orelse : List Stmt} {pos : Pos} (hs : ∀ x, foldedSetIterable iter env x = pure x)
    (h : wpAny M (A.over c fs) (eval iter env) (fun x s1 => wpAny M (A.over c fs) (pyIter x) (fun it s2 => ∀ p, Seg M A R Y n s₀ (.forLoop target it body orelse env) (M.den (.forLoop target it body orelse env))
      (.ret (fun r => ((match r with | .ok f => (.pure f : Sem Flow) | .error e => .raise e).onRaise (cameBack env)).wrap K H gd lv) none (gd false) (lv []) c p [] :: fs) s2) (fun x s' => Seg M A R Y n s₀ c (H x) fs s') s1) (fun x s' => Seg M A R Y n s₀ c (H x) fs s') s) :
    Seg M A R Y n s₀ c ((exec (.For target iter body orelse pos) env).wrap K H gd lv) fs s := by
  refine seg_at ?_
  have e : (do
      let x ← foldedSetIterable iter env (← eval iter env)
      standAt iter.pos
      runOwn (.forLoop target (← holding [x] (pyIter x)) body orelse env) env : Sem Flow) =
      ((do
        let x ← foldedSetIterable iter env (← eval iter env)
        standAt iter.pos
        holding [x] (pyIter x)) >>= fun it => runOwn (.forLoop target it body orelse env) env) := by
    simp only [bind_assoc]
  show Seg M A R Y n s₀ c ((do
      let x ← foldedSetIterable iter env (← eval iter env)
      standAt iter.pos
      runOwn (.forLoop target (← holding [x] (pyIter x)) body orelse env) env : Sem Flow).wrap K H gd lv) fs s
  rw [e, Sem.bind_eq_wrap', Sem.wrap_wrap]
  refine seg_wrap ?_
  refine wpAny_bind (wpAny_mono h (fun x s1 h1 => ?_) fun _ _ x => x)
  refine wpAny_bind (wpAny_of_eq (hs x) (wpAny_bind (wpAny_standAt (wpAny_holding (wpAny_mono h1 (fun it s2 h2 => ?_) fun _ _ x => x)))))
  exact seg_call h2
end
section
variable {prog : Program} {w : World} {A : Around} {R : GenEnd} {Y : Protocol} {n : Nat} {s₀ : Shared} {fs : List Frame} {s : Shared} {env : Env}
theorem noted_wrap (e : Value) : ((do noteFrame e env; theTreesLotGoes e : Sem Unit).bind fun _ => (Sem.raise e : Sem PySem.Fin)) = (do noteFrame e env; theTreesLotGoes e : Sem Unit).wrap (fun _ => .raise e) .raise id id := Sem.bind_eq_wrap _ _
theorem seg_forLoop {target : Expr} {it : Value} {body : List Stmt}
    (h : wpAny (model prog w) (A.over (.forLoop target it body [] env) fs) (pyNext it) (fun r s1 => match r with
        | none => Seg (model prog w) A R Y n s₀ (.block [] env) ((model prog w).den (.block [] env)) fs s1
        | some v => wpAny (model prog w) (A.over (.forLoop target it body [] env) fs) (letOwnedTupleGo target it v) (fun _ s2 => wpAny (model prog w) (A.over (.forLoop target it body [] env) fs) (assign target env v) (fun _ s3 =>
            Seg (model prog w) A R Y n s₀ (.forLoop target it body [] env) ((execs body env).wrap (fun f => match f with
              | .next | .cont => .pure (.again (.forLoop target it body [] env))
              | .brk => .pure (.done .next)
              | .ret v => .pure (.done (.ret v))) (fun e => (do noteFrame e env; theTreesLotGoes e : Sem Unit).wrap (fun _ => .raise e) .raise id id) id id) fs s3)
            (fun x s' => Seg (model prog w) A R Y n s₀ (.forLoop target it body [] env) ((do noteFrame x env; theTreesLotGoes x : Sem Unit).wrap (fun _ => .raise x) .raise id id) fs s') s2)
            (fun x s' => Seg (model prog w) A R Y n s₀ (.forLoop target it body [] env) ((do noteFrame x env; theTreesLotGoes x : Sem Unit).wrap (fun _ => .raise x) .raise id id) fs s') s1)
      (fun x s' => Seg (model prog w) A R Y n s₀ (.forLoop target it body [] env) ((do noteFrame x env; theTreesLotGoes x : Sem Unit).wrap (fun _ => .raise x) .raise id id) fs s') s) :
    Seg (model prog w) A R Y n s₀ (.forLoop target it body [] env) ((model prog w).den (.forLoop target it body [] env)) fs s := by
  show Seg _ A R Y n s₀ _ ((forTurn target it body [] env).onRaise (fun x => do noteFrame x env; theTreesLotGoes x)) fs s
  unfold forTurn
  rw [Sem.onRaise_eq_wrap, Sem.bind_eq_wrap', Sem.wrap_wrap]
  refine seg_wrap (wpAny_standAt ?_)
  dsimp only
  rw [Sem.bind_eq_wrap', Sem.wrap_wrap]
  refine seg_wrap (wpAny_onRaise (wpAny_mono h (fun r s1 h1 => ?_) fun x s' hx => wpAny_standAt ?_))
  · cases r with
    | none =>
      dsimp only
      exact seg_again rfl h1
    | some v =>
      dsimp only
      rw [Sem.bind_eq_wrap', Sem.wrap_wrap]
      refine seg_wrap (wpAny_mono h1 (fun _ s2 h2 => ?_) fun x s' hx => ?_)
      · try dsimp only
        rw [Sem.bind_eq_wrap', Sem.wrap_wrap]
        refine seg_wrap (wpAny_mono h2 (fun _ s3 h3 => ?_) fun x s' hx => ?_)
        · try dsimp only
          rw [Sem.bind_eq_wrap', Sem.wrap_wrap]
          rw [Sem.wrap_congr (execs body env) _ _ (K' := fun f => match f with
            | .next | .cont => .pure (.again (.forLoop target it body [] env))
            | .brk => .pure (.done .next)
            | .ret v => .pure (.done (.ret v))) (H' := (fun e => (do noteFrame e env; theTreesLotGoes e : Sem Unit).wrap (fun _ => .raise e) .raise id id))
            (fun f => by cases f <;> rfl)
            (fun e => by first | exact Sem.bind_eq_wrap _ _ | exact noted_wrap e)]
          exact h3
        · first | (rw [← noted_wrap] at hx; exact hx) | exact hx
      · first | (rw [← noted_wrap] at hx; exact hx) | exact hx
  · first | (rw [← noted_wrap] at hx; exact hx) | exact hx
end
section
variable {X : Cx}
/-! ### if, for -/
def tGIf (c : TT) (t u : TGn) : TGn := fun D ys σ H => c σ H fun b H1 => if b = true then t D ys σ H1 else u D ys σ H1
theorem gs_if {test : Expr} {body orelse : List Stmt} {pos : Pos} {tc : TT} {tb te : TGn} (hc : PT X test tc) (hb : GSs X body tb) (he : GSs X orelse te) : GS X (.If test body orelse pos) (tGIf tc tb te) := by
  refine ⟨fun A S ip R n ys s₀ c fs K J gd lv s σ H D g hn k hI ht => ?_⟩
  obtain ⟨acc, cc, r, I⟩ := hI
  refine seg_If ?_
  rw [g.over]
  refine wpAny_mono (hc.run _ s σ H _ I ht) (fun b s' hb' => ?_) fun x s' hx => k.exc n s₀ x s' hx
  obtain ⟨H2, I2, q2⟩ := hb'
  cases b with
  | true =>
    rw [if_pos rfl] at q2 ⊢
    exact hb.run A S ip R n ys s₀ c fs K J gd lv s' σ H2 D g hn k ⟨acc, cc, r, I2⟩ q2
  | false =>
    rw [if_neg Bool.false_ne_true] at q2 ⊢
    exact he.run A S ip R n ys s₀ c fs K J gd lv s' σ H2 D g hn k ⟨acc, cc, r, I2⟩ q2
def tGFor (wi : TI) (g : TG) (tb : TGn) : TGn := fun D ys σ H => wi σ H fun J H1 => ∃ W : Nat → Nat → List V → L2.St → Hp → Prop, (∃ m, W 0 m ys σ H1) ∧ ∀ i m ys σ H, W i m ys σ H →
  (J.stop i H ∧ D.nx ys σ H) ∨ (J.go i H ∧ ∃ N : List V → L2.St → Hp → Prop, (∀ ys' σ' H', N ys' σ' H' → ∃ m', m' < m ∧ W (i + 1) m' ys' σ' H') ∧ ∀ x H', J.yld i H x H' → g x σ H' fun σ2 H2 => tb { D with nx := N, ct := N, bk := D.nx } ys σ2 H2)
theorem gi_un {S : Addr} {ip pl : List (Addr × Obj)} {ys : List V} {σ : L2.St} {H : Hp} {s : Shared} (h : GI X S (ip ++ pl) ys σ H s) : GI X S ip ys σ H s := by
  obtain ⟨acc, c, r, I⟩ := h
  have e : (S, lstObj acc c) :: (ip ++ pl) = ((S, lstObj acc c) :: ip) ++ pl := rfl
  rw [e] at I
  exact ⟨acc, c, r, I.unpinned⟩
theorem gs_for {tg iter : Expr} {body : List Stmt} {pos : Pos} {wi : TI} {g : TG} {tb : TGn} (hp : PassesOwn (model X.prog X.w) X.A X.env X.xe) (hc : X.calm = true) (hi : PI X tg iter wi) (hg : PG X tg g) (hb : GSs X body tb)
    (hs : ∀ x, foldedSetIterable iter X.env x = pure x := by intro _; rfl) : GS X (.For tg iter body [] pos) (tGFor wi g tb) := by
  refine ⟨fun A S ip R n ys s₀ c fs K J gd lv s σ H D gc hn k hI ht => ?_⟩
  obtain ⟨acc, cc, r, I⟩ := hI
  refine seg_For hs ?_
  rw [gc.over]
  refine wpAny_mono (hi.run _ s σ H _ I ht) (fun v s1 h1 => wpAny_mono h1 (fun itv s2 h2 p => ?_) fun x s' hx => k.exc n s₀ x s' hx) fun x s' hx => k.exc n s₀ x s' hx
  obtain ⟨it, fp, tn, J', H2, e, I2, T, st2, f2, W, ⟨m0, w0⟩, turn⟩ := h2
  subst e
  have gl := fun (kk : Result → Sem PySem.Fin) => gc_loop (k := kk) (c' := .forLoop tg (.ref it) body [] X.env) (l := lv []) (kp := []) (p := p) gc rfl rfl
  have hfS : ∀ b ∈ fp, b ≠ S := fun b hb e => (f2 b hb).2.2.2.2.2 (S, lstObj acc cc) (List.mem_append_right _ List.mem_cons_self) e.symm
  have stat : ∀ {H' : Hp} {acc' : Array Value} {c' : Nat}, (∀ b ∈ fp, H' b = none) → ∀ b ∈ fp, FpOk X ((S, lstObj acc' c') :: ip) H' b := fun {H' acc' c'} hn b hb => by
    obtain ⟨q0, q1, q2, q3, q4, q5⟩ := f2 b hb
    refine ⟨hn b hb, q1, q2, q3, q4, fun p hp => ?_⟩
    rcases List.mem_append.mp hp with hp | hp
    · exact q5 p (List.mem_append_left _ hp)
    · rcases List.mem_cons.mp hp with hp | hp
      · rw [hp]
        exact fun z => hfS b hb z.symm
      · exact q5 p (List.mem_append_right _ (List.mem_cons_of_mem _ hp))
  have loop : ∀ (m i n : Nat) (ys : List V) (s₀ s : Shared) (σ : L2.St) (H : Hp), n + ys.length = sizeLine → W i m ys σ H → GI X S ip ys σ H s → tn i s.heap → (∀ b ∈ fp, H b = none) →
      Seg (model X.prog X.w) A R (GY X S) n s₀ (.forLoop tg (.ref it) body [] X.env) ((model X.prog X.w).den (.forLoop tg (.ref it) body [] X.env))
        (.ret (fun r => ((match r with | .ok f => (.pure f : Sem Flow) | .error e => .raise e).onRaise (cameBack X.env)).wrap K J gd lv) none (gd false) (lv []) c p [] :: fs) s := by
    intro m
    induction m using Nat.strongRecOn with
    | ind m ih =>
      intro i n ys s₀ s σ H hn w hI stn hfr
      have ee : ∀ (n : Nat) (s₀ : Shared) (x : Value) (s' : Shared), X.xe x s' → Seg (model X.prog X.w) A R (GY X S) n s₀ (.forLoop tg (.ref it) body [] X.env)
          ((do noteFrame x X.env; theTreesLotGoes x : Sem Unit).wrap (fun _ => .raise x) .raise id id)
          (.ret (fun r => ((match r with | .ok f => (.pure f : Sem Flow) | .error e => .raise e).onRaise (cameBack X.env)).wrap K J gd lv) none (gd false) (lv []) c p [] :: fs) s' := fun n s₀ x s' hx => by
        refine seg_wrap ?_
        rw [(gl _).over]
        refine wpAny_bind (wpAny_mono (hp x s' hx) (fun _ s'' hcb => wpAny_theTreesLotGoes ?_) fun y s'' hcb => ?_)
        · exact seg_leaf (.error x) (seg_cameBack gc k hcb)
        · exact seg_leaf (.error y) (seg_cameBack gc k hcb)
      refine seg_forLoop ?_
      rw [(gl _).over]
      obtain ⟨acc, cc, r, I⟩ := hI
      rcases turn i m ys σ H w with ⟨stop, qn⟩ | ⟨go, N, hN, step⟩
      · refine wpAny_mono (T.done X rfl rfl rfl hc i _ s σ H X.xe I (stat hfr) stn stop) (fun r' s4 hr => ?_) fun x s' hx => ee n s₀ x s' hx
        obtain ⟨hr, I4⟩ := hr
        subst hr
        exact seg_leaf (.ok .next) (k.ok n ys s₀ s4 .next hn ⟨σ, H, ⟨acc, cc, r, I4⟩, qn⟩)
      · refine wpAny_mono (T.item X rfl rfl rfl hc i _ s σ H X.xe I (stat hfr) stn go) (fun r' s4 hr => ?_) fun x s' hx => ee n s₀ x s' hx
        obtain ⟨u, hr, h4⟩ := hr
        subst hr
        refine wpAny_mono h4 (fun _ s5 h5 => ?_) fun x s' hx => ee n s₀ x s' hx
        obtain ⟨x, H5, I5, r5, y5, st5, fr5⟩ := h5
        have I5' := I5.pinned (stat fr5) (T.obj _ _ st5)
        refine wpAny_mono (hg.run _ s5 σ H5 x u _ I5' r5 (step x H5 y5)) (fun _ s6 h6 => ?_) fun x s' hx => ee n s₀ x s' hx
        obtain ⟨σ6, H6, I6, q6⟩ := h6
        have hip : ∀ q ∈ ip ++ pinsAt fp s5.heap, q.1 ≠ S := fun q hq => by
          rcases List.mem_append.mp hq with hq | hq
          · exact gc.ip q hq
          · exact hfS q.1 (of_pinsAt hq).1
        have gc2 : GC X S (ip ++ pinsAt fp s5.heap) A (.forLoop tg (.ref it) body [] X.env) (.ret (fun r => ((match r with | .ok f => (.pure f : Sem Flow) | .error e => .raise e).onRaise (cameBack X.env)).wrap K J gd lv) none (gd false) (lv []) c p [] :: fs) id :=
          ⟨gc.pn, hip, gc.apart, (gl _).over, (gl _).split, (gl _).guard, rfl⟩
        refine hb.run A S (ip ++ pinsAt fp s5.heap) R n ys s₀ _ _ _ _ id id s6 σ6 H6 { D with nx := N, ct := N, bk := D.nx } gc2 hn ⟨fun n' ys' s₀' s3 f hn' hs' => ?_, fun n' s₀' x s3 hx => ee n' s₀' x s3 hx⟩ ⟨acc, cc, r, I6⟩ q6
        have again : ∀ {σ7 : L2.St} {H7 : Hp}, GI X S (ip ++ pinsAt fp s5.heap) ys' σ7 H7 s3 → N ys' σ7 H7 → Seg (model X.prog X.w) A R (GY X S) n' s₀' (.forLoop tg (.ref it) body [] X.env) (.pure (.again (.forLoop tg (.ref it) body [] X.env)))
            (.ret (fun r => ((match r with | .ok f => (.pure f : Sem Flow) | .error e => .raise e).onRaise (cameBack X.env)).wrap K J gd lv) none (gd false) (lv []) c p [] :: fs) s3 := fun {σ7 H7} I7 n7 => by
          obtain ⟨m', hm, w7⟩ := hN ys' σ7 H7 n7
          obtain ⟨acc7, c7, r7, J7⟩ := id I7
          have pin7 : ∀ b ∈ fp, ∀ o, s5.heap.get? b = some o → s3.heap.get? b = some o ∧ H7 b = none := fun b hb o e => by
            have := J7.pin (b, o) (List.mem_append_right _ (List.mem_cons_of_mem _ (List.mem_append_right _ (mem_pinsAt hb e))))
            exact ⟨this.1, this.2.1⟩
          refine seg_again rfl (ih m' hm (i + 1) n' ys' s₀' s3 σ7 H7 hn' w7 (gi_un I7) (T.keep _ _ _ st5 fun b hb o e => (pin7 b hb o e).1) fun b hb => ?_)
          obtain ⟨o, e, _⟩ := T.obj _ _ st5 b hb
          exact (pin7 b hb o e).2
        cases f with
        | next =>
          obtain ⟨σ3, H3, I3, n3⟩ := hs'
          exact again I3 n3
        | cont =>
          obtain ⟨σ3, H3, I3, n3⟩ := hs'
          exact again I3 n3
        | brk =>
          obtain ⟨σ3, H3, I3, n3⟩ := hs'
          exact seg_leaf (.ok .next) (k.ok n' ys' s₀' s3 .next hn' ⟨σ3, H3, gi_un I3, n3⟩)
        | ret v =>
          obtain ⟨x3, σ3, H3, I3, r3, n3⟩ := hs'
          exact seg_leaf (.ok (.ret v)) (k.ok n' ys' s₀' s3 (.ret v) hn' ⟨x3, σ3, H3, gi_un I3, r3, n3⟩)
  exact loop m0 0 n ys s₀ s2 σ H2 hn w0 ⟨acc, cc, r, I2⟩ st2 fun b hb => (f2 b hb).1
end
section
variable (X : Cx)
def tGw (st : Stmt) : TGn := fun D ys σ H => ∀ (A : Around) (S : Addr) (ip : List (Addr × Obj)) (R : GenEnd) (n : Nat) (s₀ : Shared) (c : Code) (fs : List Frame) (K : Flow → Sem PySem.Fin) (J : Value → Sem PySem.Fin) (gd : Bool → Bool) (lv : List Value → List Value) (s : Shared),
    GC X S ip A c fs gd → n + ys.length = sizeLine → GK X S ip A R c fs K J D → GI X S ip ys σ H s →
    Seg (model X.prog X.w) A R (GY X S) n s₀ c ((exec st X.env).wrap K J gd lv) fs s
def tGws (st : List Stmt) : TGn := fun D ys σ H => ∀ (A : Around) (S : Addr) (ip : List (Addr × Obj)) (R : GenEnd) (n : Nat) (s₀ : Shared) (c : Code) (fs : List Frame) (K : Flow → Sem PySem.Fin) (J : Value → Sem PySem.Fin) (gd : Bool → Bool) (lv : List Value → List Value) (s : Shared),
    GC X S ip A c fs gd → n + ys.length = sizeLine → GK X S ip A R c fs K J D → GI X S ip ys σ H s →
    Seg (model X.prog X.w) A R (GY X S) n s₀ c ((execs st X.env).wrap K J gd lv) fs s
end
section
variable {X : Cx}
theorem gs_w {st : Stmt} : GS X st (tGw X st) := ⟨fun A S ip R n ys s₀ c fs K J gd lv s σ H D g hn k hI ht => ht A S ip R n s₀ c fs K J gd lv s g hn k hI⟩
theorem gss_w {st : List Stmt} : GSs X st (tGws X st) := ⟨fun A S ip R n ys s₀ c fs K J gd lv s σ H D g hn k hI ht => ht A S ip R n s₀ c fs K J gd lv s g hn k hI⟩
theorem _root_.L2.GS.toZ {st : Stmt} {t : TGn} (h : GS X st t) {D ys σ H} (q : t D ys σ H) : tGw X st D ys σ H := fun A S ip R n s₀ c fs K J gd lv s g hn k hI => h.run A S ip R n ys s₀ c fs K J gd lv s σ H D g hn k hI q
theorem _root_.L2.GSs.toZ {st : List Stmt} {t : TGn} (h : GSs X st t) {D ys σ H} (q : t D ys σ H) : tGws X st D ys σ H := fun A S ip R n s₀ c fs K J gd lv s g hn k hI => h.run A S ip R n ys s₀ c fs K J gd lv s σ H D g hn k hI q
/-- weaker ends -/
structure GLe (D D' : GEnds) : Prop where
  nx : ∀ ys σ H, D.nx ys σ H → D'.nx ys σ H
  rt : ∀ ys v H, D.rt ys v H → D'.rt ys v H
  bk : ∀ ys σ H, D.bk ys σ H → D'.bk ys σ H
  ct : ∀ ys σ H, D.ct ys σ H → D'.ct ys σ H
theorem _root_.L2.GK.weak {S : Addr} {ip : List (Addr × Obj)} {A : Around} {R : GenEnd} {c : Code} {fs : List Frame} {K : Flow → Sem PySem.Fin} {J : Value → Sem PySem.Fin} {D D' : GEnds} (l : GLe D D') (k : GK X S ip A R c fs K J D') : GK X S ip A R c fs K J D :=
  ⟨fun n ys s₀ s f hn hs => k.ok n ys s₀ s f hn (by
    cases f with
    | next => obtain ⟨σ, H, I, q⟩ := hs; exact ⟨σ, H, I, l.nx _ _ _ q⟩
    | brk => obtain ⟨σ, H, I, q⟩ := hs; exact ⟨σ, H, I, l.bk _ _ _ q⟩
    | cont => obtain ⟨σ, H, I, q⟩ := hs; exact ⟨σ, H, I, l.ct _ _ _ q⟩
    | ret u => obtain ⟨v, σ, H, I, r, q⟩ := hs; exact ⟨v, σ, H, I, r, l.rt _ _ _ q⟩), k.exc⟩
theorem tGw.weak {st : Stmt} {D D' : GEnds} {ys σ H} (h : tGw X st D ys σ H) (l : GLe D D') : tGw X st D' ys σ H := fun A S ip R n s₀ c fs K J gd lv s g hn k hI => h A S ip R n s₀ c fs K J gd lv s g hn (k.weak l) hI
theorem tGws.weak {st : List Stmt} {D D' : GEnds} {ys σ H} (h : tGws X st D ys σ H) (l : GLe D D') : tGws X st D' ys σ H := fun A S ip R n s₀ c fs K J gd lv s g hn k hI => h A S ip R n s₀ c fs K J gd lv s g hn (k.weak l) hI
theorem tWs.weak {st : Stmt} {D D' : Ends} {σ H} (h : tWs X st D σ H) (n : ∀ σ H, D.nx σ H → D'.nx σ H) (r : ∀ v H, D.rt v H → D'.rt v H) (b : ∀ σ H, D.bk σ H → D'.bk σ H) (c : ∀ σ H, D.ct σ H → D'.ct σ H) : tWs X st D' σ H := fun pins s I => thn (h pins s I) fun f s' q => by
  cases f with
  | next => obtain ⟨σ', H', I', q⟩ := q; exact ⟨σ', H', I', n _ _ q⟩
  | brk => obtain ⟨σ', H', I', q⟩ := q; exact ⟨σ', H', I', b _ _ q⟩
  | cont => obtain ⟨σ', H', I', q⟩ := q; exact ⟨σ', H', I', c _ _ q⟩
  | ret u => obtain ⟨v, σ', H', I', rr, q⟩ := q; exact ⟨v, σ', H', I', rr, r _ _ q⟩
end
/-- what is wanted behind a statement of a generator (no return in it): out so far, the frame -/
structure Gd where
  nx : List PyData → List Sl → Prop
  bk : List PyData → List Sl → Prop := fun _ _ => False
  ct : List PyData → List Sl → Prop := fun _ _ => False
def Gde (K : PySem.W.Frag) (W : Wd) (B0 : Hp) (D : Gd) : GEnds where
  nx := fun ys σ H => ∃ B ρ ds, Same B0 B ∧ Lay K W B H σ ρ ∧ DqAll K B ys ds ∧ D.nx ds ρ
  rt := fun _ _ _ => False
  bk := fun ys σ H => ∃ B ρ ds, Same B0 B ∧ Lay K W B H σ ρ ∧ DqAll K B ys ds ∧ D.bk ds ρ
  ct := fun ys σ H => ∃ B ρ ds, Same B0 B ∧ Lay K W B H σ ρ ∧ DqAll K B ys ds ∧ D.ct ds ρ
theorem gde_back {K : PySem.W.Frag} {W : Wd} {B B' : Hp} {D : Gd} (s : Same B B') : GLe (Gde K W B' D) (Gde K W B D) :=
  ⟨fun ys σ H ⟨B2, ρ, ds, s2, q⟩ => ⟨B2, ρ, ds, s.trans s2, q⟩, fun _ _ _ z => z, fun ys σ H ⟨B2, ρ, ds, s2, q⟩ => ⟨B2, ρ, ds, s.trans s2, q⟩, fun ys σ H ⟨B2, ρ, ds, s2, q⟩ => ⟨B2, ρ, ds, s.trans s2, q⟩⟩
structure Gs (X : Cx) (W : Wd) (st : Stmt) (o : List PyData) (ρ : List Sl) (D : Gd) : Prop where
  run : ∀ (σ : L2.St) (H B : Hp) (ys : List V), Lay X.K W B H σ ρ → DqAll X.K B ys o → tGw X st (Gde X.K W B D) ys σ H
structure Gss (X : Cx) (W : Wd) (st : List Stmt) (o : List PyData) (ρ : List Sl) (D : Gd) : Prop where
  run : ∀ (σ : L2.St) (H B : Hp) (ys : List V), Lay X.K W B H σ ρ → DqAll X.K B ys o → tGws X st (Gde X.K W B D) ys σ H
section
variable {X : Cx} {W : Wd} {o : List PyData} {ρ : List Sl} {D : Gd} {pos : Pos} {c e : Expr} {st : Stmt} {sts body : List Stmt}
/-- a statement that hands out nothing -/
theorem gz_plain (h : Es X W st ρ { nx := D.nx o, rt := fun _ => False, bk := D.bk o, ct := D.ct o }) : Gs X W st o ρ D := by
  refine ⟨fun σ H B ys L Y => (gs_ps ps_w).toZ ?_⟩
  show tWs X st ((Gde X.K W B D).at ys) σ H
  refine (h.run σ H B L).weak (fun σ H ⟨B', ρ', s, L', q⟩ => ?_) (fun v H ⟨B', d, g, dv, q⟩ => q) (fun σ H ⟨B', ρ', s, L', q⟩ => ?_) (fun σ H ⟨B', ρ', s, L', q⟩ => ?_)
  all_goals exact ⟨B', ρ', o, s, L', dpAllMono s _ _ Y, q⟩
theorem gz_yield {yp : Pos} (h : Ev X W e ρ fun d => o.length < sizeLine ∧ D.nx (o ++ [d]) ρ) (hlt : o.length < sizeLine) (hco : X.env.scope.isCoroutine = false := by rfl) (hi : interactive X.env = false := by rfl) : Gs X W (.Expr (.Yield (some e) yp) pos) o ρ D := by
  refine ⟨fun σ H B ys L Y => (gs_yield pe_w hco hi).toZ ⟨?_, ?_⟩⟩
  · rw [dpAll_len Y]
    exact hlt
  · refine h.run σ H B _ L fun v H1 B1 d s1 L1 D1 h2 => ?_
    exact ⟨B1, ρ, o ++ [d], s1, L1, dpAll_app (dpAllMono s1 _ _ Y) (.cons D1 .nil), h2.2⟩
theorem gz_if (h : Et X W c ρ fun k => (k = true → Gss X W body o ρ D) ∧ (k = false → Gss X W sts o ρ D)) : Gs X W (.If c body sts pos) o ρ D := by
  refine ⟨fun σ H B ys L Y => (gs_if pt_w gss_w gss_w).toZ ?_⟩
  refine h.run σ H B _ L fun k H1 B1 s L1 q => ?_
  cases k with
  | true =>
    rw [if_pos rfl]
    exact ((q.1 rfl).run σ H1 B1 ys L1 (dpAllMono s _ _ Y)).weak (gde_back s)
  | false =>
    rw [if_neg Bool.false_ne_true]
    exact ((q.2 rfl).run σ H1 B1 ys L1 (dpAllMono s _ _ Y)).weak (gde_back s)
theorem gzs_nil (h : D.nx o ρ) : Gss X W [] o ρ D := ⟨fun σ H B ys L Y => gss_nil.toZ (D := Gde X.K W B D) (show ∃ B' ρ ds, Same B B' ∧ Lay X.K W B' H σ ρ ∧ DqAll X.K B' ys ds ∧ D.nx ds ρ from ⟨B, ρ, o, Same.refl _, L, Y, h⟩)⟩
theorem gzs_cons (h : Gs X W st o ρ { D with nx := fun o r => Gss X W sts o r D }) : Gss X W (st :: sts) o ρ D := by
  refine ⟨fun σ H B ys L Y => (gss_cons gs_w gss_w).toZ ?_⟩
  show tGw X st { Gde X.K W B D with nx := fun ys' σ' H' => tGws X sts (Gde X.K W B D) ys' σ' H' } ys σ H
  refine (h.run σ H B ys L Y).weak ⟨fun ys' σ' H' ⟨B', ρ', ds, s, L', Y', q⟩ => ?_, fun _ _ _ z => z, fun _ _ _ z => z, fun _ _ _ z => z⟩
  exact (q.run σ' H' B' ys' L' Y').weak (gde_back s)
theorem gzs_one (h : Gs X W st o ρ D) : Gss X W [st] o ρ D := by
  refine gzs_cons ⟨fun σ H B ys L Y => (h.run σ H B ys L Y).weak ⟨fun ys' σ' H' ⟨B', ρ', ds, s, L', Y', q⟩ => ⟨B', ρ', ds, s, L', Y', gzs_nil q⟩, fun _ _ _ z => z, fun _ _ _ z => z, fun _ _ _ z => z⟩⟩
/-- plain statements first -/
theorem gzs_plain (h : Es X W st ρ { nx := fun r => Gss X W sts o r D, rt := fun _ => False, bk := D.bk o, ct := D.ct o }) : Gss X W (st :: sts) o ρ D := gzs_cons (gz_plain h)
theorem gzs_cut (Mid : List PyData → List Sl → Prop) (h : Gs X W st o ρ { D with nx := Mid }) (h2 : ∀ o r, Mid o r → Gss X W sts o r D) : Gss X W (st :: sts) o ρ D :=
  gzs_cons ⟨fun σ H B ys L Y => (h.run σ H B ys L Y).weak ⟨fun ys' σ' H' ⟨B', ρ', ds, s, L', Y', q⟩ => ⟨B', ρ', ds, s, L', Y', h2 _ _ q⟩, fun _ _ _ z => z, fun _ _ _ z => z, fun _ _ _ z => z⟩⟩
theorem gz_for {tg iter : Expr} (hp : PassesOwn (model X.prog X.w) X.A X.env X.xe) (hc : X.calm = true)
    (h : Ei X W tg iter ρ fun ds => ∃ P : Nat → List PyData → List Sl → Prop, P 0 o ρ ∧ (∀ i d o1 ρ1, ds[i]? = some d → P i o1 ρ1 → Tg X W tg d ρ1 fun ρ2 => Gss X W body o1 ρ2 { nx := P (i + 1), bk := D.nx, ct := P (i + 1) }) ∧ ∀ o1 ρ1, P ds.length o1 ρ1 → D.nx o1 ρ1)
    (hs : ∀ x, foldedSetIterable iter X.env x = pure x := by intro _; rfl) : Gs X W (.For tg iter body [] pos) o ρ D := by
  refine ⟨fun σ H B ys L Y => (gs_for hp hc pi_w pg_w gss_w hs).toZ ?_⟩
  refine h.run σ H B _ L fun J H1 B1 ds s1 L1 wk hP => ?_
  obtain ⟨P, p0, turn, fin⟩ := hP
  refine ⟨fun i m ys σ H => m = ds.length - i ∧ i ≤ ds.length ∧ ∃ B' ρ o, Same B1 B' ∧ Lay X.K W B' H σ ρ ∧ DqAll X.K B' ys o ∧ P i o ρ, ⟨_, rfl, Nat.zero_le _, B1, ρ, o, Same.refl _, L1, dpAllMono s1 _ _ Y, p0⟩, ?_⟩
  rintro i m ys σ H ⟨rfl, hi, B', ρ1, o1, sB, L, Y', hPi⟩
  by_cases hlt : i < ds.length
  · refine .inr ⟨wk.go i B' H sB L.gr.sub hlt, fun ys' σ' H' => ∃ B'' ρ' o', Same B B'' ∧ Lay X.K W B'' H' σ' ρ' ∧ DqAll X.K B'' ys' o' ∧ Same B1 B'' ∧ P (i + 1) o' ρ', fun ys' σ' H' ⟨B'', ρ', o', _, L', Y2, sB', hP'⟩ => ⟨ds.length - (i + 1), by omega, rfl, hlt, B'', ρ', o', sB', L', Y2, hP'⟩, fun x H' hy => ?_⟩
    obtain ⟨d, B'', hd, s'', L'', Dx, _⟩ := wk.yld i B' H x H' W σ ρ1 sB L hy hlt
    refine (turn i d o1 ρ1 hd hPi).run x σ H' B'' _ L'' Dx fun σ2 H2 B2 ρ2 s2 L2 hb => ?_
    have sb : Same B1 B2 := (sB.trans s'').trans s2
    refine (hb.run σ2 H2 B2 ys L2 (dpAllMono (s''.trans s2) _ _ Y')).weak ⟨fun ys' σ' H' ⟨B3, ρ', o', s3, L3, Y3, q⟩ => ?_, fun _ _ _ z => z, fun ys' σ' H' ⟨B3, ρ', o', s3, L3, Y3, q⟩ => ?_, fun ys' σ' H' ⟨B3, ρ', o', s3, L3, Y3, q⟩ => ?_⟩
    · exact ⟨B3, ρ', o', s1.trans (sb.trans s3), L3, Y3, sb.trans s3, q⟩
    · exact ⟨B3, ρ', o', s1.trans (sb.trans s3), L3, Y3, q⟩
    · exact ⟨B3, ρ', o', s1.trans (sb.trans s3), L3, Y3, sb.trans s3, q⟩
  · have e : i = ds.length := by omega
    subst e
    exact .inl ⟨wk.stop B' H sB L.gr.sub, B', ρ1, o1, s1.trans sB, L, Y', fin o1 ρ1 hPi⟩
end
section
variable {X : Cx} {W : Wd} {ρ : List Sl} {pos : Pos} {e : Expr} {es : List Expr}
/-- *t, .. -/
theorem ea_star {R : List PyData → Prop} {p : Pos} (h : Ev X W e ρ fun d => match d with | .tuple xs => Ea X W es ρ fun ds => R (xs ++ ds) | _ => False) (hs : starEach (.Starred e p :: es) X.env = (true, eval e X.env) :: starEach es X.env := by rfl) : Ea X W (.Starred e p :: es) ρ R := by
  refine ⟨fun σ H B Q L k => (StX.pa_star pe_w pa_w hs).toZ ?_⟩
  refine h.run σ H B _ L fun v H1 B1 d s1 L1 D1 h2 => ?_
  cases d <;> first | exact h2.elim | skip
  rename_i xs
  obtain ⟨q, vs, rfl, h3, h4⟩ := dp_tup D1
  refine ⟨q, vs, rfl, .inl (seqT L1.gr.sub h3), ?_⟩
  refine Ea.run h2 σ H1 B1 _ L1 fun us H2 B2 ds s2 L2 D2 h5 => ?_
  exact k _ H2 B2 _ (s1.trans s2) L2 (dpAll_app (dpAllMono s2 _ _ h4) D2) h5
end
/-! ### a generator def, list(f(..)) -/
def ConG (K : PySem.W.Frag) (P : List PyData → (List PyData → Prop) → Prop) : SpG := fun vs H Qf _ => ∃ B ds R, Same B H ∧ DqAll K B vs ds ∧ P ds R ∧ ∀ out H' B' xs, Gr K ⟨none, (0, []), B, H⟩ B' H' → DqAll K B' out xs → R xs → Qf out H'
section
variable {P : Program} {w : World} {K : PySem.W.Frag} {mg : Str → Option Value} {base : Heap}
abbrev GBx (P : Program) (w : World) (K : PySem.W.Frag) (mg : Str → Option Value) (base : Heap) (N : List Str) (qual : Str) (sc : Scope) (f : Addr) (cdv : Value) (A : Around) (outer : List Env) (s : Shared) (H : Hp) (E : XK) (pn : List (Addr × Obj)) : Cx := gcxOf P w K mg base N qual sc f cdv A outer s H E pn
theorem fn_conG {x qual : Str} {st : Stmt} {f : Addr} {fd : FuncData} {N ps : List Str} {k : Nat} {P' : List PyData → (List PyData → Prop) → Prop} (F : Fun K x qual st f fd) (S : GScope N ps (defScope st)) (len : ∀ ds R, P' ds R → ds.length = ps.length)
    (body : ∀ (cdv : Value) (A : Around) (outer : List Env) (s : Shared) (H : Hp) (E : XK) (pn : List (Addr × Obj)) (W : Wd) (ds : List PyData) (R : List PyData → Prop), Room k (GBx P w K mg base N qual (defScope st) f cdv A outer s H E pn).A → P' ds R →
      Gss (GBx P w K mg base N qual (defScope st) f cdv A outer s H E pn) W (defBody st) [] (startZ N ds) { nx := fun o _ => R o }) : GFn P w K mg base (k + 1) f fd ps (ConG K P') := by
  obtain ⟨oc, od, kV, doc, pm, an, cdv, ct, osl, rfl, lk, hcd⟩ := F.ex
  refine gfn_of lk hcd S (fun vs H Q E h => ?_) fun A outer s H vs Q E pn hr h => ?_
  · obtain ⟨B, ds, R, _, h1, h2, _⟩ := h
    rw [dpAll_len h1]
    exact len ds R h2
  · obtain ⟨B, ds, R, sB, h1, h2, q⟩ := h
    refine ⟨tGws _ (defBody st), gss_w, ?_⟩
    have L := start_lay (N := N) (T := none) (ns := (0, [])) sB (fun _ z => by cases z) h1
    refine tGws.weak ((body cdv A outer s H E pn ⟨none, (0, []), B, H⟩ ds R hr h2).run _ _ _ [] L .nil) ⟨fun ys σ' H' ⟨B', ρ', o, s', L', Y, r⟩ => ?_, fun _ _ _ z => z.elim, fun _ _ _ ⟨_, _, _, _, _, _, z⟩ => z.elim, fun _ _ _ ⟨_, _, _, _, _, _, z⟩ => z.elim⟩
    exact q ys H' B' o L'.gr Y r
end
section
variable {X : Cx} {W : Wd} {ρ : List Sl} {pos : Pos} {e : Expr} {es : List Expr}
theorem el_listG {f : Addr} {fd : FuncData} {ps : List Str} {k : Nat} {x : Str} {p p2 pos' : Pos} {R : List PyData → Prop} {P : List PyData → (List PyData → Prop) → Prop} (F : GFn X.prog X.w X.K X.mg X.base k f fd ps (ConG X.K P)) (hr : Room (k + 3) X.A) (hm : X.mg x = some (.ref f))
    (hk : PySem.W.keepIn X.K (.ref f) = true) (hb : Binds X.K fd ps []) (hl : X.mg "list" = none) (h : Ea X W (e :: es) ρ fun ds => P ds R) (hg : Gl X x := by rfl) (hgl : Gl X "list" := by rfl)
    (hs : starEach (e :: es) X.env = (false, eval e X.env) :: starEach es X.env := by rfl) (hpl : (backTo pos' (starEach es X.env)).any (·.1) = false := by rfl) (hdb : (x == ("__debug__" : Str)) = false := by decide)
    (hs2 : starEach [Expr.Call (.Name x p) (e :: es) [] pos'] X.env = (false, eval (Expr.Call (.Name x p) (e :: es) [] pos') X.env) :: starEach [] X.env := by rfl) : El X W (.Call (.Name "list" p2) [.Call (.Name x p) (e :: es) [] pos'] [] pos) ρ R := by
  refine ⟨fun σ H B Q L k' => PE.toZ (t := tListG (tCallG (ConG X.K P) [] E0 (tWa X (e :: es)))) (pe_listG (E := E0) (pgen_call F (hr.mono (by omega)) hg hm hk hb .nil pa_w hdb hs hpl) (fun _ _ _ _ _ _ _ z => ?_) (fun _ _ _ z => z.elim) hr hgl hl boot_list (by decide) (by decide) hs2) ?_⟩
  · obtain ⟨a, B, H', cls, d, _, _, _, _, _, _, _, z⟩ := z
    exact z.elim
  · refine h.run σ H B _ L fun vs H1 B1 ds s1 L1 D1 h2 => ?_
    rw [List.append_nil]
    refine ⟨B1, ds, R, L1.gr.sub, D1, h2, fun out H' B' xs g Y r q hq => ?_⟩
    obtain ⟨s, L'⟩ := L1.called (.inl rfl) g
    obtain ⟨L3, q1, q2, q3, q4⟩ := fresh_own L' hq xs out Y
    exact k' q out _ B' xs (s1.trans s) L3 q1 q2 q3 q4 Y r
end
/-! ### a number in a tuple of numbers -/
section
variable {X : Cx} {W : Wd} {ρ : List Sl}
theorem inV_ints {n : Int} {ns : List Int} : inV (.int n) (ns.map V.int) = decide (n ∈ ns) := by
  unfold inV
  induction ns with
  | nil => rfl
  | cons a as ih =>
    rw [List.map_cons, List.any_cons, ih]
    have e : eqV (.int a) (.int n) = decide (a = n) := by
      simp only [eqV]
      rfl
    rw [e]
    by_cases h : a = n
    · subst h
      simp
    · have h2 : ¬ n = a := fun z => h z.symm
      simp [h, h2]
theorem flat_ints {ns : List Int} : (ns.map V.int).all flatV = true := by
  rw [List.all_map, List.all_eq_true]
  intro a _
  rfl
/-- a number in a tuple of numbers -/
theorem oz_inTI : OpZ X (compareOp .In) (fun d e R => ∃ (n : Int) (ns : List Int), d = .int n ∧ e = .tuple (ns.map PyData.int) ∧ R (.bool (decide (n ∈ ns)))) := by
  refine ⟨_, op_in_seq, fun W σ ρ H B v u d e R Q L D1 D2 r k => ?_⟩
  obtain ⟨n, ns, rfl, rfl, r⟩ := r
  cases dp_int D1
  obtain ⟨q, vs, rfl, h1, h2⟩ := dp_tup D2
  cases dq_ints h2
  refine ⟨q, _, rfl, .inr (seqT L.gr.sub h1), rfl, flat_ints, ?_⟩
  rw [if_neg (by decide), inV_ints]
  exact k _ H B _ (Same.refl _) L (.bl _) r
theorem oz_notInTI : OpZ X (compareOp .NotIn) (fun d e R => ∃ (n : Int) (ns : List Int), d = .int n ∧ e = .tuple (ns.map PyData.int) ∧ R (.bool (!decide (n ∈ ns)))) := by
  refine ⟨_, op_notIn_seq, fun W σ ρ H B v u d e R Q L D1 D2 r k => ?_⟩
  obtain ⟨n, ns, rfl, rfl, r⟩ := r
  cases dp_int D1
  obtain ⟨q, vs, rfl, h1, h2⟩ := dp_tup D2
  cases dq_ints h2
  refine ⟨q, _, rfl, .inr (seqT L.gr.sub h1), rfl, flat_ints, ?_⟩
  rw [if_pos rfl, inV_ints]
  exact k _ H B _ (Same.refl _) L (.bl _) r
end
end Z

/-! dicts whose keys are tuples of numbers, at any depth -/
namespace Z
open PySem PySem.Spec PyProof.Rows L2
/-! ### keys -/
mutual
theorem hash_hN (w : World) : ∀ k : NestedKey, intK k = true → k.hash w = hN k
  | .none, h => by cases h
  | .num i, _ => rfl
  | .text _, h => by cases h
  | .tup ks, h => by
    show reduceHash (Builtin.Tuple.tupleHashOf (NestedKey.hashes w ks)) = _
    rw [hash_hNs w ks h]
    rfl
theorem hash_hNs (w : World) : ∀ ks : List NestedKey, intKs ks = true → NestedKey.hashes w ks = hNs ks
  | [], _ => rfl
  | k :: ks, h => by
    rw [intKs, Bool.and_eq_true] at h
    show NestedKey.hash w k :: NestedKey.hashes w ks = _
    rw [hash_hN w k h.1, hash_hNs w ks h.2]
    rfl
end
section
variable {X : Cx} {pins : List (Addr × Obj)} {σ : L2.St} {H : Hp} {s : Shared}
mutual
theorem nested_is (I : Inv X pins σ H s) : ∀ (k : NestedKey) (v : V) (u : Value), intK k = true → Dq X.K H v k.data → RelV v u → NestedIs s.heap k u
  | .none, _, _, h, _, _ => by cases h
  | .num i, v, u, _, d, r => by
    cases dp_int (show Dq X.K H v (.int i) from d)
    obtain ⟨t, rfl⟩ := r
    exact .int i t
  | .text _, _, _, h, _, _ => by cases h
  | .tup ks, v, u, h, d, r => by
    obtain ⟨a, vs, rfl, h1, h2⟩ := dp_tup (show Dq X.K H v (.tuple (NestedKey.datas ks)) from d)
    obtain rfl : u = Value.ref a := r
    obtain ⟨its, rv, ⟨o, e, c, n, dd⟩, _⟩ := I.tuple h1
    exact .tup e c dd (by simpa using nested_all I ks vs its h h2 rv)
theorem nested_all (I : Inv X pins σ H s) : ∀ (ks : List NestedKey) (vs : List V) (us : List Value), intKs ks = true → DqAll X.K H vs (NestedKey.datas ks) → Vals vs us → NestedAll s.heap ks us
  | [], vs, us, _, d, r => by
    cases (show DqAll X.K H vs [] from d)
    cases r
    exact .nil
  | k :: ks, vs, us, h, d, r => by
    rw [intKs, Bool.and_eq_true] at h
    cases (show DqAll X.K H vs (k.data :: NestedKey.datas ks) from d) with
    | cons d1 d2 =>
      cases r with
      | cons r1 r2 => exact .cons (nested_is I k _ _ h.1 d1 r1) (nested_all I ks _ _ h.2 d2 r2)
end
end
/-! ### what a dict holds -/
def gN (kvs : List (NestedKey × PyData)) (k : NestedKey) : Option PyData := (kvs.find? fun q => decide (q.1 = k)).map (·.2)
def pN (kvs : List (NestedKey × PyData)) (k : NestedKey) (d : PyData) : List (NestedKey × PyData) := if (gN kvs k).isSome = true then kvs.map fun q => if q.1 = k then (q.1, d) else q else kvs ++ [(k, d)]
theorem gN_nil {k : NestedKey} : gN [] k = none := rfl
theorem gN_pos {p : NestedKey × PyData} {r : List (NestedKey × PyData)} {k : NestedKey} (e : p.1 = k) : gN (p :: r) k = some p.2 := by simp [gN, List.find?_cons, e]
theorem gN_neg {p : NestedKey × PyData} {r : List (NestedKey × PyData)} {k : NestedKey} (e : ¬ p.1 = k) : gN (p :: r) k = gN r k := by simp [gN, List.find?_cons, e]
theorem gN_map (k j : NestedKey) (y : PyData) : ∀ kvs : List (NestedKey × PyData), gN (kvs.map fun q => if q.1 = k then (q.1, y) else q) j = (gN kvs j).map fun x => if j = k then y else x
  | [] => rfl
  | p :: r => by
    rw [List.map_cons]
    by_cases e : p.1 = k
    · rw [if_pos e]
      by_cases q : p.1 = j
      · rw [gN_pos (p := (p.1, y)) q, gN_pos q, Option.map_some, if_pos (q.symm.trans e)]
      · rw [gN_neg (p := (p.1, y)) q, gN_neg q, gN_map]
    · rw [if_neg e]
      by_cases q : p.1 = j
      · rw [gN_pos q, gN_pos q, Option.map_some, if_neg (fun z => e (q.trans z))]
      · rw [gN_neg q, gN_neg q, gN_map]
theorem gN_snoc (k j : NestedKey) (y : PyData) : ∀ kvs : List (NestedKey × PyData), gN kvs k = none → gN (kvs ++ [(k, y)]) j = if j = k then some y else gN kvs j
  | [], _ => by
    by_cases e : j = k
    · rw [if_pos e]
      exact gN_pos e.symm
    · rw [if_neg e]
      exact gN_neg fun z => e z.symm
  | p :: r, h => by
    by_cases e : p.1 = k
    · rw [gN_pos e] at h
      cases h
    · rw [gN_neg e] at h
      rw [List.cons_append]
      by_cases q : p.1 = j
      · rw [gN_pos q, gN_pos q, if_neg (fun z => e (q.trans z))]
      · rw [gN_neg q, gN_neg q, gN_snoc k j y r h]
theorem gN_put (kvs : List (NestedKey × PyData)) (k j : NestedKey) (y : PyData) : gN (pN kvs k y) j = if j = k then some y else gN kvs j := by
  unfold pN
  by_cases a : (gN kvs k).isSome = true
  · rw [if_pos a, gN_map]
    by_cases e : j = k
    · obtain ⟨x, hx⟩ := Option.isSome_iff_exists.mp a
      rw [if_pos e, e, hx, Option.map_some, if_pos rfl]
    · rw [if_neg e]
      cases gN kvs j with
      | none => rfl
      | some x => rw [Option.map_some, if_neg e]
  · rw [if_neg a]
    refine gN_snoc k j y kvs ?_
    cases q : gN kvs k with
    | none => rfl
    | some x => rw [q] at a; exact (a rfl).elim
theorem pN_len (kvs : List (NestedKey × PyData)) (k : NestedKey) (v : PyData) : (pN kvs k v).length ≤ kvs.length + 1 := by
  unfold pN
  split
  · rw [List.length_map]; omega
  · rw [List.length_append, List.length_cons, List.length_nil]; omega
theorem pN_new {kvs : List (NestedKey × PyData)} {k : NestedKey} (v : PyData) (h : gN kvs k = none) : pN kvs k v = kvs ++ [(k, v)] := by
  unfold pN
  rw [h, if_neg (by simp)]
section
variable {K : PySem.W.Frag} {B : Hp} {xs : List (NestedKey × Addr × Value)} {kvs : List (NestedKey × PyData)}
theorem dct_val (h : DctE K B xs kvs) (k : NestedKey) : (atKey xs k = none ∧ gN kvs k = none) ∨ ∃ p v d, atKey xs k = some p ∧ gN kvs k = some d ∧ RelV v p.2 ∧ Dq K B v d := by
  unfold DctE at h
  induction h with
  | nil => exact .inl ⟨rfl, rfl⟩
  | @cons p q ps qs h t ih =>
    obtain ⟨h1, _, _, v, r, h2⟩ := h
    by_cases e : p.1 = k
    · refine .inr ⟨p.2, v, q.2, ?_, gN_pos (h1.symm.trans e), r, h2⟩
      simp [atKey, List.find?_cons, e]
    · rw [gN_neg (fun z => e (h1.trans z)), show atKey (p :: ps) k = atKey ps k by simp [atKey, List.find?_cons, e]]
      exact ih
theorem dct_some (h : DctE K B xs kvs) (k : NestedKey) : (atKey xs k).isSome = (gN kvs k).isSome := by
  rcases dct_val h k with ⟨e1, e2⟩ | ⟨p, v, d, e1, e2, _⟩ <;> rw [e1, e2] <;> rfl
theorem dct_len (h : DctE K B xs kvs) : xs.length = kvs.length := Paired.length h
theorem dct_put (h : DctE K B xs kvs) {k : NestedKey} {b : Addr} {v : V} {u : Value} {d : PyData} (hk : intK k = true ∧ k.depth ≤ 8) (hb : Dq K B (.ref b) k.data) (r : RelV v u) (hd : Dq K B v d) : DctE K B (storedH xs k b u) (pN kvs k d) := by
  have hs := dct_some h k
  unfold storedH pN
  rw [hs]
  by_cases q : (gN kvs k).isSome = true
  · rw [if_pos q, if_pos q]
    unfold DctE at h ⊢
    clear q hs
    induction h with
    | nil => exact .nil
    | @cons p q ps qs h t ih =>
      rw [List.map_cons, List.map_cons]
      refine .cons ?_ ih
      obtain ⟨h1, h2, h3, h4⟩ := h
      unfold putAt
      by_cases e : p.1 = k
      · rw [if_pos e, if_pos (h1.symm.trans e)]; exact ⟨h1, h2, h3, v, r, hd⟩
      · rw [if_neg e, if_neg (fun z => e (h1.trans z))]; exact ⟨h1, h2, h3, h4⟩
  · rw [if_neg q, if_neg q]
    exact Paired.snoc h ⟨rfl, hk, hb, v, r, hd⟩
end
section
variable {X : Cx} {pins : List (Addr × Obj)} {σ : L2.St} {H : Hp} {s : Shared} {a : Addr} {xs : List (NestedKey × Addr × Value)} {kvs : List (NestedKey × PyData)}
theorem ent_eq {K : PySem.W.Frag} {B : Hp} {P : Program} {w : World} : ∀ {xs : List (NestedKey × Addr × Value)} {kvs : List (NestedKey × PyData)}, DctE K B xs kvs → xs.map entN = xs.map (entryOfKey (nestedKind P w))
  | _, _, .nil => rfl
  | _, _, .cons (a := x) (b := q) h t => by
    rw [List.map_cons, List.map_cons, ent_eq (P := P) (w := w) t]
    congr 1
    show (⟨hN x.1, .ref x.2.1, x.2.2⟩ : DictEntry) = ⟨x.1.hash w, .ref x.2.1, x.2.2⟩
    rw [hash_hN w x.1 (by rw [h.1]; exact h.2.1.1)]
theorem dct_is (I : Inv X pins σ H s) (h : DctE X.K H xs kvs) : ∀ x ∈ xs, (nestedKind X.prog X.w).is s.heap x.1 x.2.1 := by
  unfold DctE at h
  induction h with
  | nil => exact fun x hx => nomatch hx
  | @cons p q ps qs h t ih =>
    intro x hx
    rcases List.mem_cons.mp hx with e | hx
    · subst e
      obtain ⟨h1, h2, h3, _⟩ := h
      refine ⟨nested_is I x.1 (.ref x.2.1) _ (by rw [h1]; exact h2.1) (by rw [h1]; exact h3) rfl, by rw [h1]; exact h2.2⟩
    · exact ih x hx
theorem dct_of {o : Obj} (I : Inv X pins σ H s) (e : H a = some (dNO a o)) (h : DctV X.K H a o xs kvs) : s.heap.DictOfH (nestedKind X.prog X.w) a xs := by
  obtain ⟨h1, _⟩ := (show ObjOk X.prog X.w H s.heap a (dNO a o) from I.hok a _ e)
  obtain ⟨es, ep, h3, h4⟩ := h.dat
  exact ⟨o, es, ep, h1, h.ex, h3, h4.trans (ent_eq h.rel), dct_is I h.rel, h.nd⟩
/-- such an object stands -/
theorem dct_ok {P : Program} {w : World} {H : Hp} {h : Heap} {a : Addr} {o : Obj} (x : h.get? a = some o) : ObjOk P w H h a (dNO a o) := ⟨x, ⟨o, x⟩, fun _ _ e k => k o e⟩
theorem dct_key (I : Inv X pins σ H s) {k : NestedKey} {b : Addr} (hk : intK k = true ∧ k.depth ≤ 8) (d : Dq X.K H (.ref b) k.data) : (nestedKind X.prog X.w).is s.heap k b := ⟨nested_is I k (.ref b) _ hk.1 d rfl, hk.2⟩
theorem key_ref {K : PySem.W.Frag} {B : Hp} {k : NestedKey} {v : V} (hk : intK k = true) (ht : ∃ ks, k = .tup ks) (d : Dq K B v k.data) : ∃ b, v = .ref b := by
  obtain ⟨ks, rfl⟩ := ht
  obtain ⟨b, vs, rfl, _⟩ := dp_tup (show Dq K B v (.tuple (NestedKey.datas ks)) from d)
  exact ⟨b, rfl⟩
/-- a key, as the code has it -/
def KeyD (d : PyData) (k : NestedKey) : Prop := d = k.data ∧ (∃ ks, k = .tup ks) ∧ intK k = true ∧ k.depth ≤ 8
/-! ### the rules below -/
/-- what the dict at a holds at y -/
structure NGet (K : PySem.W.Frag) (H : Hp) (a : Addr) (o : Obj) (y : V) (xs : List (NestedKey × Addr × Value)) (kvs : List (NestedKey × PyData)) (k : NestedKey) (b : Addr) : Prop where
  at_ : H a = some (dNO a o)
  dv : DctV K H a o xs kvs
  ref : y = .ref b
  key : intK k = true ∧ k.depth ≤ 8
  dk : Dq K H (.ref b) k.data
variable {o : Obj} {b : Addr}
theorem NGet.typeIs (I : Inv X pins σ H s) {y : V} {k : NestedKey} (g : NGet X.K H a o y xs kvs k b) : s.TypeIs (.ref a) "dict" := (dct_of I g.at_ g.dv).typeIs
theorem n_getItem {A : Around} {E : Value → Shared → Prop} {y : V} {u : Value} {k : NestedKey} {p : Addr × Value} {Q : Value → Shared → Prop} (hu : A.units + 9 < cLine) (I : Inv X pins σ H s) (g : NGet X.K H a o y xs kvs k b) (hp : atKey xs k = some p) (ry : RelV y u) (h : ∀ s', Inv X pins σ H s' → Q p.2 s') :
    wpAny (model X.prog X.w) A (getItem (.ref a) u) Q E s := by
  cases g.ref
  obtain rfl : u = Value.ref b := ry
  exact wpAny_getItem_heap (knd := nestedKind X.prog X.w) (show A.units + 1 + 8 < cLine by omega) (dct_key I g.key g.dk) (dct_of I g.at_ g.dv) hp (h _ (I.tok _))
theorem n_in {A : Around} {E : Value → Shared → Prop} {y : V} {u : Value} {k : NestedKey} {Q : Value → Shared → Prop} (hu : A.units + 9 < cLine) (I : Inv X pins σ H s) (g : NGet X.K H a o y xs kvs k b) (ry : RelV y u) (h : ∀ s', Inv X pins σ H s' → Q (.bool (gN kvs k).isSome) s') :
    wpAny (model X.prog X.w) A (compareOp .In u (.ref a)) Q E s := by
  cases g.ref
  obtain rfl : u = Value.ref b := ry
  refine wpAny_in_heap (knd := nestedKind X.prog X.w) (show A.units + 1 + 8 < cLine by omega) (dct_key I g.key g.dk) g.dv.na (dct_of I g.at_ g.dv) ?_
  rw [dct_some g.dv.rel]
  exact h _ (I.tok _)
theorem n_notIn {A : Around} {E : Value → Shared → Prop} {y : V} {u : Value} {k : NestedKey} {Q : Value → Shared → Prop} (hu : A.units + 9 < cLine) (I : Inv X pins σ H s) (g : NGet X.K H a o y xs kvs k b) (ry : RelV y u) (h : ∀ s', Inv X pins σ H s' → Q (.bool (!(gN kvs k).isSome)) s') :
    wpAny (model X.prog X.w) A (compareOp .NotIn u (.ref a)) Q E s := by
  cases g.ref
  obtain rfl : u = Value.ref b := ry
  refine wpAny_notIn_heap (knd := nestedKind X.prog X.w) (show A.units + 1 + 8 < cLine by omega) (dct_key I g.key g.dk) g.dv.na (dct_of I g.at_ g.dv) ?_
  rw [dct_some g.dv.rel]
  exact h _ (I.tok _)
/-- a dict's object with such entries -/
structure ObjN (o : Obj) (xs : List (NestedKey × Addr × Value)) : Prop where
  ex : o.ExactDict
  dat : ∃ es ep, o.data = .dict es ep ∧ es.toList = xs.map entN
  nd : (xs.map (·.1)).Nodup
/-- behind a store: the new object -/
theorem n_stored (I : Inv X pins σ H s) {y v : V} {r : Value} {d : PyData} {k : NestedKey} (g : NGet X.K H a o y xs kvs k b) (rv : RelV v r) {h' : Heap} {t' : Nat} (dd : h'.DictOfH (nestedKind X.prog X.w) a (storedH xs k b r)) (hs : Heap.SameBut a s.heap h')
    (hd : Dq X.K H v d) : ∃ o', Inv X pins σ (upd H a (dNO a o')) { s with heap := h', toks := t' } ∧ ObjN o' (storedH xs k b r) := by
  have hr := dct_put g.dv.rel g.key g.dk rv hd
  obtain ⟨q, es, ep, hq, h2, h3, h4, _, h5⟩ := dd
  exact ⟨q, d_write I (by rw [g.at_]; exact True.intro) hs ⟨q, hq⟩ (dct_ok hq), h2, ⟨es, ep, h3, h4.trans (ent_eq hr).symm⟩, h5⟩
theorem n_setItem {A : Around} {E : Value → Shared → Prop} {y v : V} {u r : Value} {d : PyData} {k : NestedKey} {Q : Unit → Shared → Prop} (hu : A.units + 9 < cLine) (I : Inv X pins σ H s) (g : NGet X.K H a o y xs kvs k b) (hl : kvs.length < sizeLine) (ry : RelV y u) (rv : RelV v r) (hd : Dq X.K H v d)
    (h : ∀ s' o', Inv X pins σ (upd H a (dNO a o')) s' → ObjN o' (storedH xs k b r) → Q () s') : wpAny (model X.prog X.w) A (setItem (.ref a) u r) Q E s := by
  obtain ⟨g1, g2, g3, g4, g5⟩ := id g
  subst g3
  obtain rfl : u = Value.ref b := ry
  refine wpAny_setItem_heap (knd := nestedKind X.prog X.w) (hsz := by rw [dct_len g2.rel]; omega) (show A.units + 1 + 8 < cLine by omega) (dct_key I g4 g5) (dct_of I g1 g2) fun h' dd' hs => ?_
  obtain ⟨o', I', dv'⟩ := n_stored I g rv dd' hs hd
  exact h _ _ I' dv'
theorem n_dictSet {E : Value → Shared → Prop} {y v : V} {u r : Value} {d : PyData} {k : NestedKey} {Q : Unit → Shared → Prop} (hu : X.A.units + 8 < cLine) (I : Inv X pins σ H s) (g : NGet X.K H a o y xs kvs k b) (hl : kvs.length < sizeLine) (ry : RelV y u) (rv : RelV v r) (hd : Dq X.K H v d)
    (h : ∀ s' o', Inv X pins σ (upd H a (dNO a o')) s' → ObjN o' (storedH xs k b r) → Q () s') : wpAny (model X.prog X.w) X.A (dictSet a u r) Q E s := by
  obtain ⟨g1, g2, g3, g4, g5⟩ := id g
  subst g3
  obtain rfl : u = Value.ref b := ry
  refine wpAny_dictSet_heap (knd := nestedKind X.prog X.w) (hsz := by rw [dct_len g2.rel]; omega) hu (dct_key I g4 g5) (dct_of I g1 g2) fun h' dd' hs => ?_
  obtain ⟨o', I', dv'⟩ := n_stored I g rv dd' hs hd
  exact h _ _ I' dv'
/-- the entries told over the plain heap -/
theorem ObjN.put {K : PySem.W.Frag} {B : Hp} {o' : Obj} {k : NestedKey} {v : V} {r : Value} {d : PyData} (n : ObjN o' (storedH xs k b r)) (dv : DctV K B a o xs kvs) (hk : intK k = true ∧ k.depth ≤ 8) (hb : Dq K B (.ref b) k.data) (rv : RelV v r) (hd : Dq K B v d) : DctV K B a o' (storedH xs k b r) (pN kvs k d) :=
  ⟨n.ex, n.dat, dct_put dv.rel hk hb rv hd, n.nd, dv.na⟩
end
/-! ### the parts of a walk -/
section
variable {X : Cx} {o i e value : Expr} {pos pos' tpos : Pos} {td ty tv : TE}
def tNGet (X : Cx) (td ty : TE) : TE := fun σ H Q => td σ H fun x H1 => ty σ H1 fun y H2 => ∃ a o xs kvs k b, x = .ref a ∧ NGet X.K H2 a o y xs kvs k b ∧ ∃ p v, atKey xs k = some p ∧ RelV v p.2 ∧ Q v H2
def tNIn (X : Cx) (f : Bool → Bool) (ty td : TE) : TE := fun σ H Q => ty σ H fun y H1 => td σ H1 fun x H2 => ∃ a o xs kvs k b, x = .ref a ∧ NGet X.K H2 a o y xs kvs k b ∧ Q (.bl (f (gN kvs k).isSome)) H2
/-- d[y] = v: at y stands d -/
def sNPut (X : Cx) (td ty tv : TE) : TS := fun D σ H => tv σ H fun v H1 => td σ H1 fun x H2 => ty σ H2 fun y H3 => ∃ a o xs kvs k b d, x = .ref a ∧ NGet X.K H3 a o y xs kvs k b ∧ kvs.length < sizeLine ∧ Dq X.K H3 v d ∧
  ∀ o' r, RelV v r → ObjN o' (storedH xs k b r) → D.nx σ (upd H3 a (dNO a o'))
theorem pe_nget (hu : X.A.units + 9 < cLine) (ho : PE X o td) (hi : PE X i ty) (hs : NoSl i) : PE X (.Subscript o i pos) (tNGet X td ty) := by
  refine ⟨fun pins s σ H Q I h => ?_⟩
  refine subD_of PySem.F.slot_dict_getitem.lookup hs (thn (ho.run pins s σ H _ I h) fun u s1 ⟨x, H1, I1, rx, q1⟩ => thn (hi.run pins s1 σ H1 _ I1 q1) fun iv s2 ⟨y, H2, I2, ry, a, o, xs, kvs, k, b, ex, g, p, v, hp, rp, q2⟩ => ?_)
  subst ex
  obtain rfl : u = Value.ref a := rx
  exact ⟨g.typeIs I2, n_getItem hu I2 g hp ry fun s3 I3 => ⟨v, H2, I3, rp, q2⟩⟩
theorem pc_nin (hu : X.A.units + 9 < cLine) (hi : PE X i ty) (ho : PE X o td) : PC X .In i o (tNIn X id ty td) := by
  refine ⟨fun pins s σ H Q I h => ?_⟩
  refine thn (hi.run pins s σ H _ I h) fun iv s1 ⟨y, H1, I1, ry, q1⟩ => thn (ho.run pins s1 σ H1 _ I1 q1) fun u s2 ⟨x, H2, I2, rx, a, o, xs, kvs, k, b, ex, g, q2⟩ => ?_
  subst ex
  obtain rfl : u = Value.ref a := rx
  exact n_in hu I2 g ry fun s3 I3 => ⟨.bl (gN kvs k).isSome, H2, I3, rfl, q2⟩
theorem pc_nnotin (hu : X.A.units + 9 < cLine) (hi : PE X i ty) (ho : PE X o td) : PC X .NotIn i o (tNIn X (!·) ty td) := by
  refine ⟨fun pins s σ H Q I h => ?_⟩
  refine thn (hi.run pins s σ H _ I h) fun iv s1 ⟨y, H1, I1, ry, q1⟩ => thn (ho.run pins s1 σ H1 _ I1 q1) fun u s2 ⟨x, H2, I2, rx, a, o, xs, kvs, k, b, ex, g, q2⟩ => ?_
  subst ex
  obtain rfl : u = Value.ref a := rx
  exact n_notIn hu I2 g ry fun s3 I3 => ⟨.bl (!(gN kvs k).isSome), H2, I3, rfl, q2⟩
theorem ps_nput (hu : X.A.units + 9 < cLine) (ho : PE X o td) (hi : PE X i ty) (hv : PE X value tv) (hs : swapsWith value (some (.Subscript o i pos')) pos.line X.env = pure false) :
    PS X (.Assign [.Subscript o i pos'] value pos) (sNPut X td ty tv) := by
  refine ⟨fun pins s σ H D I h => ?_⟩
  refine wpAny_Assign_Subscript (thn (hv.run pins s σ H _ I h) fun r s1 ⟨v, H1, I1, rv, q1⟩ => thn (ho.run pins s1 σ H1 _ I1 q1) fun u s2 ⟨x, H2, I2, rx, q2⟩ => thn (hi.run pins s2 σ H2 _ I2 q2) fun iv s3 ⟨y, H3, I3, ry, a, o, xs, kvs, k, b, d, ex, g, hl, hd, q3⟩ => ?_) hs
  subst ex
  obtain rfl : u = Value.ref a := rx
  exact n_setItem hu I3 g hl ry rv hd fun s4 o' I4 dv => ⟨σ, _, I4, q3 o' _ rv dv⟩
/-- {} -/
theorem dct_nil {K : PySem.W.Frag} {B : Hp} {a : Addr} {o : Obj} (hx : o.ExactDict) (hd : ∃ ep, o.data = .dict #[] ep) (na : (a == sysModules) = false) : DctV K B a o [] [] := by
  obtain ⟨ep, hd⟩ := hd
  exact ⟨hx, ⟨#[], ep, hd, rfl⟩, .nil, List.nodup_nil, na⟩
def tNNew (X : Cx) : TE := fun _ H Q => ∀ p o, H p = none → (∀ B, DctV X.K B p o [] []) → Q (.ref p) (upd H p (dNO p o))
theorem pe_nnew : PE X (.Dict [] [] pos) (tNNew X) := ⟨fun pins s σ H Q I h =>
  wpAny_Dict_empty ⟨.ref s.heap.objs.size, _, I.laid (a := s.heap.objs.size) (o := dNO s.heap.objs.size { cls := .type "dict", data := .dict #[] }) (t' := s.toks) (fun _ _ q => Heap.get?_push_of_some _ q) (Nat.le_refl _) (dct_ok (Heap.get?_push_size _ rfl)), rfl, h _ _ (I.hok.fresh (Nat.le_refl _)) fun B => dct_nil ⟨rfl, rfl, rfl⟩ ⟨_, rfl⟩ (beq_eq_false_iff_ne.mpr (Ne.symm (Nat.ne_of_lt I.big)))⟩⟩
end
/-! ### d.items() -/
def ItN (d : Addr) (o : Obj) (ps : List (Addr × V)) : It :=
  ⟨fun i H => H d = some (dNO d o) ∧ i < ps.length,
    fun i H x H' => ∃ T b y, x = .ref T ∧ ps[i]? = some (b, y) ∧ H T = none ∧ H' = upd H T (.tup [.ref b, y]),
    fun i H => H d = some (dNO d o) ∧ ps.length ≤ i⟩
/-- the entries of the object, as values -/
structure ItemsOf (d : Addr) (o : Obj) (es : Array DictEntry) (ep : Nat) (ps : List (Addr × V)) : Prop where
  ex : o.ExactDict
  dat : o.data = .dict es ep
  rel : Paired (fun (e : DictEntry) (p : Addr × V) => e.key = .ref p.1 ∧ RelV p.2 e.val) es.toList ps
  na : (d == sysModules) = false
theorem turn_itemsN {P : Program} {w : World} {K : PySem.W.Frag} {elts : List Expr} {kk : Nat} {tpos : Pos} {d : Addr} {o : Obj} {es : Array DictEntry} {ep : Nat} {ps : List (Addr × V)} (it : Addr) (q : ItemsOf d o es ep ps) :
    Turn P w K (.Tuple elts kk tpos) (ItN d o ps) [it] it (fun i h => ∃ ok ov, IsItemIter h it d i es.size ep ok ov) where
  mem := by simp
  obj := fun i h st b hb => by
    have e : b = it := by simpa using hb
    subst e
    obtain ⟨ok, ov, e⟩ := st
    exact ⟨_, e, fun v z => nomatch z⟩
  keep := fun i h h' st k => let ⟨ok, ov, e⟩ := st; ⟨ok, ov, k it (by simp) _ e⟩
  item := by
    intro X hP hw hK hc i pins s σ H E I hf st hg
    subst hP hw hK
    obtain ⟨hd, hi⟩ := hg
    obtain ⟨hob, _⟩ := (show ObjOk X.prog X.w H s.heap d (dNO d o) from I.hok d _ hd)
    have hl : es.size = ps.length := by rw [← Paired.length q.rel]; exact Array.length_toList.symm
    have hie : i < es.size := by omega
    obtain ⟨⟨b, y⟩, hb⟩ : ∃ p, ps[i]? = some p := ⟨ps[i], List.getElem?_eq_getElem hi⟩
    obtain ⟨p', hp', rk, rv⟩ := paired_get q.rel (i := i) (a := es[i]) (by rw [Array.getElem?_toList]; exact Array.getElem?_eq_getElem hie)
    rw [hb] at hp'
    cases hp'
    obtain ⟨ok, ov, he⟩ := st
    have hlt : it < s.heap.objs.size := Heap.lt_size he
    refine DT.nextI he ⟨o, hob, q.ex, q.dat⟩ hie fun h' ho hT hz hk => ?_
    refine ⟨_, rfl, wpAny_letOwnedTupleGo_items (s := { s with heap := h' }) ho fun h'' he' sb => ?_⟩
    have hT2 : h''.get? s.heap.objs.size = some { cls := .type "tuple", data := .seq #[es[i].key, es[i].val] } := (sb.2 _ (Nat.ne_of_gt hlt)).trans hT
    have new : ObjOk X.prog X.w (upd H s.heap.objs.size (.tup [.ref b, y])) h'' s.heap.objs.size (.tup [.ref b, y]) :=
      ⟨by show 2 ≤ sizeLine; decide, [es[i].key, es[i].val], .cons rk (.cons rv .nil), ⟨_, hT2, rfl, _, rfl⟩⟩
    have I1 : Inv X pins σ (upd H s.heap.objs.size (.tup [.ref b, y])) { s with heap := h'' } :=
      I.turnedNew (t' := s.toks) (ch := [it]) (fun b ob hb e => (sb.2 b (by simpa using hb)).trans (hk b ob (by simpa using hb) e)) hf (Nat.le_refl _) new
    refine ⟨.ref s.heap.objs.size, _, I1, rfl, ⟨_, b, y, rfl, hb, I.hok.fresh (Nat.le_refl _), rfl⟩, ⟨_, _, he'⟩, fun b hb => ?_⟩
    have e : b = it := by simpa using hb
    rw [e, upd_ne (Nat.ne_of_lt hlt)]
    exact (hf it (by simp)).1
  done := by
    intro X hP hw hK hc i pins s σ H E I hf st hg
    subst hP hw hK
    obtain ⟨hd, hi⟩ := hg
    obtain ⟨hob, _⟩ := (show ObjOk X.prog X.w H s.heap d (dNO d o) from I.hok d _ hd)
    obtain ⟨f0, f1, f2, f3, f4, f5⟩ := hf it (by simp)
    have hl : es.size = ps.length := by rw [← Paired.length q.rel]; exact Array.length_toList.symm
    obtain ⟨ok, ov, he⟩ := st
    exact DT.endI (I.ok.hd hc) he ⟨o, hob, q.ex, q.dat⟩ (by omega) fun h' eb => ⟨rfl, I.turned (t' := s.toks) (fun b ob hb e => eb b ob hb e) f0 f1 f3 f4 f5⟩
  self := fun A i s Q E st h => let ⟨_, _, e⟩ := st; PySem.W.kcp_self e h
def iItemsN (td : TE) : TI := fun σ H R => td σ H fun x H1 => ∃ d o es ep ps, x = .ref d ∧ H1 d = some (dNO d o) ∧ ItemsOf d o es ep ps ∧ R (ItN d o ps) H1
theorem pi_itemsN {X : Cx} {e : Expr} {td : TE} {apos cpos tpos : Pos} {elts : List Expr} {kk : Nat} (he : PE X e td) (hbase : attributeBase e "items" X.env (eval e X.env) = eval e X.env := by rfl) (hline : (apos.endLine == cpos.line) = true := by rfl) :
    PI X (.Tuple elts kk tpos) (.Call (.Attribute e "items" apos) [] [] cpos) (iItemsN td) := by
  refine ⟨fun pins s σ H R I h => ?_⟩
  refine wpAny_Call_method (T := "dict") (id := "dict.items") hbase rfl hline F.plainAttrs_dict F.slot_dict_items F.type_dict_items (thn (he.run pins s σ H _ I h) fun u s1 ⟨x, H1, I1, rx, d, o, es, ep, ps, ex, hd, it, q⟩ => ?_)
  subst ex
  obtain rfl : u = Value.ref d := rx
  obtain ⟨hob, _⟩ := (show ObjOk X.prog X.w H1 s1.heap d (dNO d o) from I1.hok d _ hd)
  have raw : DT.Raw s1.heap d es ep := ⟨o, hob, it.ex, it.dat⟩
  refine ⟨raw.typeIs, fun b q => (by cases q; exact ⟨o, hob, it.ex.2.1⟩), ?_⟩
  have I2 : Inv X pins σ H1 { s1 with heap := s1.heap.push { cls := .type "dict_items", data := .fields #[.ref d] } } := I1.kept (t' := s1.toks) fun b ob q => Heap.get?_push_of_some _ q
  have fin : wpAny (model X.prog X.w) X.A (pyIter (.ref s1.heap.objs.size)) (PIE X pins σ (.Tuple elts kk tpos) R) X.xe { s1 with heap := s1.heap.push { cls := .type "dict_items", data := .fields #[.ref d] } } := by
    refine DT.iterI (s := { s1 with heap := s1.heap.push { cls := .type "dict_items", data := .fields #[.ref d] } }) (v := s1.heap.objs.size) (d := d) ⟨_, Heap.get?_push_size _ rfl, rfl, rfl⟩ (raw.push _) (pi_one (tk := s1.toks) I2 _ (turn_itemsN _ it) ⟨.none, .none, ?_⟩ q)
    exact Heap.get?_push_size _ rfl
  show wpAny _ _ (callWith cpos (.builtin "dict.items") [.ref d] [] []) _ X.xe s1
  exact method_meetsIn F.slot_dict_items F.entry_dict_items rfl (PySem.evalArgs_none ⟨rfl, raw.typeIs, F.args_dict_items_1 _, _, DT.meetsItems (es := es) (ep := ep) it.na, raw, fin⟩)
/-! ### slots -/
section
variable {X : Cx} {W : Wd} {ρ : List Sl} {B H : Hp} {σ : L2.St}
theorem Lay.ownN (L : Lay X.K W B H σ ρ) {i : Nat} {p : Addr} {o : Obj} {ws : List (NestedKey × Addr × Value)} {kvs : List (NestedKey × PyData)} (h1 : B p = none) (h2 : W.H0 p = none) (h3 : ∀ (j : Nat) (sl : Sl), ρ[j]? = some sl → sl.ow = true → σ[j]? ≠ some (some (.ref p))) (h4 : H p = some (dNO p o)) (h5 : DctV X.K B p o ws kvs) :
    Lay X.K W B H (σ.set i (some (.ref p))) (ρ.set i (.dct kvs)) := by
  refine ⟨L.gr, by simp [L.len], fun j sl e => ?_, fun j k s t hne e1 e2 o1 o2 => ?_⟩
  · by_cases hj : i = j
    · subst hj
      have hl : i < ρ.length := by
        have := (List.getElem?_eq_some_iff.mp e).1
        simpa using this
      rw [List.getElem?_set_self hl] at e
      cases e
      rw [List.getElem?_set_self (by rw [L.len]; exact hl)]
      exact ⟨p, o, ws, rfl, h1, h2, h4, h5⟩
    · rw [List.getElem?_set_ne hj] at e ⊢
      exact L.at' j sl e
  · by_cases hj : i = j
    · subst hj
      have hl : i < ρ.length := by
        have := (List.getElem?_eq_some_iff.mp e1).1
        simpa using this
      rw [List.getElem?_set_self (by rw [L.len]; exact hl)]
      rw [List.getElem?_set_ne hne] at e2 ⊢
      exact fun q => h3 k t e2 o2 q.symm
    · by_cases hk : i = k
      · subst hk
        have hl : i < ρ.length := by
          have := (List.getElem?_eq_some_iff.mp e2).1
          simpa using this
        rw [List.getElem?_set_self (by rw [L.len]; exact hl)]
        rw [List.getElem?_set_ne hj] at e1 ⊢
        exact h3 j s e1 o1
      · rw [List.getElem?_set_ne hj] at e1 ⊢
        rw [List.getElem?_set_ne hk] at e2 ⊢
        exact L.dis j k s t hne e1 e2 o1 o2
theorem Lay.chgN (L : Lay X.K W B H σ ρ) {i : Nat} {p : Addr} {o : Obj} {ws : List (NestedKey × Addr × Value)} {kvs kvs0 : List (NestedKey × PyData)} (hρ : ρ[i]? = some (.dct kvs0)) (hσ : σ[i]? = some (some (.ref p))) (h5 : DctV X.K B p o ws kvs) : Lay X.K W B (upd H p (dNO p o)) σ (ρ.set i (.dct kvs)) := by
  obtain ⟨p', o0, vs0, e1, e2, e3, e4, e5⟩ := L.at' i _ hρ
  rw [hσ] at e1
  cases e1
  have hl : i < ρ.length := (List.getElem?_eq_some_iff.mp hρ).1
  have hT : ∀ T, W.T = some T → T ≠ p := fun T h q => by
    subst q
    exact (L.gr.tp T h).1 e3
  refine ⟨⟨same_right L.gr.sub e2, L.gr.base, L.gr.new, fun a o h1 h2 => ?_, fun T h => ?_⟩, by simp [L.len], fun j sl e => ?_, fun j k s t hne f1 f2 o1 o2 => ?_⟩
  · have ha : a ≠ p := by
      rintro rfl
      rw [e3] at h1
      cases h1
    rw [upd_ne ha]
    exact L.gr.keep a o h1 h2
  · obtain ⟨t1, t2⟩ := L.gr.tp T h
    exact ⟨t1, t2.mono (Same.refl _) t2.1 fun o ho => by rw [upd_ne (hT T h)]; exact ho⟩
  · by_cases hj : i = j
    · subst hj
      rw [List.getElem?_set_self hl] at e
      cases e
      exact ⟨p, o, ws, hσ, e2, e3, upd_same, h5⟩
    · rw [List.getElem?_set_ne hj] at e
      refine (L.at' j sl e).grow (Same.refl _) fun a o g1 g2 g3 _ g5 => ⟨g3, ?_⟩
      have ha : a ≠ p := by
        rintro rfl
        exact L.dis i j _ sl hj hρ e rfl g2 (hσ.trans g1.symm)
      rw [upd_ne ha]
      exact g5
  · have q1 : ∃ s', ρ[j]? = some s' ∧ s'.ow = true := by
      by_cases hj : i = j
      · subst hj
        exact ⟨_, hρ, rfl⟩
      · rw [List.getElem?_set_ne hj] at f1
        exact ⟨s, f1, o1⟩
    have q2 : ∃ s', ρ[k]? = some s' ∧ s'.ow = true := by
      by_cases hj : i = k
      · subst hj
        exact ⟨_, hρ, rfl⟩
      · rw [List.getElem?_set_ne hj] at f2
        exact ⟨t, f2, o2⟩
    obtain ⟨s', g1, g2⟩ := q1
    obtain ⟨t', g3, g4⟩ := q2
    exact L.dis j k s' t' hne g1 g3 g2 g4
/-- a slot forgotten, its name keeps its value -/
theorem Lay.lose (L : Lay X.K W B H σ ρ) (j : Nat) : Lay X.K W B H σ (ρ.set j .no) := by
  refine ⟨L.gr, by simp [L.len], fun k sl e => ?_, fun k l s t hne e1 e2 o1 o2 => ?_⟩
  · by_cases hj : j = k
    · subst hj
      have hl : j < ρ.length := by
        have := (List.getElem?_eq_some_iff.mp e).1
        simpa using this
      rw [List.getElem?_set_self hl] at e
      cases e
      trivial
    · rw [List.getElem?_set_ne hj] at e
      exact L.at' k sl e
  · have nn : ∀ (k : Nat) (s : Sl), (ρ.set j .no)[k]? = some s → s.ow = true → ρ[k]? = some s := fun k s e o => by
      by_cases hj : j = k
      · subst hj
        have hl : j < ρ.length := by
          have := (List.getElem?_eq_some_iff.mp e).1
          simpa using this
        rw [List.getElem?_set_self hl] at e
        cases e
        cases o
      · rw [List.getElem?_set_ne hj] at e
        exact e
    exact L.dis k l s t hne (nn k s e1 o1) (nn l t e2 o2) o1 o2
/-- a dict of the frame's own goes to another name -/
theorem Lay.mvN (L : Lay X.K W B H σ ρ) {i j : Nat} {p : Addr} {kvs : List (NestedKey × PyData)} (hρ : ρ[j]? = some (.dct kvs)) (hσ : σ[j]? = some (some (.ref p))) : Lay X.K W B H (σ.set i (some (.ref p))) ((ρ.set j .no).set i (.dct kvs)) := by
  obtain ⟨p', o, ws, e1, e2, e3, e4, e5⟩ := L.at' j _ hρ
  rw [hσ] at e1
  cases e1
  refine (L.lose j).ownN e2 e3 (fun k sl f1 f2 q => ?_) e4 e5
  by_cases hj : j = k
  · subst hj
    have hl : j < ρ.length := (List.getElem?_eq_some_iff.mp hρ).1
    rw [List.getElem?_set_self hl] at f1
    cases f1
    cases f2
  · rw [List.getElem?_set_ne hj] at f1
    exact L.dis j k _ sl hj hρ f1 rfl f2 (hσ.trans q.symm)
/-- such a dict is never changed from now on -/
theorem Lay.frzN (L : Lay X.K W B H σ ρ) {i : Nat} {kvs : List (NestedKey × PyData)} (hρ : ρ[i]? = some (.dct kvs)) : ∃ B', Same B B' ∧ Lay X.K W B' H σ (ρ.set i (.dcf kvs)) := by
  obtain ⟨p, o, vs, e1, e2, e3, e4, e5⟩ := L.at' i _ hρ
  have hl : i < ρ.length := (List.getElem?_eq_some_iff.mp hρ).1
  have s : Same B (upd B p (dNO p o)) := same_new e2
  have hT : ∀ T, W.T = some T → T ≠ p := fun T h q => by
    subst q
    exact (L.gr.tp T h).1 e3
  refine ⟨upd B p (dNO p o), s, ⟨⟨fun b u h => ?_, L.gr.base.trans s, fun a h1 h2 => ?_, L.gr.keep, fun T h => ?_⟩, by simp [L.len], fun j sl e => ?_, fun j k s t hne f1 f2 o1 o2 => ?_⟩⟩
  · by_cases hb : b = p
    · subst hb
      rw [upd_same] at h
      rw [e4]
      exact h
    · rw [upd_ne hb] at h
      exact L.gr.sub b u h
  · have ha : a ≠ p := by
      rintro rfl
      exact h1 e3
    rw [upd_ne ha]
    exact L.gr.new a h1 h2
  · obtain ⟨t1, t2⟩ := L.gr.tp T h
    exact ⟨t1, t2.mono s (by rw [upd_ne (hT T h)]; exact t2.1) fun o ho => ho⟩
  · by_cases hj : i = j
    · subst hj
      rw [List.getElem?_set_self hl] at e
      cases e
      exact ⟨p, o, vs, e1, upd_same, dctMono s e5⟩
    · rw [List.getElem?_set_ne hj] at e
      refine (L.at' j sl e).grow s fun a o g1 g2 g3 _ g5 => ?_
      have ha : a ≠ p := by
        rintro rfl
        exact L.dis i j _ sl hj hρ e rfl g2 (e1.trans g1.symm)
      rw [upd_ne ha]
      exact ⟨g3, g5⟩
  · have q1 : j ≠ i := by
      rintro rfl
      rw [List.getElem?_set_self hl] at f1
      cases f1
      cases o1
    have q2 : k ≠ i := by
      rintro rfl
      rw [List.getElem?_set_self hl] at f2
      cases f2
      cases o2
    rw [List.getElem?_set_ne q1.symm] at f1
    rw [List.getElem?_set_ne q2.symm] at f2
    exact L.dis j k s t hne f1 f2 o1 o2
/-- a dict in slot i, of the frame's own or never changed -/
def DcAt (ρ : List Sl) (i : Nat) (kvs : List (NestedKey × PyData)) : Prop := ρ[i]? = some (.dct kvs) ∨ ρ[i]? = some (.dcf kvs)
theorem DcAt.of {i : Nat} {kvs : List (NestedKey × PyData)} (h : DcAt ρ i kvs) (L : Lay X.K W B H σ ρ) : ∃ a o xs, σ[i]? = some (some (.ref a)) ∧ H a = some (dNO a o) ∧ DctV X.K B a o xs kvs := by
  rcases h with h | h
  · obtain ⟨a, o, xs, h1, _, _, h4, h5⟩ := L.at' i _ h
    exact ⟨a, o, xs, h1, h4, h5⟩
  · obtain ⟨a, o, xs, h1, h4, h5⟩ := L.at' i _ h
    exact ⟨a, o, xs, h1, L.gr.sub _ _ h4, h5⟩
end
/-! ### the rules -/
section
variable {X : Cx} {W : Wd} {ρ : List Sl} {D : Dz} {R : PyData → Prop} {pos : Pos} {a b c e : Expr} {sts : List Stmt}
theorem nget_of {B H : Hp} {σ : L2.St} (L : Lay X.K W B H σ ρ) {p : Addr} {o : Obj} {xs : List (NestedKey × Addr × Value)} {kvs : List (NestedKey × PyData)} {v : V} {d : PyData} {k : NestedKey} (e4 : H p = some (dNO p o)) (e5 : DctV X.K B p o xs kvs) (hk : KeyD d k) (Dv : Dq X.K B v d) : ∃ q, NGet X.K H p o v xs kvs k q := by
  obtain ⟨rfl, ht, h1, h2⟩ := hk
  obtain ⟨q, rfl⟩ := key_ref h1 ht Dv
  exact ⟨q, e4, dctMono L.gr.sub e5, rfl, ⟨h1, h2⟩, dpMono L.gr.sub _ _ Dv⟩
/-- e in d -/
theorem et_inN (i : Nat) {x : Str} {px : Pos} {kvs : List (NestedKey × PyData)} {R : Bool → Prop} (hρ : DcAt ρ i kvs) (hu : X.A.units + 9 < cLine) (h : Ev X W a ρ fun y => ∃ k, KeyD y k ∧ R (gN kvs k).isSome) (hN : X.N[i]? = some x := by rfl)
    (hv : Vis X.env.scope x := by first | exact Or.inl rfl | exact Or.inr (Or.inl rfl) | exact Or.inr (Or.inr rfl)) (hd : (x == ("__debug__" : Str)) = false := by decide) (hcd : (x == ("__classdict__" : Str)) = false := by decide) : Et X W (.Compare a [.In] [.Name x px] pos) ρ R := by
  refine ⟨fun σ H B Q L k => (pt_cmp (pc_nin hu pe_w (pe_var hN hv hd hcd))).toZ ?_⟩
  refine h.run σ H B _ L fun v H1 B1 y s1 L1 D1 h2 => ?_
  obtain ⟨ky, hk, r⟩ := h2
  obtain ⟨p, o, xs, e1, e4, e5⟩ := hρ.of L1
  obtain ⟨q, g⟩ := nget_of L1 e4 e5 hk D1
  exact ⟨.ref p, e1, p, o, xs, kvs, ky, q, rfl, g, _, rfl, k _ H1 B1 s1 L1 r⟩
theorem et_notInN (i : Nat) {x : Str} {px : Pos} {kvs : List (NestedKey × PyData)} {R : Bool → Prop} (hρ : DcAt ρ i kvs) (hu : X.A.units + 9 < cLine) (h : Ev X W a ρ fun y => ∃ k, KeyD y k ∧ R (!(gN kvs k).isSome)) (hN : X.N[i]? = some x := by rfl)
    (hv : Vis X.env.scope x := by first | exact Or.inl rfl | exact Or.inr (Or.inl rfl) | exact Or.inr (Or.inr rfl)) (hd : (x == ("__debug__" : Str)) = false := by decide) (hcd : (x == ("__classdict__" : Str)) = false := by decide) : Et X W (.Compare a [.NotIn] [.Name x px] pos) ρ R := by
  refine ⟨fun σ H B Q L k => (pt_cmp (pc_nnotin hu pe_w (pe_var hN hv hd hcd))).toZ ?_⟩
  refine h.run σ H B _ L fun v H1 B1 y s1 L1 D1 h2 => ?_
  obtain ⟨ky, hk, r⟩ := h2
  obtain ⟨p, o, xs, e1, e4, e5⟩ := hρ.of L1
  obtain ⟨q, g⟩ := nget_of L1 e4 e5 hk D1
  exact ⟨.ref p, e1, p, o, xs, kvs, ky, q, rfl, g, _, rfl, k _ H1 B1 s1 L1 r⟩
/-- d[e] -/
theorem ev_ixN (i : Nat) {x : Str} {px : Pos} {kvs : List (NestedKey × PyData)} (hρ : DcAt ρ i kvs) (hu : X.A.units + 9 < cLine) (h : Ev X W b ρ fun y => ∃ k d, KeyD y k ∧ gN kvs k = some d ∧ R d) (hN : X.N[i]? = some x := by rfl)
    (hs : NoSl b := by exact fun _ _ => rfl) (hv : Vis X.env.scope x := by first | exact Or.inl rfl | exact Or.inr (Or.inl rfl) | exact Or.inr (Or.inr rfl)) (hd : (x == ("__debug__" : Str)) = false := by decide) (hcd : (x == ("__classdict__" : Str)) = false := by decide) : Ev X W (.Subscript (.Name x px) b pos) ρ R := by
  refine ⟨fun σ H B Q L k => (pe_nget hu (pe_var hN hv hd hcd) pe_w hs).toZ ?_⟩
  obtain ⟨p, o, xs, e1, e4, e5⟩ := hρ.of L
  refine ⟨.ref p, e1, ?_⟩
  refine h.run σ H B _ L fun u H2 B2 y s2 L2 D2 h3 => ?_
  obtain ⟨ky, d, hk, hg, r⟩ := h3
  obtain ⟨p', o', xs', f1, f4, f5⟩ := hρ.of L2
  rw [e1] at f1
  cases f1
  obtain ⟨q, g⟩ := nget_of L2 f4 f5 hk D2
  rcases dct_val f5.rel ky with ⟨q1, q2⟩ | ⟨pp, v, d', q1, q2, q3, q4⟩
  · rw [q2] at hg
    cases hg
  · rw [q2] at hg
    cases hg
    exact ⟨p, o', xs', kvs, ky, q, rfl, g, pp, v, q1, q3, k v H2 B2 _ s2 L2 q4 r⟩
/-- d[b] = e -/
theorem es_putN (i : Nat) {x : Str} {px p2 : Pos} {kvs : List (NestedKey × PyData)} (hρ : ρ[i]? = some (.dct kvs)) (hu : X.A.units + 9 < cLine) (h : Ev X W e ρ fun d => Ev X W b ρ fun y => ∃ k, KeyD y k ∧ kvs.length < sizeLine ∧ D.nx (ρ.set i (.dct (pN kvs k d)))) (hN : X.N[i]? = some x := by rfl)
    (hv : Vis X.env.scope x := by first | exact Or.inl rfl | exact Or.inr (Or.inl rfl) | exact Or.inr (Or.inr rfl)) (hd : (x == ("__debug__" : Str)) = false := by decide) (hcd : (x == ("__classdict__" : Str)) = false := by decide)
    (hs : swapsWith e (some (.Subscript (.Name x px) b p2)) pos.line X.env = pure false := by rfl) : Es X W (.Assign [.Subscript (.Name x px) b p2] e pos) ρ D := by
  refine ⟨fun σ H B L => (ps_nput hu (pe_var hN hv hd hcd) pe_w pe_w hs).toZ ?_⟩
  refine h.run σ H B _ L fun v H1 B1 d s1 L1 D1 h2 => ?_
  obtain ⟨p, o, vs, e1, e2, e3, e4, e5⟩ := L1.at' i _ hρ
  refine ⟨.ref p, e1, ?_⟩
  refine h2.run σ H1 B1 _ L1 fun u H2 B2 y s2 L2 D2 h3 => ?_
  obtain ⟨ky, hk, hl, hn⟩ := h3
  obtain ⟨p', o', vs', f1, f2, f3, f4, f5⟩ := L2.at' i _ hρ
  rw [e1] at f1
  cases f1
  obtain ⟨q, g⟩ := nget_of L2 f4 f5 hk D2
  have D1' := dpMono s2 _ _ D1
  obtain ⟨q', eq⟩ := key_ref hk.2.2.1 hk.2.1 (by rw [← hk.1]; exact D2)
  cases eq
  cases g.ref
  refine ⟨p, o', vs', kvs, ky, q, d, rfl, g, hl, dpMono L2.gr.sub _ _ D1', fun o2 r rv n => ?_⟩
  exact ⟨B2, _, s1.trans s2, L2.chgN hρ e1 (n.put f5 g.key (by rw [← hk.1]; exact D2) rv D1'), hn⟩
/-- x = {} -/
theorem Lay.newN {B H : Hp} {σ : L2.St} (L : Lay X.K W B H σ ρ) (i : Nat) {p : Addr} {o : Obj} (hp : H p = none) (hd : ∀ B, DctV X.K B p o [] []) : Lay X.K W B (upd H p (dNO p o)) (σ.set i (some (.ref p))) (ρ.set i (.dct [])) := by
  obtain ⟨L', h1, h2, h3, h4⟩ := fresh_any L hp (dNO p o)
  exact L'.ownN h1 h2 h3 h4 (hd B)
theorem es_dct (i : Nat) {x : Str} {pos' dp : Pos} (h : D.nx (ρ.set i (.dct []))) (hN : X.N.Nodup) (hi : X.N[i]? = some x := by rfl) (hx : Loc X.env.scope x := by first | exact .inl rfl | exact .inr rfl) (hs : swapsWith (.Dict [] [] dp) (some (.Name x pos')) pos.line X.env = pure false := by rfl)
    (hf : X.fn x = true ∨ X.env.scope.names.lookup x = some .local := by first | exact .inl rfl | exact .inr rfl | assumption) : Es X W (.Assign [.Name x pos'] (.Dict [] [] dp) pos) ρ D :=
  ⟨fun σ H B L => (ps_set hN hi hx pe_nnew hs hf).toZ fun p o hp hd => ⟨B, _, Same.refl _, L.newN i hp hd, h⟩⟩
/-- y = x, x a dict of the frame's own -/
theorem es_mvN (i j : Nat) {x y : Str} {px pos' : Pos} {kvs : List (NestedKey × PyData)} (hρ : ρ[j]? = some (.dct kvs)) (h : D.nx ((ρ.set j .no).set i (.dct kvs))) (hN : X.N.Nodup) (hi : X.N[i]? = some x := by rfl) (hj : X.N[j]? = some y := by rfl) (hx : Loc X.env.scope x := by first | exact .inl rfl | exact .inr rfl)
    (hv : Vis X.env.scope y := by first | exact Or.inl rfl | exact Or.inr (Or.inl rfl) | exact Or.inr (Or.inr rfl)) (hd : (y == ("__debug__" : Str)) = false := by decide) (hcd : (y == ("__classdict__" : Str)) = false := by decide) (hs : swapsWith (.Name y px) (some (.Name x pos')) pos.line X.env = pure false := by rfl)
    (hf : X.fn x = true ∨ X.env.scope.names.lookup x = some .local := by first | exact .inl rfl | exact .inr rfl | assumption) : Es X W (.Assign [.Name x pos'] (.Name y px) pos) ρ D := by
  refine ⟨fun σ H B L => (ps_set hN hi hx (pe_var hj hv hd hcd) hs hf).toZ ?_⟩
  obtain ⟨p, o, xs, e1, _⟩ := L.at' j _ hρ
  exact ⟨.ref p, e1, B, _, Same.refl _, L.mvN hρ e1, h⟩
/-- from here on the dict in slot i is never changed -/
theorem ess_frzN (i : Nat) {kvs : List (NestedKey × PyData)} (hρ : ρ[i]? = some (.dct kvs)) (h : Ess X W sts (ρ.set i (.dcf kvs)) D) : Ess X W sts ρ D := by
  refine ⟨fun σ H B L => ?_⟩
  obtain ⟨B', s, L'⟩ := L.frzN hρ
  exact tWss.back s (h.run σ H B' L')
end
/-! ### for k, v in d.items() -/
def itD (kvs : List (NestedKey × PyData)) : List PyData := kvs.map fun q => .tuple [q.1.data, q.2]
theorem items_at {K : PySem.W.Frag} {B : Hp} : ∀ {xs : List (NestedKey × Addr × Value)} {kvs : List (NestedKey × PyData)}, DctE K B xs kvs → ∃ ps : List (Addr × V), Paired (fun (e : DictEntry) (p : Addr × V) => e.key = .ref p.1 ∧ RelV p.2 e.val) (xs.map entN) ps ∧ Paired (fun (p : Addr × V) (q : NestedKey × PyData) => Dq K B (.ref p.1) q.1.data ∧ Dq K B p.2 q.2) ps kvs
  | _, _, .nil => ⟨[], .nil, .nil⟩
  | _, _, .cons (a := x) (b := q) h t => by
    obtain ⟨ps, h1, h2⟩ := items_at t
    obtain ⟨_, _, h3, v, h4, h5⟩ := h
    exact ⟨(x.2.1, v) :: ps, .cons ⟨rfl, h4⟩ h1, .cons ⟨h3, h5⟩ h2⟩
theorem walk_itemsN {K : PySem.W.Frag} {d : Addr} {o : Obj} {ps : List (Addr × V)} {kvs : List (NestedKey × PyData)} {B : Hp} (h : B d = some (dNO d o)) (hd : Paired (fun (p : Addr × V) (q : NestedKey × PyData) => Dq K B (.ref p.1) q.1.data ∧ Dq K B p.2 q.2) ps kvs) : WalkZ K (ItN d o ps) (itD kvs) B where
  go := fun i B' H' s s' hi => by
    unfold itD at hi
    rw [List.length_map, ← Paired.length hd] at hi
    exact ⟨s' _ _ (s _ _ h), hi⟩
  stop := fun B' H' s s' => by
    unfold itD
    rw [List.length_map, ← Paired.length hd]
    exact ⟨s' _ _ (s _ _ h), Nat.le_refl _⟩
  yld := fun i B' H' x H'' W σ ρ s L hy hi => by
    obtain ⟨T, b, y, rfl, hp, hT, rfl⟩ := hy
    obtain ⟨q, hq, h1, h2⟩ := paired_get hd hp
    obtain ⟨sB, L'⟩ := L.fresh hT (.tup [.ref b, y])
    refine ⟨_, _, by unfold itD; rw [List.getElem?_map, hq]; rfl, sB, L', .tup (SqT.of upd_same) (.cons (dpMono (s.trans sB) _ _ h1) (.cons (dpMono (s.trans sB) _ _ h2) .nil)), fun b o q => ?_, fun b o q1 q2 => ?_⟩
    · rw [upd_ne (ne_of_none q hT)]
      exact q
    · rw [upd_ne (ne_of_none q1 hT)]
      exact q2
section
variable {X : Cx} {W : Wd} {ρ : List Sl} {pos : Pos}
theorem ei_itemsN (i : Nat) {x : Str} {px apos tpos : Pos} {elts : List Expr} {kk : Nat} {kvs : List (NestedKey × PyData)} {R : List PyData → Prop} (hρ : ρ[i]? = some (.dcf kvs)) (h : R (itD kvs)) (hN : X.N[i]? = some x := by rfl)
    (hv : Vis X.env.scope x := by first | exact Or.inl rfl | exact Or.inr (Or.inl rfl) | exact Or.inr (Or.inr rfl)) (hd : (x == ("__debug__" : Str)) = false := by decide) (hcd : (x == ("__classdict__" : Str)) = false := by decide)
    (hbase : attributeBase (.Name x px) "items" X.env (eval (.Name x px) X.env) = eval (.Name x px) X.env := by rfl) (hline : (apos.endLine == pos.line) = true := by rfl) : Ei X W (.Tuple elts kk tpos) (.Call (.Attribute (.Name x px) "items" apos) [] [] pos) ρ R := by
  refine ⟨fun σ H B Q L k => (pi_itemsN (pe_var hN hv hd hcd) hbase hline).toZ ?_⟩
  obtain ⟨p, o, xs, e1, e2, e5⟩ := L.at' i _ hρ
  obtain ⟨es, ep, g1, g2⟩ := e5.dat
  obtain ⟨ps, h1, h2⟩ := items_at e5.rel
  refine ⟨.ref p, e1, p, o, es, ep, ps, rfl, L.gr.sub _ _ e2, ⟨e5.ex, g1, by rw [g2]; exact h1, e5.na⟩, k _ H B _ (Same.refl _) L (walk_itemsN e2 h2) h⟩
end
/-! ### d != {}, {k: v}, dict(d) -/
section
variable {prog : Program} {w : World} {A : Around} {E : Value → Shared → Prop} {s : Shared} {a b : Addr} {es : Array DictEntry} {ep ep' : Nat}
theorem samePairs_nil {nm : String} {Q : Bool → Shared → Prop} (ha : (a == sysModules) = false) (hb : (b == sysModules) = false) (da : DT.Raw s.heap a es ep) (db : DT.Raw s.heap b #[] ep') (h : Q (es.size == 0) s) :
    wpAny (model prog w) A (Builtin.Dict.samePairs nm a b) Q E s := by
  obtain ⟨oa, hoa, _, hda⟩ := da
  obtain ⟨ob, hob, _, hdb⟩ := db
  unfold Builtin.Dict.samePairs Builtin.Dict.showsAll
  rw [if_neg (show ¬ (a == sysModules) = true by rw [ha]; exact Bool.false_ne_true), if_neg (show ¬ (b == sysModules) = true by rw [hb]; exact Bool.false_ne_true)]
  refine wpAny_bind (wpAny_pure (wpAny_bind (wpAny_pure ?_)))
  refine wpAny_bind (wpAny_dictEntries hoa hda ?_)
  dsimp only
  refine wpAny_bind (wpAny_dictEntries hob hdb ?_)
  by_cases hsz : es.size = 0
  case neg =>
    rw [if_pos (by simpa using hsz)]
    rw [show (es.size == 0) = false by simpa using hsz] at h
    exact wpAny_bind (wpAny_rule (wpAny_pure h))
  case pos =>
    rw [show (es.size == 0) = true by simpa using hsz] at h
    rw [if_neg (by rw [hsz]; simp)]
    refine wpAny_bind (wpAny_dictEpoch hoa hda ?_)
    refine wpAny_bind ?_
    rw [Std.Legacy.Range.forIn_eq_forIn_range']
    simp only [Std.Legacy.Range.size, Nat.sub_zero, Nat.add_sub_cancel, Nat.div_one, hsz, List.range'_zero, List.forIn_nil]
    exact wpAny_pure (wpAny_pure h)
theorem raw_ne_nil {Q : Value → Shared → Prop} (ha : (a == sysModules) = false) (hb : (b == sysModules) = false) (da : DT.Raw s.heap a es ep) (db : DT.Raw s.heap b #[] ep') (hu : A.units < cLine) (h : Q (.bool (!(es.size == 0))) s) :
    wpAny (model prog w) A (compareOp .NotEq (.ref a) (.ref b)) Q E s := by
  refine wpAny_richCompare_same_room (op := .NotEq) da.typeIs db.typeIs PySem.F.slot_dict_ne (wpAny_call_entry PySem.F.slot_dict_ne da.typeIs PySem.F.entry_dict_ne ?_ (PySem.F.args_dict_ne_2 _ _)) hu
  show wpAny _ _ (Builtin.Dict.dictSlotArgs "__ne__" ⟨[.ref a, .ref b], []⟩ >>= _) _ _ s
  refine wpAny_bind ?_
  unfold Builtin.Dict.dictSlotArgs
  refine wpAny_bind (wpAny_notOrdered_dict da.typeIs ?_)
  show wpAny _ _ (pure (Value.ref a, Value.ref b)) _ _ s
  refine wpAny_pure ?_
  refine wpAny_bind (wpAny_isInstance (T := "dict") db.typeIs PySem.F.sub_dict_dict ?_)
  simp only [Bool.not_true, Bool.false_eq_true, if_false]
  refine wpAny_bind (wpAny_pure (wpAny_bind (wpAny_pure ?_)))
  refine wpAny_bind (samePairs_nil ha hb da db ?_)
  refine wpAny_pure ⟨_, rfl, ?_, ?_⟩
  · exact fun x => nomatch x
  · have e : (!(es.size == 0)) = ((es.size == 0) == false) := by cases (es.size == 0) <;> rfl
    rw [e] at h
    exact h
/-- dict(d), d with keys that are objects -/
theorem call_dictH {K : Type} [DecidableEq K] {knd : HeapKind prog w K} {o : Addr} {more : List (K × Addr × Value)} {Q : Value → Shared → Prop} (hu : knd.room A.in1.in1) (hoS : (o == sysModules) = false) (ho : s.heap.DictOfH knd o more) (hsz : more.length ≤ sizeLine) (hty : ∀ x ∈ more, s.TypeIs (.ref x.2.1) "tuple") (hap : (more.map fun x => knd.hash x.1).Nodup)
    (hst : ∀ x ∈ more, knd.is (s.heap.push { cls := .type "dict", data := .dict #[] }) x.1 x.2.1)
    (h : ∀ h', h'.DictOfH knd s.heap.objs.size more → Heap.SameBut s.heap.objs.size (s.heap.push { cls := .type "dict", data := .dict #[] }) h' → Q (.ref s.heap.objs.size) { s with heap := h' }) :
    wpAny (model prog w) A (call (.type "dict") [.ref o]) Q E s := by
  refine callType_codes (Q₁ := fun obj s₁ => obj = .ref s.heap.objs.size ∧ s₁ = { s with heap := s.heap.push { cls := .type "dict", data := .dict #[] } }) F.kt_called_dict (F.kt_typeCall_dict_1 _) F.entry_dict_init (kt_code_dict_new _ ⟨rfl, rfl⟩) ?_
  rintro obj s₁ ⟨rfl, rfl⟩
  have hnew : (s.heap.push { cls := .type "dict", data := .dict #[] }).DictOfH knd s.heap.objs.size [] := Heap.DictOfH.new s.heap
  have ho' : (s.heap.push { cls := .type "dict", data := .dict #[] }).DictOfH knd o more := by
    obtain ⟨o', es, ep, h1, h2, h3, h4, _, h6⟩ := ho
    exact ⟨o', es, ep, Heap.get?_push_of_some _ h1, h2, h3, h4, hst, h6⟩
  have hn : (more.map (·.1)).Nodup := ho.nodup
  have hdo : s.heap.objs.size ≠ o := by
    obtain ⟨_, _, _, hg, _⟩ := ho
    exact fun e => absurd (Heap.lt_size hg) (by rw [e]; exact Nat.lt_irrefl _)
  refine ⟨hnew.typeIs, F.args_dict_init_2 _ _, ?_⟩
  unfold Builtin.«dict.__init__»
  refine wpAny_bind ?_
  unfold Builtin.Dict.selfAndRest
  refine wpAny_bind (wpAny_notOrdered_dict hnew.typeIs ?_)
  show wpAny _ _ (pure (s.heap.objs.size, [Value.ref o])) _ _ _
  refine wpAny_pure ?_
  show wpAny _ _ (Builtin.Dict.updateFrom "dict.__init__" s.heap.objs.size (.ref o) [] .none) _ _ _
  unfold Builtin.Dict.updateFrom
  refine wpAny_bind (wpAny_typeOf ho'.typeIs ?_)
  rw [if_neg (by decide)]
  refine wpAny_bind ?_
  unfold Builtin.Dict.merge
  refine wpAny_bind ?_
  unfold Builtin.Dict.readDirectly
  refine wpAny_bind (wpAny_isInstance ho'.typeIs isSubtype_dict_dict ?_)
  simp only [Bool.not_true, Bool.false_eq_true, if_false]
  refine wpAny_bind (wpAny_specialOf ho'.typeIs F.slot_dict_iter.lookup (wpAny_pure ?_))
  simp only [beq_self_eq_true, if_true]
  refine wpAny_bind (wpAny_pure ?_)
  refine wpAny_mergeDict_heap (hsz := by simpa using hsz) hu hdo hoS hnew ho' (.inr ⟨fun x hx => ?_, hap⟩) fun h' hd' _ hs' => ?_
  · obtain ⟨o1, e1, e2⟩ := hty x hx
    exact ⟨o1, Heap.get?_push_of_some _ e1, e2⟩
  show wpAny _ _ (Builtin.Dict.addKeywords s.heap.objs.size [] >>= _) _ _ _
  rw [storedAllH_nil_of_nodup more hn] at hd'
  exact wpAny_bind (wpAny_pure (wpAny_pure ⟨rfl, h h' hd' hs'⟩))
end
section
variable {X : Cx} {W : Wd} {ρ : List Sl} {D : Dz} {R : PyData → Prop} {pos : Pos} {a b c e : Expr} {sts : List Stmt}
theorem raw_of {pins : List (Addr × Obj)} {σ : L2.St} {H B : Hp} {s : Shared} {p : Addr} {o : Obj} {xs : List (NestedKey × Addr × Value)} {kvs : List (NestedKey × PyData)} (I : Inv X pins σ H s) (e : H p = some (dNO p o)) (h : DctV X.K B p o xs kvs) : ∃ es ep, DT.Raw s.heap p es ep ∧ es.toList = xs.map entN ∧ es.size = kvs.length := by
  obtain ⟨hob, _⟩ := (show ObjOk X.prog X.w H s.heap p (dNO p o) from I.hok p _ e)
  obtain ⟨es, ep, g1, g2⟩ := h.dat
  refine ⟨es, ep, ⟨o, hob, h.ex, g1⟩, g2, ?_⟩
  rw [← dct_len h.rel, ← Array.length_toList, g2, List.length_map]
def rNeNil (X : Cx) : R2 := fun x y H Q => ∃ p q o o' xs kvs B B', x = .ref p ∧ y = .ref q ∧ H p = some (dNO p o) ∧ DctV X.K B p o xs kvs ∧ H q = some (dNO q o') ∧ DctV X.K B' q o' [] [] ∧ Q (.bl (!decide (kvs = []))) H
theorem op_neNil (hu : X.A.units < cLine) : OpR X (compareOp .NotEq) (rNeNil X) := by
  intro pins s σ H x y v u Q I rx ry h
  obtain ⟨p, q, o, o', xs, kvs, B, B', rfl, rfl, e1, d1, e2, d2, h⟩ := h
  obtain rfl : v = Value.ref p := rx
  obtain rfl : u = Value.ref q := ry
  obtain ⟨es, ep, r1, _, z1⟩ := raw_of I e1 d1
  obtain ⟨es', ep', r2, z2, _⟩ := raw_of I e2 d2
  have : es' = #[] := by
    apply Array.ext'
    exact z2
  subst this
  refine raw_ne_nil d1.na d2.na r1 r2 hu ⟨.bl _, H, I, rfl, ?_⟩
  rw [z1]
  have e : (kvs.length == 0) = decide (kvs = []) := by cases kvs <;> rfl
  rw [e]
  exact h
/-- d != {} -/
theorem et_neNil (i : Nat) {x : Str} {px dp : Pos} {kvs : List (NestedKey × PyData)} {R : Bool → Prop} (hρ : DcAt ρ i kvs) (hu : X.A.units < cLine) (h : R (!decide (kvs = []))) (hN : X.N[i]? = some x := by rfl)
    (hv : Vis X.env.scope x := by first | exact Or.inl rfl | exact Or.inr (Or.inl rfl) | exact Or.inr (Or.inr rfl)) (hd : (x == ("__debug__" : Str)) = false := by decide) (hcd : (x == ("__classdict__" : Str)) = false := by decide) (hm : behindInMarks .NotEq (.Dict [] [] dp) = false := by first | exact nomark _ | rfl) : Et X W (.Compare (.Name x px) [.NotEq] [.Dict [] [] dp] pos) ρ R := by
  refine ⟨fun σ H B Q L k => (pt_cmpR (op_neNil hu) (pe_var hN hv hd hcd) pe_nnew hm).toZ ?_⟩
  obtain ⟨p, o, xs, e1, e4, e5⟩ := hρ.of L
  refine ⟨.ref p, e1, fun q o' hq hn => ?_⟩
  obtain ⟨L', g1, g2, g3, g4⟩ := fresh_any L hq (dNO q o')
  have pq : p ≠ q := ne_of_none e4 hq
  exact ⟨p, q, o, o', xs, kvs, B, B, rfl, rfl, by rw [upd_ne pq]; exact e4, e5, g4, hn B, _, rfl, k _ _ B (Same.refl _) L' h⟩
/-- dict(d) -/
def rDictN (X : Cx) : List V → Hp → VK → Prop := fun vs H Q => ∃ p o xs kvs, vs = [.ref p] ∧ H p = some (dNO p o) ∧ DctV X.K H p o xs kvs ∧ kvs.length ≤ sizeLine ∧ (kvs.map fun q => hN q.1).Nodup ∧ ∀ q o', H q = none → (∀ B, DctE X.K B xs kvs → DctV X.K B q o' xs kvs) → Q (.ref q) (upd H q (dNO q o'))
theorem call_dictN (hu : X.A.units + 10 < cLine) : CallR X (.type "dict") (rDictN X) := by
  intro pins s σ H vs us Q I r h
  obtain ⟨p, o, xs, kvs, rfl, e, d, hl, hn, q⟩ := h
  obtain rfl := Vals.ref1 r
  have hd := dct_of I e d
  have ek : xs.map (fun x => (nestedKind X.prog X.w).hash x.1) = kvs.map fun q => hN q.1 := by
    have := d.rel
    unfold DctE at this
    clear hd q hn hl d e I
    induction this with
    | nil => rfl
    | @cons x q xs kvs h t ih =>
      rw [List.map_cons, List.map_cons, ih]
      congr 1
      rw [← h.1]
      exact hash_hN X.w x.1 (by rw [h.1]; exact h.2.1.1)
  have hst : ∀ (h' : Heap), (∀ b u, s.heap.get? b = some u → h'.get? b = some u) → ∀ x ∈ xs, (nestedKind X.prog X.w).is h' x.1 x.2.1 := fun h' k x hx => nestedKind_stays.stays (fun b o _ _ e _ => k b o e) (dct_is I d.rel x hx)
  refine call_dictH (knd := nestedKind X.prog X.w) (show X.A.units + 1 + 1 + 8 < cLine by omega) d.na hd (by rw [dct_len d.rel]; exact hl) (fun x hx => nestedKind_stays.tuple (dct_is I d.rel x hx)) (by rw [ek]; exact hn) (hst _ fun b u e => Heap.get?_push_of_some _ e) fun h' dd hs => ?_
  obtain ⟨o', es, ep, g1, g2, g3, g4, _, g5⟩ := dd
  refine ⟨.ref s.heap.objs.size, _, I.laid (a := s.heap.objs.size) (o := dNO s.heap.objs.size o') (t' := s.toks) (fun b u e => (hs.2 b (Nat.ne_of_lt (Heap.lt_size e))).trans (Heap.get?_push_of_some _ e)) (Nat.le_refl _) (dct_ok g1), rfl, q _ o' (I.hok.fresh (Nat.le_refl _)) fun B dB => ⟨g2, ⟨es, ep, g3, ?_⟩, dB, g5, beq_eq_false_iff_ne.mpr (Ne.symm (Nat.ne_of_lt I.big))⟩⟩
  rw [g4]
  exact (ent_eq dB).symm
/-- x = dict(d) -/
theorem es_copyN (i j : Nat) {x y : Str} {px pos' p cp : Pos} {kvs : List (NestedKey × PyData)} (hρ : DcAt ρ j kvs) (hm : X.mg "dict" = none) (hu : X.A.units + 10 < cLine) (hl : kvs.length ≤ sizeLine) (hn : (kvs.map fun q => hN q.1).Nodup) (h : D.nx (ρ.set i (.dct kvs))) (hN' : X.N.Nodup) (hi : X.N[i]? = some x := by rfl) (hj : X.N[j]? = some y := by rfl) (hx : Loc X.env.scope x := by first | exact .inl rfl | exact .inr rfl)
    (hv : Vis X.env.scope y := by first | exact Or.inl rfl | exact Or.inr (Or.inl rfl) | exact Or.inr (Or.inr rfl)) (hd : (y == ("__debug__" : Str)) = false := by decide) (hcd : (y == ("__classdict__" : Str)) = false := by decide) (hg : Gl X "dict" := by rfl)
    (hs : swapsWith (.Call (.Name "dict" p) [.Name y px] [] cp) (some (.Name x pos')) pos.line X.env = pure false := by rfl)
    (hf : X.fn x = true ∨ X.env.scope.names.lookup x = some .local := by first | exact .inl rfl | exact .inr rfl | assumption) (he : starEach [.Name y px] X.env = (false, eval (.Name y px) X.env) :: starEach [] X.env := by rfl) (hpl : (backTo cp (starEach [] X.env)).any (·.1) = false := by rfl) : Es X W (.Assign [.Name x pos'] (.Call (.Name "dict" p) [.Name y px] [] cp) pos) ρ D := by
  refine ⟨fun σ H B L => (ps_set hN' hi hx (pe_callTy (call_dictN hu) hg hm boot_dict (pa_cons (pe_var hj hv hd hcd) pa_nil he) (by decide) (by decide) he hpl) hs hf).toZ ?_⟩
  obtain ⟨p, o, xs, e1, e4, e5⟩ := hρ.of L
  refine ⟨.ref p, e1, p, o, xs, kvs, rfl, e4, dctMono L.gr.sub e5, hl, hn, fun q o' hq hB => ?_⟩
  obtain ⟨L', g1, g2, g3, g4⟩ := fresh_any L hq (dNO q o')
  exact ⟨B, _, Same.refl _, L'.ownN g1 g2 g3 g4 (hB B e5.rel), h⟩
end
end Z

/-! dict comprehensions: keys that are tuples; how many different numbers -/
namespace Z
open PySem PySem.Spec PyProof.Rows L2
section
variable {X : Cx}
/-- {k: v for target in iter if ..}, keys tuples of numbers: D the new dict -/
def tDcN (X : Cx) (wi : TI) (g : TG) (tt : TT) (tk tv : TE) (vs : List Nat) : TE := fun σ H Q => wi σ H fun J H1 => ∀ D o0, H1 D = none → (∀ B, DctV X.K B D o0 [] []) → ∃ W : Nat → Nat → Hp → Prop, (∃ m, W 0 m (upd H1 D (dNO D o0))) ∧ ∀ i m H, W i m H →
  (J.stop i H ∧ Q (.ref D) H) ∨ (J.go i H ∧ ∃ Nx : Hp → Prop, (∀ H', Nx H' → ∃ m', m' < m ∧ W (i + 1) m' H') ∧ ∀ x H', J.yld i H x H' → g x (wipe σ vs) H' fun σ2 H2 => wipe σ2 vs = wipe σ vs ∧ tt σ2 H2 fun b H3 =>
    if b = true then tk σ2 H3 fun y H4 => tv σ2 H4 fun z H5 => ∃ o xs kvs k b d, NGet X.K H5 D o y xs kvs k b ∧ kvs.length < sizeLine ∧ Dq X.K H5 z d ∧ ∀ o' r, RelV z r → ObjN o' (storedH xs k b r) → Nx (upd H5 D (dNO D o')) else Nx H3)
theorem dcN_core {pins : List (Addr × Obj)} {s : Shared} {σ : L2.St} {H : Hp} {Q : VK} {kx vx tg iter : Expr} {ifs : List Expr} {scope : Scope} {own : List (Str × Nat)} {pos pos' : Pos} {wi : TI} {g : TG} {tt : TT} {tk tv : TE} {use : Option (Value → Sem Unit)} {Qf : Value → Shared → Prop}
    (hu : X.A.units + 8 < cLine) (hc : X.calm = true) (hN : X.N.Nodup) (I : Inv X pins σ H s) (hi : PI X tg iter wi) (ok : BlkOk X.N X.env.scope scope own)
    (hg : ∀ (s : Shared) (H : Hp) (C : Addr) (cl : List (Str × Addr)) (fp : List Addr), PG (X.blk s H scope (compEnvC scope cl C X.env) fp) tg g) (ht : ∀ (s : Shared) (H : Hp) (C : Addr) (cl : List (Str × Addr)) (fp : List Addr), PTs (X.blk s H scope (compEnvC scope cl C X.env) fp) ifs tt)
    (hk : ∀ (s : Shared) (H : Hp) (C : Addr) (cl : List (Str × Addr)) (fp : List Addr), PE (X.blk s H scope (compEnvC scope cl C X.env) fp) kx tk)
    (he : ∀ (s : Shared) (H : Hp) (C : Addr) (cl : List (Str × Addr)) (fp : List Addr), PE (X.blk s H scope (compEnvC scope cl C X.env) fp) vx tv) (hs : ∀ x, foldedSetIterable iter X.env x = pure x)
    (h : tDcN X wi g tt tk tv (own.map (·.2)) σ H Q)
    (hRR : ∀ D C s' m H', Inv X pins σ H' s' → Q (.ref D) H' → s'.heap.Ns C m → FpOk X pins H' C → compPost (model X.prog X.w) X.A X.xe use Qf (.ref D) C (.ok .next) s') :
    wpAny (model X.prog X.w) X.A (comprehension (.DictComp kx vx [⟨tg, iter, ifs, 0⟩] scope pos) scope X.env pos' newDict false (eval iter X.env) use) Qf X.xe s := by
  have hfree : ∀ y ∈ scope.names, y.2 = .free → ∃ c, X.env.cells.lookup y.1 = some c := fun y hy e => by
    rcases ok.free y hy e with k | k
    · exact I.ok.has _ (.inl k)
    · exact I.ok.has _ (.inr k)
  refine wpAny_comprehension_free (use := use) rfl hs (closure_ok hfree) ok.kind (fun y hy e => by rw [ok.uniq y hy, e])
    (thn (hi.run pins s σ H _ I h) fun xv s1 hx => thn hx fun itv s2 h2 => ?_)
  obtain ⟨it, fp, tn, J, H2, e, I2, T, st2, f2, q⟩ := h2
  subst e
  refine wpAny_newObj_type (newEnv_comp ?_)
  generalize hD : s2.heap.objs.size = D
  have hDn : H2 D = none := I2.hok.fresh (Nat.le_of_eq hD)
  obtain ⟨o0, hO⟩ : ∃ o0 : Obj, o0 = { cls := .type "dict", data := .dict #[] } := ⟨_, rfl⟩
  obtain ⟨W, ⟨m0, w0⟩, turn⟩ := q D o0 hDn fun B => by
    rw [hO]
    exact dct_nil ⟨rfl, rfl, rfl⟩ ⟨_, rfl⟩ (beq_eq_false_iff_ne.mpr (by rw [← hD]; exact Ne.symm (Nat.ne_of_lt I2.big)))
  -- the new dict
  generalize hs3 : ({ s2 with heap := s2.heap.push { cls := .type "dict", data := .dict #[] } } : Shared) = s3
  have I3 : Inv X pins σ (upd H2 D (dNO D o0)) s3 := by
    rw [← hs3]
    refine I2.laid (t' := s2.toks) (fun b o e => Heap.get?_push_of_some _ e) (Nat.le_of_eq hD) ?_
    rw [← hD, hO]
    exact dct_ok (Heap.get?_push_size _ rfl)
  have h3 : s3.heap = s2.heap.push { cls := .type "dict", data := .dict #[] } := by rw [← hs3]
  have sz : ∀ b ∈ fp, b < s2.heap.objs.size := fun b hb => by
    obtain ⟨o, e, _⟩ := T.obj _ _ st2 b hb
    exact Heap.lt_size e
  have f3 : ∀ b ∈ fp, FpOk X pins (upd H2 D (dNO D o0)) b ∧ b < s3.heap.objs.size := fun b hb => by
    have hlt := sz b hb
    refine ⟨⟨?_, (f2 b hb).2⟩, by rw [h3, Heap.size_push]; exact Nat.lt_succ_of_lt hlt⟩
    rw [upd_ne (by rw [← hD]; exact Nat.ne_of_lt hlt)]
    exact (f2 b hb).1
  have st3 : tn 0 s3.heap := T.keep _ _ _ st2 fun b _ o e => by rw [h3]; exact Heap.get?_push_of_some _ e
  have I4 := block_start I3 ok hN f3
  have pg := hg s3 (upd H2 D (dNO D o0)) s3.heap.objs.size (cellsFrom (s3.heap.objs.size + 1) scope.names (cloFrom X.env.cells scope.names [])) fp
  have pt := ht s3 (upd H2 D (dNO D o0)) s3.heap.objs.size (cellsFrom (s3.heap.objs.size + 1) scope.names (cloFrom X.env.cells scope.names [])) fp
  have pk := hk s3 (upd H2 D (dNO D o0)) s3.heap.objs.size (cellsFrom (s3.heap.objs.size + 1) scope.names (cloFrom X.env.cells scope.names [])) fp
  have pe := he s3 (upd H2 D (dNO D o0)) s3.heap.objs.size (cellsFrom (s3.heap.objs.size + 1) scope.names (cloFrom X.env.cells scope.names [])) fp
  show codeAny _ _ (.compStart (.DictComp kx vx [⟨tg, iter, ifs, 0⟩] scope pos) 0 (.ref it) (.ref D) (compEnvC scope (cellsFrom (s3.heap.objs.size + 1) scope.names (cloFrom X.env.cells scope.names [])) s3.heap.objs.size X.env)) (compPost (model X.prog X.w) X.A X.xe use Qf (.ref D) s3.heap.objs.size) { s3 with heap := pushCells (s3.heap.push { cls := .type "dict", data := .dict #[] }) scope.names }
  have nfp : ∀ b ∈ fp, (upd H2 D (dNO D o0)) b = none := fun b hb => (f3 b hb).1.1
  generalize hce : compEnvC scope (cellsFrom (s3.heap.objs.size + 1) scope.names (cloFrom X.env.cells scope.names [])) s3.heap.objs.size X.env = ce at I4 pg pt pk pe ⊢
  have cL : ce.locals = s3.heap.objs.size := by subst hce; rfl
  generalize hH3 : upd H2 D (dNO D o0) = H3 at I3 I4 pg pt pk pe w0 nfp f3
  generalize hs4 : ({ s3 with heap := pushCells (s3.heap.push { cls := .type "dict", data := .dict #[] }) scope.names } : Shared) = s4 at I4 ⊢
  have st4 : tn 0 s4.heap := T.keep _ _ _ st3 fun b _ o e => by rw [← hs4]; exact pushCells_keeps _ _ _ _ (Heap.get?_push_of_some _ e)
  have stat : ∀ {σ' : L2.St} {H' : Hp} {s' : Shared}, Inv (X.blk s3 H3 scope ce fp) [] σ' H' s' → (∀ b ∈ fp, H' b = none) → ∀ b ∈ fp, FpOk (X.blk s3 H3 scope ce fp) [] H' b := fun {σ' H' s'} I' hn b hb =>
    ⟨hn b hb, (I'.ok.exf b hb).1, I'.ok.exfs b hb, .inl hb, fun x c e => (I'.ok.exf b hb).2 x c e, fun p hp => absurd (show p ∈ ([] : List (Addr × Obj)) ++ [] from hp) (by simp)⟩
  have loop : codeAny (model X.prog X.w) X.A (.compLoop (.DictComp kx vx [⟨tg, iter, ifs, 0⟩] scope pos) 0 (.ref it) (.ref D) ce) (compPost (model X.prog X.w) X.A X.xe use Qf (.ref D) s3.heap.objs.size) s4 := by
    refine compLoop_anyD (fun n s' => ∃ i H', Inv (X.blk s3 H3 scope ce fp) [] (wipe σ (own.map (·.2))) H' s' ∧ tn i s'.heap ∧ (∀ b ∈ fp, H' b = none) ∧ W i n H') ?_ m0 ⟨0, H3, I4, st4, nfp, w0⟩
    rintro n s5 ⟨i, H5, I5, st5, n5, w5⟩
    rcases turn i n H5 w5 with ⟨stop, qq⟩ | ⟨go, Nx, hNx, step⟩
    · have td := T.done (X.blk s3 H3 scope ce fp) rfl rfl rfl hc i [] s5 _ H5 (fun _ _ => False) I5 (stat I5 n5) st5 stop
      refine thnF td fun r s6 ⟨hr, I6⟩ => ?_
      subst hr
      -- back in the def's context
      have I7 : Inv X pins σ H5 s6 := I3.call' (ch := fp) I6.os I6.base I6.hok I6.bare fun b hb => ⟨(f3 b hb).1.2.2.2.1, (f3 b hb).1.2.1, (f3 b hb).1.2.2.2.2.1, (f3 b hb).1.2.2.2.2.2⟩
      have nC : H5 s3.heap.objs.size = none := by
        have z : H5 ce.locals = none := I6.free
        rw [cL] at z
        exact z
      obtain ⟨m, hn, _⟩ := I6.loc
      have hn : s6.heap.Ns ce.locals m := hn
      rw [cL] at hn
      exact hRR D s3.heap.objs.size s6 m H5 I7 qq hn (I3.fpOk (Nat.le_refl _) nC)
    · have ti := T.item (X.blk s3 H3 scope ce fp) rfl rfl rfl hc i [] s5 _ H5 (fun _ _ => False) I5 (stat I5 n5) st5 go
      refine thnF ti fun r s6 ⟨u, hr, h6⟩ => ?_
      subst hr
      refine thnF h6 fun _ s7 ⟨x, H7, I7, r7, y7, st7, n7⟩ => ?_
      have I7' := I7.pinned (stat I7 n7) (T.obj _ _ st7)
      refine thnF (pg.run _ s7 _ H7 x u _ I7' r7 (step x H7 y7)) fun _ s8 ⟨σ8, H8, I8, hw8, q8⟩ => ?_
      refine thnF (pt.run _ s8 σ8 H8 _ I8 q8) fun b s9 ⟨H9, I9, q9⟩ => ?_
      -- the turn's end
      have fin : ∀ {s' : Shared} {H' : Hp}, Inv (X.blk s3 H3 scope ce fp) ([] ++ pinsAt fp s7.heap) σ8 H' s' → Nx H' → ∃ m, m < n ∧ ∃ i H', Inv (X.blk s3 H3 scope ce fp) [] (wipe σ (own.map (·.2))) H' s' ∧ tn i s'.heap ∧ (∀ b ∈ fp, H' b = none) ∧ W i m H' := fun {s' H'} I' nx => by
        obtain ⟨m', hm, w'⟩ := hNx H' nx
        have pin' : ∀ b ∈ fp, ∀ o, s7.heap.get? b = some o → s'.heap.get? b = some o ∧ H' b = none := fun b hb o e =>
          let z := I'.pin (b, o) (List.mem_append_right _ (List.mem_append_right _ (mem_pinsAt hb e)))
          ⟨z.1, z.2.1⟩
        have hl : (wipe σ (own.map (·.2))).length = σ8.length := by rw [← hw8, wipe_length]
        refine ⟨m', hm, i + 1, H', (I'.unpinned (pins := [])).weak hl (fun j v e => ?_), T.keep _ _ _ st7 fun b hb o e => (pin' b hb o e).1, fun b hb => ?_, w'⟩
        · rw [← hw8] at e
          exact (wipe_some e).1
        · obtain ⟨o, e, _⟩ := T.obj _ _ st7 b hb
          exact (pin' b hb o e).2
      cases b with
      | false =>
        simp only [Bool.false_eq_true, if_false] at q9 ⊢
        exact fin I9 q9
      | true =>
        simp only [if_true] at q9 ⊢
        refine thnF (pk.run _ s9 σ8 H9 _ I9 q9) fun z s10 ⟨yk, H10, I10, r10, q10⟩ => ?_
        refine thnF (pe.run _ s10 σ8 H10 _ I10 q10) fun z2 s11 ⟨yv, H11, I11, r11, o', xs, kvs, k, b, d, hg11, hz11, hd11, nx⟩ => ?_
        exact n_dictSet (X := X.blk s3 H3 scope ce fp) hu I11 hg11 hz11 r10 r11 hd11 fun s12 o2 I12 n12 => fin I12 (nx o2 _ r11 n12)
  exact codeAny_compStart_dict loop (T.self X.A 0 _ _ _ st4 loop)
/-- as a value -/
theorem pe_dcN {kx vx tg iter : Expr} {ifs : List Expr} {scope : Scope} {own : List (Str × Nat)} {pos : Pos} {wi : TI} {g : TG} {tt : TT} {tk tv : TE} (hu : X.A.units + 8 < cLine) (hc : X.calm = true) (hN : X.N.Nodup) (hi : PI X tg iter wi) (ok : BlkOk X.N X.env.scope scope own)
    (hg : ∀ (s : Shared) (H : Hp) (C : Addr) (cl : List (Str × Addr)) (fp : List Addr), PG (X.blk s H scope (compEnvC scope cl C X.env) fp) tg g) (ht : ∀ (s : Shared) (H : Hp) (C : Addr) (cl : List (Str × Addr)) (fp : List Addr), PTs (X.blk s H scope (compEnvC scope cl C X.env) fp) ifs tt)
    (hk : ∀ (s : Shared) (H : Hp) (C : Addr) (cl : List (Str × Addr)) (fp : List Addr), PE (X.blk s H scope (compEnvC scope cl C X.env) fp) kx tk)
    (he : ∀ (s : Shared) (H : Hp) (C : Addr) (cl : List (Str × Addr)) (fp : List Addr), PE (X.blk s H scope (compEnvC scope cl C X.env) fp) vx tv) (hs : ∀ x, foldedSetIterable iter X.env x = pure x := by intro _; rfl) :
    PE X (.DictComp kx vx [⟨tg, iter, ifs, 0⟩] scope pos) (tDcN X wi g tt tk tv (own.map (·.2))) := by
  refine ⟨fun pins s σ H Q I h => ?_⟩
  rw [arm_eval_DictComp]
  refine dcN_core hu hc hN I hi ok hg ht hk he hs h fun D C s' m H' I' q hn f => ⟨m, hn, fun h'' sb => ?_⟩
  obtain ⟨f0, f1, f2, f3, f4, f5⟩ := f
  exact ⟨.ref D, H', I'.turned (t' := s'.toks) (fun b o hb e => (sb.2 b hb).trans e) f0 f1 f3 f4 f5, rfl, q⟩
/-- y = {..}, y a plain local -/
theorem ps_setDcN {i : Nat} {y : Str} {py : Pos} {kx vx tg iter : Expr} {ifs : List Expr} {scope : Scope} {own : List (Str × Nat)} {pos spos : Pos} {wi : TI} {g : TG} {tt : TT} {tk tv : TE} (hu : X.A.units + 8 < cLine) (hc : X.calm = true) (hN : X.N.Nodup) (hy : X.N[i]? = some y) (hyl : X.env.scope.names.lookup y = some .local)
    (hsw : swapsWith (.DictComp kx vx [⟨tg, iter, ifs, 0⟩] scope pos) (some (.Name y py)) spos.line X.env = pure true) (hi : PI X tg iter wi) (ok : BlkOk X.N X.env.scope scope own)
    (hg : ∀ (s : Shared) (H : Hp) (C : Addr) (cl : List (Str × Addr)) (fp : List Addr), PG (X.blk s H scope (compEnvC scope cl C X.env) fp) tg g) (ht : ∀ (s : Shared) (H : Hp) (C : Addr) (cl : List (Str × Addr)) (fp : List Addr), PTs (X.blk s H scope (compEnvC scope cl C X.env) fp) ifs tt)
    (hk : ∀ (s : Shared) (H : Hp) (C : Addr) (cl : List (Str × Addr)) (fp : List Addr), PE (X.blk s H scope (compEnvC scope cl C X.env) fp) kx tk)
    (he : ∀ (s : Shared) (H : Hp) (C : Addr) (cl : List (Str × Addr)) (fp : List Addr), PE (X.blk s H scope (compEnvC scope cl C X.env) fp) vx tv) (hs : ∀ x, foldedSetIterable iter X.env x = pure x := by intro _; rfl) :
    PS X (.Assign [.Name y py] (.DictComp kx vx [⟨tg, iter, ifs, 0⟩] scope pos) spos) (tAsg (tDcN X wi g tt tk tv (own.map (·.2))) (gName i)) := by
  refine ⟨fun pins s σ H D I h => ?_⟩
  rw [exec_Assign_Name_used _ _ _ _ hsw]
  refine wpAny_bind (wpAny_standAt (wpAny_bind ?_))
  show wpAny _ X.A (do let _ ← comprehension (.DictComp kx vx [⟨tg, iter, ifs, 0⟩] scope pos) scope X.env (firstIterPos [⟨tg, iter, ifs, 0⟩] pos) newDict false (eval iter X.env) (some (assign (.Name y py) X.env))) _ _ s
  have h : tDcN X wi g tt tk tv (own.map (·.2)) σ H (fun x H1 => gName i x σ H1 D.nx) := h
  refine wpAny_bind (thn (dcN_core (Qf := fun _ s' => SP X pins D .next s') hu hc hN I hi ok hg ht hk he hs h fun L C s' m H' I' q hn f => ?_) fun _ s' hq => wpAny_pure (wpAny_pure hq))
  show wpAny _ _ (assign (.Name y py) X.env (.ref L)) _ _ _
  refine wpAny_assign_Name (store_ok2 (v := V.ref L) I' hN hy (.inl hyl) rfl (fun s2 I2 ⟨a, sb, ha⟩ => ?_) (.inr hyl))
  obtain ⟨f0, f1, f2, f3, f4, f5⟩ := f
  have haC : C ≠ a := by
    rcases ha with z | z
    · rw [z]; exact f1
    · exact fun e => f4 y a z e.symm
  refine ⟨m, hn.sameBut sb haC, fun h3 sb3 => ?_⟩
  exact ⟨_, H', I2.turned (t' := s2.toks) (fun b o hb e => (sb3.2 b hb).trans e) f0 f1 f3 f4 f5, q⟩
end
section
variable {X : Cx} {W : Wd} {ρ : List Sl} {D : Dz} {pos : Pos} {a b c e : Expr} {es : List Expr} {st : Stmt} {sts body : List Stmt}
theorem dcN_run {tg iter : Expr} {js : List Nat} {g : TG} {tk tv : TE} {dec : PyData → Option (List PyData)} (gz : GgZ X.K g js dec) {R : List (NestedKey × PyData) → Prop}
    (h : Ei X W tg iter ρ fun ds => ds.length < sizeLine ∧ ∃ P : Nat → List (NestedKey × PyData) → Prop, P 0 [] ∧ (∀ i d acc, ds[i]? = some d → P i acc → acc.length ≤ i → ∃ xs, dec d = some xs ∧
      TeZ X.K W.T tk (setZ (disown (wipeZ ρ js)) js xs) fun y => TeZ X.K W.T tv (setZ (disown (wipeZ ρ js)) js xs) fun z => ∃ k, KeyD y k ∧ P (i + 1) (pN acc k z)) ∧ ∀ acc, P ds.length acc → acc.length ≤ ds.length → R acc)
    {σ : L2.St} {H B : Hp} {Q : VK} (L : Lay X.K W B H σ ρ)
    (k : ∀ a o xs H' B' kvs, Same B B' → Lay X.K W B' H' σ ρ → B' a = none → W.H0 a = none → (∀ (i : Nat) (sl : Sl), ρ[i]? = some sl → sl.ow = true → σ[i]? ≠ some (some (.ref a))) → H' a = some (dNO a o) → DctV X.K B' a o xs kvs → R kvs → Q (.ref a) H') :
    tDcN X (iW X tg iter) g tYes tk tv js σ H Q := by
  refine h.run σ H B _ L fun J H1 B1 ds s1 L1 wk hP p o0 hp hnil => ?_
  obtain ⟨hlen, P, p0, turn, fin⟩ := hP
  obtain ⟨L2', b0, h0, own0, e0⟩ := fresh_any L1 hp (dNO p o0)
  have hT : W.T ≠ some p := fun z => (L1.gr.tp p z).1 h0
  refine ⟨fun i m H => m = ds.length - i ∧ i ≤ ds.length ∧ ∃ B o xs acc, Same B1 B ∧ B p = none ∧ H p = some (dNO p o) ∧ DctV X.K B p o xs acc ∧ acc.length ≤ i ∧ Lay X.K W B H σ ρ ∧ P i acc,
    ⟨_, rfl, Nat.zero_le _, B1, o0, [], [], Same.refl _, b0, e0, hnil B1, Nat.le_refl _, L2', p0⟩, ?_⟩
  rintro i m H ⟨rfl, hi, B2, o, xs, acc, sB, bp, hpv, da, hal, L, hPi⟩
  by_cases hlt : i < ds.length
  · refine .inr ⟨wk.go i B2 H sB L.gr.sub hlt, fun H' => ∃ B o xs acc, Same B1 B ∧ B p = none ∧ H' p = some (dNO p o) ∧ DctV X.K B p o xs acc ∧ acc.length ≤ i + 1 ∧ Lay X.K W B H' σ ρ ∧ P (i + 1) acc,
      fun H' hN => ⟨ds.length - (i + 1), by omega, rfl, hlt, hN⟩, fun x H' hy => ?_⟩
    obtain ⟨d, B3, hd, s3, L3, Dx, kp, kn⟩ := wk.yld i B2 H x H' W σ ρ sB L hy hlt
    have hp3 : H' p = some (dNO p o) := kp _ _ hpv
    have bp3 : B3 p = none := kn p _ hpv bp
    obtain ⟨ys, hdec, ht⟩ := turn i d acc hd hPi hal
    have L4 : Lay X.K ⟨W.T, W.ns, B3, H'⟩ B3 H' (wipe σ js) (disown (wipeZ ρ js)) := Lay.loan (W := W) (L3.wipes js)
    refine gz B3 H' (wipe σ js) x d ys _ L4.gr.sub Dx hdec fun us hus => ⟨wipe_setV _ _ _, ?_⟩
    have L5 := L4.sets (js := js) hus
    -- behind the block's code
    have back : ∀ {B4 H4 : Hp} {σ4 : L2.St} {ρ4 : List Sl}, Lay X.K ⟨W.T, W.ns, B3, H'⟩ B4 H4 σ4 ρ4 → Same B3 B4 ∧ Lay X.K W B4 H4 σ ρ ∧ B4 p = none ∧ H4 p = some (dNO p o) := fun {B4 H4 σ4 ρ4} L6 => by
      obtain ⟨s, L7⟩ := L3.called (.inr ⟨rfl, rfl⟩) L6.gr
      exact ⟨s, L7, L6.gr.new p (by show H' p ≠ none; rw [hp3]; exact fun z => by cases z) bp3, L6.gr.keep p _ hp3 (by show W.T ≠ some p; exact hT)⟩
    refine ttYes (K := X.K) (T := W.T) (R := fun b => b = true) rfl ⟨W.T, W.ns, B3, H'⟩ rfl _ _ _ _ L5 fun kk H4 B4 s4 L5' hkk => ?_
    subst hkk
    rw [if_pos rfl]
    refine ht ⟨W.T, W.ns, B3, H'⟩ rfl _ _ _ _ L5' fun y H4 B4 dy s4 L6 Dy hq => ?_
    refine hq ⟨W.T, W.ns, B3, H'⟩ rfl _ _ _ _ L6 fun z H5 B5 dz s5 L7 Dz hz => ?_
    obtain ⟨ky, hk, hP'⟩ := hz
    obtain ⟨s6, L8, b8, h8⟩ := back L7
    have Dy5 := dpMono s5 _ _ Dy
    obtain ⟨q, eq⟩ := key_ref hk.2.2.1 hk.2.1 (by rw [← hk.1]; exact Dy5)
    subst eq
    have da5 := dctMono (s3.trans s6) da
    have key := hk.2.2
    refine ⟨o, xs, acc, ky, q, dz, ⟨h8, dctMono L8.gr.sub da5, rfl, key, by rw [← hk.1]; exact dpMono L8.gr.sub _ _ Dy5⟩, by omega, dpMono L8.gr.sub _ _ Dz, fun o2 r rv n => ?_⟩
    have hlen2 := pN_len acc ky dz
    exact ⟨B5, o2, _, pN acc ky dz, (sB.trans s3).trans s6, b8, upd_same, n.put da5 key (by rw [← hk.1]; exact Dy5) rv Dz, by omega, L8.other _ b8 h0 own0, hP'⟩
  · have ei : i = ds.length := by omega
    subst ei
    exact .inl ⟨wk.stop B2 H sB L.gr.sub, k p o xs H B2 acc (s1.trans sB) L bp h0 own0 hpv da (fin acc hPi hal)⟩
/-- y = {k: v for x in iter}, keys tuples of numbers, y a plain local -/
theorem es_dcN (i : Nat) {y : Str} {py spos : Pos} {kx vx tg iter : Expr} {scope : Scope} {own : List (Str × Nat)} {g : TG} {js : List Nat} {dec : PyData → Option (List PyData)} (gz : GgZ X.K g js dec) (hg : ∀ (s : Shared) (H : Hp) (C : Addr) (cl : List (Str × Addr)) (fp : List Addr), PG (X.blk s H scope (compEnvC scope cl C X.env) fp) tg g)
    (hu : X.A.units + 8 < cLine) (hc : X.calm = true) (nd : X.N.Nodup) (ok : BlkOk X.N X.env.scope scope own) (ej : own.map (·.2) = js)
    (h : Ei X W tg iter ρ fun ds => ds.length < sizeLine ∧ ∃ P : Nat → List (NestedKey × PyData) → Prop, P 0 [] ∧ (∀ i d acc, ds[i]? = some d → P i acc → acc.length ≤ i → ∃ xs, dec d = some xs ∧
      ∀ Y, Blk X scope Y → ∀ W' : Wd, W'.T = W.T → Ev Y W' kx (setZ (disown (wipeZ ρ js)) js xs) fun y => ∀ Y, Blk X scope Y → ∀ W' : Wd, W'.T = W.T → Ev Y W' vx (setZ (disown (wipeZ ρ js)) js xs) fun z => ∃ k, KeyD y k ∧ P (i + 1) (pN acc k z)) ∧ ∀ acc, P ds.length acc → acc.length ≤ ds.length → D.nx (ρ.set i (.dct acc)))
    (hsw : swapsWith (.DictComp kx vx [⟨tg, iter, [], 0⟩] scope pos) (some (.Name y py)) spos.line X.env = pure true) (hy : X.N[i]? = some y := by rfl) (hyl : X.env.scope.names.lookup y = some .local := by rfl)
    (hs : ∀ x, foldedSetIterable iter X.env x = pure x := by intro _; rfl) : Es X W (.Assign [.Name y py] (.DictComp kx vx [⟨tg, iter, [], 0⟩] scope pos) spos) ρ D := by
  subst ej
  refine ⟨fun σ H B L => (ps_setDcN hu hc nd hy hyl hsw pi_w ok hg (fun _ _ _ _ _ => pts_nil) (fun _ _ _ _ _ => blkE) (fun _ _ _ _ _ => blkE) hs).toZ ?_⟩
  refine dcN_run gz (R := fun kvs => D.nx (ρ.set i (.dct kvs))) ⟨fun σ H B Q L k => Ei.run h σ H B Q L fun J H' B' ds s L' wk ⟨hl, P, p0, turn, fin⟩ => k J H' B' ds s L' wk ⟨hl, P, p0, fun i d acc h1 h2 h3 => ?_, fin⟩⟩ L fun p o xs H' B' kvs s L' h1 h2 h3 h4 h5 r => ⟨B', _, s, L'.ownN h1 h2 h3 h4 h5, r⟩
  obtain ⟨xs, e1, e2⟩ := turn i d acc h1 h2 h3
  refine ⟨xs, e1, ?_⟩
  exact teZ fun Y hY W' hW => (e2 Y hY W' hW).imp fun y hy => teZ hy
end
end Z
/-! ### sorted(t) of a tuple -/
namespace PyProof.Rows
open PySem
section
variable {prog : Program} {w : World} {A : Around} {E : Value → Shared → Prop} {s : Shared}
theorem collect_tupleZ {l : Addr} {vs : List Value} {Q : List Value → Shared → Prop} (hl : s.heap.IsTuple l vs.toArray)
    (h : Q vs { s with heap := (s.heap.push (seqObj "list" #[] 0)).update s.heap.objs.size (Obj.mapSeq (· ++ vs.toArray)) }) (hsz : vs.length ≤ sizeLine := by size_fits) :
    wpAny (model prog w) A (collect (.ref l)) Q E s := by
  obtain ⟨o, ho, hc, n, hd⟩ := id hl
  unfold collect
  refine wpAny_bind (wpAny_runValue (codeAny_builtin entry_proto_collect' ?_))
  show wpAny _ _ (do again (.builtin "list.__iadd__" ⟨[← newList [], .ref l], []⟩)) _ _ s
  refine wpAny_bind (wpAny_newList (wpAny_pure ⟨Code.quiet_builtin _ (by decide +kernel), codeAny_builtin entry_list_iadd' ?_⟩))
  show wpAny _ _ (Builtin.List.listExtendWith (.ref s.heap.objs.size) (.ref l) (.ref s.heap.objs.size)) _ _ { s with heap := s.heap.push (seqObj "list" #[] 0) }
  unfold Builtin.List.listExtendWith
  have ho' : (s.heap.push (seqObj "list" #[] 0)).get? l = some o := Heap.get?_push_of_some _ ho
  refine wpAny_bind (wpAny_typeOf (T := "tuple") ⟨o, ho', hc⟩ ?_)
  have ht : (Value.type "tuple" == Value.type "tuple") = true := by rfl
  rw [if_pos (by rw [ht]; simp)]
  refine wpAny_bind (listItems_at ho' hd ?_)
  refine wpAny_bind (listItems_at (xs := #[]) (n := 0) (Heap.get?_push_size _ rfl) rfl ?_)
  rw [if_neg (by simp)]
  refine wpAny_bind (listUpdate_at (xs := #[]) (n := 0) (Heap.get?_push_size _ rfl) rfl ?_ (Nat.zero_le _) (by show (#[] ++ vs.toArray).size ≤ sizeLine + 1; simp only [Array.size_append, List.size_toArray, List.length_nil]; omega))
  refine wpAny_pure ?_
  show wpAny (model prog w) A (do
      let o ← load s.heap.objs.size
      match o.data with
      | .seq xs _ => pure xs.toList
      | _ => unsupported "internal:collect") Q E { s with heap := (s.heap.push (seqObj "list" #[] 0)).update s.heap.objs.size (Obj.mapSeq (· ++ vs.toArray)) }
  refine wpAny_bind (wpAny_load (get?_update_seq (Heap.get?_push_size _ rfl) _) ?_)
  show wpAny _ _ (pure ((#[] : Array Value) ++ vs.toArray).toList) Q E _
  rw [show ((#[] : Array Value) ++ vs.toArray).toList = vs by simp]
  exact wpAny_pure h
end
end PyProof.Rows
namespace SrtO
open PySem PySem.Spec PyProof.Rows
section
variable {prog : Program} {w : World} {A : Around} {E : Value → Shared → Prop} {s : Shared}
theorem sorted_ordT {l : Addr} {vs : List Value} {ltv : Value → Value → Bool} {Q : Value → Shared → Prop} (O : Swo ltv) (hl : s.heap.IsTuple l vs.toArray) (hz : vs.length ≤ sizeLine)
    (hS : 2 ≤ vs.length → ∀ (h₁ : Heap) (a : Addr), h₁.get? a = some (seqObj "list" vs.toArray 0) → (∀ b o, s.heap.get? b = some o → b ≠ a ∧ h₁.get? b = some o) → SortableO prog w A.in1.in1 { s with heap := h₁ } a vs ltv)
    (h : ∀ out : List Value, Srtd ltv out → Stb ltv out vs → Q (.ref (s.heap.objs.size + 1)) { s with heap := sortedAll s.heap vs out.toArray }) :
    wpAny (model prog w) A (call (.builtin "sorted") [.ref l]) Q E s := by
  refine Calls.call_function_entry kind_sorted plain_sorted entry_sorted (args_sorted1 _) ?_
  unfold Builtin.«sorted»
  refine wpAny_bind (m := checkCount "sorted" 1 1 _) (wpAny_pure ?_)
  refine wpAny_bind (collect_tupleZ hl ?_ hz)
  refine wpAny_bind (wpAny_newList ?_ hz)
  have hsz : ((s.heap.push (seqObj "list" #[] 0)).update s.heap.objs.size (Obj.mapSeq (· ++ vs.toArray))).objs.size = s.heap.objs.size + 1 := by
    rw [Heap.size_update, size_push']
  have hoL : (((s.heap.push (seqObj "list" #[] 0)).update s.heap.objs.size (Obj.mapSeq (· ++ vs.toArray))).push (seqObj "list" vs.toArray 0)).get? (s.heap.objs.size + 1) = some (seqObj "list" vs.toArray 0) := by
    rw [← hsz]; exact Heap.get?_push_size _ rfl
  have keep : ∀ b o, s.heap.get? b = some o → b ≠ s.heap.objs.size + 1 ∧ (((s.heap.push (seqObj "list" #[] 0)).update s.heap.objs.size (Obj.mapSeq (· ++ vs.toArray))).push (seqObj "list" vs.toArray 0)).get? b = some o := fun b o q => by
    have hlt : b < s.heap.objs.size := Heap.lt_size q
    refine ⟨Nat.ne_of_lt (Nat.lt_succ_of_lt hlt), Heap.get?_push_of_some _ ?_⟩
    rw [Heap.get?_update_ne _ _ _ _ (Nat.ne_of_lt hlt)]
    exact Heap.get?_push_of_some _ q
  show wpAny _ _ _ _ _ { s with heap := ((s.heap.push (seqObj "list" #[] 0)).update s.heap.objs.size (Obj.mapSeq (· ++ vs.toArray))).push (seqObj "list" vs.toArray 0) }
  rw [hsz]
  refine wpAny_bind (wpAny_holding (wpAny_call_entry slot_list_sort ⟨_, hoL, rfl⟩ entry_list_sort (list_sort_ord O hoL hz (fun h2 => hS h2 _ _ hoL keep) fun out hs hb => ⟨_, rfl, ?_⟩) (args_list_sort _)))
  exact wpAny_pure ⟨_, rfl, h out hs hb⟩
end
end SrtO
namespace L2
open PySem PySem.Spec PyProof.Rows
def rSortedTupZ (K : PySem.W.Frag) : List V → Hp → VK → Prop := fun vs H Q => ∃ (a : Addr) (ns : List Int), vs = [V.ref a] ∧ SqT K H a (ns.map V.int) ∧
  ∀ (ns' : List Int) (p : Addr), ns'.Perm ns → ns'.Pairwise (· ≤ ·) → H p = none → Q (.ref p) (upd H p (.lst (ns'.map V.int)))
theorem cr_sortedTupZ {X : Cx} : CallR X (.builtin "sorted") (rSortedTupZ X.K) := by
  intro pins s σ H vs us Q I r h
  obtain ⟨a, ns, rfl, hs, q⟩ := h
  obtain ⟨its, rv, hl, hz⟩ := I.tuple hs
  rw [Vals.ref1 r]
  have hi := rv.ints
  refine SrtO.sorted_ordT SrtO.swo_int (show s.heap.IsTuple a its.toArray from hl) (by rw [← rv.length]; exact hz) (fun h2 h₁ a' _ _ => SrtO.ints_sortable hi h2) fun out h1 h2 => ?_
  obtain ⟨k1, k2, k3⟩ := SrtO.ints_out hi h1 h2
  obtain ⟨ep, he'⟩ := PyProof.Rows.sortedAll_at s.heap its out.toArray
  have hlen : ((out.map SrtO.iv).map V.int).length ≤ sizeLine := by
    rw [List.length_map, k2.length_eq]
    rw [List.length_map] at hz
    exact hz
  exact ⟨.ref _, upd H (s.heap.objs.size + 1) (.lst ((out.map SrtO.iv).map V.int)), I.laid (t' := s.toks) (fun _ _ => PyProof.Rows.sortedAll_old) (Nat.le_succ _) ⟨hlen, out, ep, vals_of_ints k1, he'⟩, rfl, q _ _ k2 k3 (I.hok.fresh (Nat.le_succ _))⟩
end L2
namespace Z
open PySem PySem.Spec PyProof.Rows L2
section
variable {X : Cx} {W : Wd} {ρ : List Sl} {D : Dz} {R : PyData → Prop} {pos : Pos} {a b c e : Expr} {es : List Expr}
/-- sorted(t), t a tuple of ints -/
theorem el_sortedT {p : Pos} {R : List PyData → Prop} (hm : X.mg "sorted" = none) (h : Ev X W a ρ fun d => ∃ ns : List Int, d = .tuple (ns.map PyData.int) ∧ ∀ ms : List Int, ms.Perm ns → ms.Pairwise (· ≤ ·) → R (ms.map PyData.int)) (hg : Gl X "sorted" := by rfl)
    (he : starEach [a] X.env = (false, eval a X.env) :: starEach [] X.env := by rfl) (hpl : (backTo pos (starEach [] X.env)).any (·.1) = false := by rfl) : El X W (.Call (.Name "sorted" p) [a] [] pos) ρ R := by
  refine ⟨fun σ H B Q L k => (pe_callB cr_sortedTupZ hg hm boot_sorted (pa_cons pe_w pa_nil he) (by decide) (by decide) he hpl).toZ ?_⟩
  refine h.run σ H B _ L fun v H1 B1 d s1 L1 D1 h2 => ?_
  obtain ⟨ns, rfl, h3⟩ := h2
  obtain ⟨q, vs, rfl, h5, h6⟩ := dp_tup D1
  cases dq_ints h6
  refine ⟨q, ns, rfl, seqT L1.gr.sub h5, fun ms p k1 k2 hp => ?_⟩
  obtain ⟨L', q1, q2, q3, q4⟩ := fresh_own L1 hp (ms.map PyData.int) (ms.map V.int) (ints_dq ms)
  exact k p _ _ B1 _ s1 L' q1 q2 q3 q4 (ints_dq ms) (h3 ms k1 k2)
/-- tuple(range(n)) -/
theorem ev_tupR1 {p p2 q : Pos} (hc : X.calm = true) (hm : X.mg "tuple" = none) (hm2 : X.mg "range" = none)
    (h : Ev X W a ρ fun d => match d with | .int n => (0 ≤ n ∧ n ≤ 1000000) ∧ R (.tuple (rngD 0 n.toNat)) | _ => False) (hg : Gl X "tuple" := by rfl) (hg2 : Gl X "range" := by rfl)
    (na : starEach [a] X.env = (false, eval a X.env) :: starEach [] X.env := by rfl)
    (n2 : (starEach [.Call (.Name "range" p2) [a] [] q] X.env) = (false, eval (.Call (.Name "range" p2) [a] [] q) X.env) :: starEach [] X.env := by rfl) :
    Ev X W (.Call (.Name "tuple" p) [.Call (.Name "range" p2) [a] [] q] [] pos) ρ R := by
  refine ⟨fun σ H B Q L k => (pe_tupRg hc hg hm (prg_1 hg2 hm2 pe_w na) n2).toZ ?_⟩
  refine h.run σ H B _ L fun v H1 B1 d s1 L1 D1 h2 => ?_
  cases d <;> first | exact h2.elim | skip
  rename_i n
  cases dp_int D1
  obtain ⟨⟨n0, n1⟩, h3⟩ := h2
  refine ⟨n, rfl, ⟨by decide, by decide, by omega, by omega, by omega⟩, fun p hp => ?_⟩
  have hd : DqAll X.K B1 (rgV 0 n) (rngD 0 n.toNat) := by
    have := rgV_dq (K := X.K) (B := B1) 0 n
    rw [Int.sub_zero] at this
    exact this
  obtain ⟨s, L'⟩ := L1.fresh hp (.tup (rgV 0 n))
  exact k _ _ _ _ (s1.trans s) L' (.tup (SqT.of upd_same) (dpAllMono s _ _ hd)) h3
end
/-! ### {k: v} -/
theorem wpAny_Dict_walkN {prog : Program} {w : World} {K : Type} [DecidableEq K] {knd : HeapKind prog w K} {A : Around} {E : Value → Shared → Prop} {s : Shared} {env : Env} {keys : List (Option Expr)} {values : List Expr} {pos : Pos} {Q : Value → Shared → Prop} (hu : knd.room A)
    (hall : keys.all (·.isSome) = true) (hl : keys.length = values.length) (h0 : keys ≠ []) (hlen : keys.length ≤ 15)
    (h : wpAny (model prog w) A (evalPairs (pairTrees keys values env pos)) (fun vs s₁ => ∃ ps, CarriesH knd s₁.heap vs ps ∧ s₁.heap.DictOfH knd s.heap.objs.size [] ∧
      ∀ h' tk, h'.DictOfH knd s.heap.objs.size (storedAllH [] ps) → Heap.SameBut s.heap.objs.size s₁.heap h' → Q (.ref s.heap.objs.size) { s₁ with heap := h', toks := tk }) E
      { s with heap := s.heap.push { cls := .type "dict", data := .dict #[] } }) :
    wpAny (model prog w) A (eval (.Dict keys values pos) env) Q E s := by
  have hn := pairTrees_length keys values env pos hall hl
  have hp0 : pairTrees keys values env pos ≠ [] := fun he => by
    rw [he] at hn
    exact h0 (List.length_eq_zero_iff.mp hn.symm)
  have hpl : (pairTrees keys values env pos).length ≤ 15 := by rw [hn]; exact hlen
  rw [arm_eval_Dict, zip_pairTrees keys values env pos hall hl, dictDisplay_pairs _ hp0 (by omega)]
  exact wpAny_bind (wpAny_standAt (wpAny_bind (wpAny_subDictH (knd := knd) (Q := fun d s' => wpAny (model prog w) A (pure (Value.ref d)) Q E s') hu hpl
    (wpAny_mono h (fun vs s₁ h₁ => by obtain ⟨ps, hc, hm, hq⟩ := h₁; exact ⟨ps, hc, hm, fun h' tk a b => wpAny_pure (hq h' tk a b)⟩) fun _ _ e => e))))
section
variable {X : Cx} {W : Wd} {ρ : List Sl} {D : Dz} {R : PyData → Prop} {pos : Pos} {a b c e : Expr} {es : List Expr} {st : Stmt} {sts : List Stmt}
def tDisp1 (X : Cx) (tk tv : TE) : TE := fun σ H Q => ∀ p o0, H p = none → (∀ B, DctV X.K B p o0 [] []) → tk σ (upd H p (dNO p o0)) fun y H1 => tv σ H1 fun z H2 => H2 p = some (dNO p o0) ∧ ∃ k b d, y = .ref b ∧ (intK k = true ∧ k.depth ≤ 8) ∧ Dq X.K H2 (.ref b) k.data ∧ Dq X.K H2 z d ∧ ∀ o' r, RelV z r → ObjN o' (storedH [] k b r) → Q (.ref p) (upd H2 p (dNO p o'))
theorem pe_disp1 {tk tv : TE} (hu : X.A.units + 8 < cLine) (hk : PE X a tk) (hv : PE X b tv) : PE X (.Dict [some a] [b] pos) (tDisp1 X tk tv) := by
  refine ⟨fun pins s σ H Q I q => ?_⟩
  have hn := I.hok.fresh (Nat.le_refl s.heap.objs.size)
  have nil : ∀ B, DctV X.K B s.heap.objs.size { cls := .type "dict", data := .dict #[] } [] [] := fun B => dct_nil ⟨rfl, rfl, rfl⟩ ⟨_, rfl⟩ (beq_eq_false_iff_ne.mpr (Ne.symm (Nat.ne_of_lt I.big)))
  have I1 := I.laid (a := s.heap.objs.size) (o := dNO s.heap.objs.size { cls := .type "dict", data := .dict #[] }) (h' := s.heap.push { cls := .type "dict", data := .dict #[] }) (t' := s.toks) (fun _ _ q => Heap.get?_push_of_some _ q) (Nat.le_refl _) (dct_ok (Heap.get?_push_size _ rfl))
  refine wpAny_Dict_walkN (knd := nestedKind X.prog X.w) hu rfl rfl (by simp) (by simp) (thn ((pps_cons (pos := pos) hk hv pps_nil).run pins _ σ _ (fun ps H2 => match ps with
    | [(y, z)] => H2 s.heap.objs.size = some (dNO s.heap.objs.size { cls := .type "dict", data := .dict #[] }) ∧ ∃ k b d, y = .ref b ∧ (intK k = true ∧ k.depth ≤ 8) ∧ Dq X.K H2 (.ref b) k.data ∧ Dq X.K H2 z d ∧ ∀ o' r, RelV z r → ObjN o' (storedH [] k b r) → Q (.ref s.heap.objs.size) (upd H2 s.heap.objs.size (dNO s.heap.objs.size o'))
    | _ => False) I1 (q s.heap.objs.size _ hn nil)) fun ws s2 ⟨ps, H2, I2, rel, q2⟩ => ?_)
  match ps, rel, q2 with
  | [(y, z)], .cons (b := w0) h1 .nil, ⟨e, k, b, d, ey, key, dk, dz, q3⟩ =>
    subst ey
    obtain ⟨u, r⟩ := w0
    obtain rfl : u = Value.ref b := h1.1
    have g : NGet X.K H2 s.heap.objs.size { cls := .type "dict", data := .dict #[] } (.ref b) [] [] k b := ⟨e, nil H2, rfl, key, dk⟩
    refine ⟨[(k, b, r)], ⟨rfl, rfl, dct_key I2 key dk, trivial⟩, dct_of I2 e (nil H2), fun h' tk' hd hs => ?_⟩
    obtain ⟨o', I3, n3⟩ := n_stored (t' := tk') I2 g h1.2 (show h'.DictOfH (nestedKind X.prog X.w) s.heap.objs.size (storedH [] k b r) from hd) hs dz
    exact ⟨.ref s.heap.objs.size, _, I3, rfl, q3 o' r h1.2 n3⟩
/-- x = {(): ()} -/
theorem es_dct1 (i : Nat) {x : Str} {pos' dp p1 p2 : Pos} {k1 k2} (hu : X.A.units + 8 < cLine) (h : D.nx (ρ.set i (.dct [(.tup [], .tuple [])]))) (hN : X.N.Nodup) (hi : X.N[i]? = some x := by rfl) (hx : Loc X.env.scope x := by first | exact .inl rfl | exact .inr rfl) (hs : swapsWith (.Dict [some (.Tuple [] k1 p1)] [.Tuple [] k2 p2] dp) (some (.Name x pos')) pos.line X.env = pure false := by rfl)
    (hf : X.fn x = true ∨ X.env.scope.names.lookup x = some .local := by first | exact .inl rfl | exact .inr rfl | assumption) : Es X W (.Assign [.Name x pos'] (.Dict [some (.Tuple [] k1 p1)] [.Tuple [] k2 p2] dp) pos) ρ D := by
  refine ⟨fun σ H B L => (ps_set hN hi hx (pe_disp1 hu (pe_tup pa_nil) (pe_tup pa_nil)) hs hf).toZ fun p o0 hp nil => ?_⟩
  obtain ⟨L1, b0, h0, own0, e0⟩ := fresh_any L hp (dNO p o0)
  refine ⟨Nat.zero_le _, fun q hq => ⟨Nat.zero_le _, fun r hr => ?_⟩⟩
  obtain ⟨s2, L2⟩ := L1.fresh hq (.tup [])
  obtain ⟨s3, L3⟩ := L2.fresh hr (.tup [])
  have pq : p ≠ q := ne_of_none e0 hq
  have pr : p ≠ r := ne_of_none (by rw [upd_ne pq]; exact e0) hr
  have qr : q ≠ r := ne_of_none upd_same hr
  have b3 : (upd (upd B q (.tup [])) r (.tup [])) p = none := by rw [upd_ne pr, upd_ne pq]; exact b0
  have dq : Dq X.K (upd (upd B q (.tup [])) r (.tup [])) (.ref q) (.tuple []) := .tup (SqT.of (by rw [upd_ne qr]; exact upd_same)) .nil
  have dr : Dq X.K (upd (upd B q (.tup [])) r (.tup [])) (.ref r) (.tuple []) := .tup (SqT.of upd_same) .nil
  refine ⟨by rw [upd_ne pr, upd_ne pq]; exact e0, .tup [], q, .tuple [], rfl, ⟨rfl, by decide⟩, dpMono L3.gr.sub _ _ dq, dpMono L3.gr.sub _ _ dr, fun o' rv hrv n => ?_⟩
  have dv := n.put (K := X.K) (a := p) (nil (upd (upd B q (.tup [])) r (.tup []))) (k := .tup []) (b := q) (v := .ref r) (d := .tuple []) ⟨rfl, by decide⟩ dq hrv dr
  exact ⟨_, _, s2.trans s3, (L3.other (dNO p o') b3 h0 own0).ownN b3 h0 own0 upd_same dv, h⟩
end
/-! ### defs that give such a dict -/
def ConD (K : PySem.W.Frag) (P : List PyData → (List (NestedKey × PyData) → Prop) → Prop) : Sp := fun vs H Q _ => ∃ B ds R, Same B H ∧ DqAll K B vs ds ∧ P ds R ∧ ∀ a o xs H' B' kvs, Gr K ⟨none, (0, []), B, H⟩ B' H' → B' a = some (dNO a o) → DctV K B' a o xs kvs → R kvs → Q (.ref a) H'
def DeD (K : PySem.W.Frag) (W : Wd) (R : List (NestedKey × PyData) → Prop) : Ends where
  nx := fun _ _ => False
  rt := fun v H => ∃ B a o xs kvs, v = .ref a ∧ Gr K W B H ∧ B a = some (dNO a o) ∧ DctV K B a o xs kvs ∧ R kvs
structure EsD (X : Cx) (W : Wd) (sts : List Stmt) (ρ : List Sl) (R : List (NestedKey × PyData) → Prop) : Prop where
  run : ∀ (σ : L2.St) (H B : Hp), Lay X.K W B H σ ρ → tWss X sts (DeD X.K W R) σ H
section
variable {X : Cx} {W : Wd} {ρ : List Sl} {R : List (NestedKey × PyData) → Prop} {pos : Pos} {e : Expr} {es : List Expr} {st : Stmt} {sts : List Stmt}
theorem esd_cons (h : Es X W st ρ { nx := fun r => EsD X W sts r R, rt := fun _ => False }) : EsD X W (st :: sts) ρ R := by
  refine ⟨fun σ H B L => (pss_cons ps_w pss_w).toZ ?_⟩
  show tWs X st { DeD X.K W R with nx := fun σ' H' => tWss X sts (DeD X.K W R) σ' H' } σ H
  intro pins s I
  refine thn (h.run σ H B L pins s I) fun f s' q => ?_
  cases f with
  | next => obtain ⟨σ', H', I', B', ρ', s0, L', q⟩ := q; exact ⟨σ', H', I', q.run σ' H' B' L'⟩
  | brk => obtain ⟨σ', H', I', B', ρ', s0, L', q⟩ := q; exact q.elim
  | cont => obtain ⟨σ', H', I', B', ρ', s0, L', q⟩ := q; exact q.elim
  | ret u => obtain ⟨v, σ', H', I', r, B', d, g, Dv, rr⟩ := q; exact rr.elim
theorem esd_cut (Mid : List Sl → Prop) (h : Es X W st ρ { nx := Mid, rt := fun _ => False }) (h2 : ∀ r, Mid r → EsD X W sts r R) : EsD X W (st :: sts) ρ R := by
  refine esd_cons ⟨fun σ H B L pins s I => thn (h.run σ H B L pins s I) fun f s' q => ?_⟩
  cases f with
  | next => obtain ⟨σ', H', I', B', ρ', s0, L', q⟩ := q; exact ⟨σ', H', I', B', ρ', s0, L', h2 _ q⟩
  | brk => exact q
  | cont => exact q
  | ret u => exact q
theorem esd_weak (ρ' : List Sl) (w : Wk ρ' ρ) (h : EsD X W sts ρ' R) : EsD X W sts ρ R := ⟨fun σ H B L => h.run σ H B (L.weak w)⟩
/-- return x, x a dict of the frame's own -/
theorem esd_ret (i : Nat) {x : Str} {px : Pos} {kvs : List (NestedKey × PyData)} (hρ : ρ[i]? = some (.dct kvs)) (h : R kvs) (hN : X.N[i]? = some x := by rfl)
    (hv : Vis X.env.scope x := by first | exact Or.inl rfl | exact Or.inr (Or.inl rfl) | exact Or.inr (Or.inr rfl)) (hd : (x == ("__debug__" : Str)) = false := by decide) (hcd : (x == ("__classdict__" : Str)) = false := by decide) : EsD X W [.Return (some (.Name x px)) pos] ρ R := by
  refine ⟨fun σ H B L => (pss_one (ps_ret (pe_var hN hv hd hcd))).toZ (D := DeD X.K W R) ?_⟩
  obtain ⟨B', s, L'⟩ := L.frzN hρ
  have hl : i < ρ.length := (List.getElem?_eq_some_iff.mp hρ).1
  obtain ⟨p, o, xs, e1, e2, e5⟩ := L'.at' i (.dcf kvs) (List.getElem?_set_self hl)
  exact ⟨.ref p, e1, B', p, o, xs, kvs, rfl, L'.gr, e2, e5, h⟩
theorem Lay.putF {B H : Hp} {σ : L2.St} (L : Lay X.K W B H σ ρ) {i : Nat} {a : Addr} {o : Obj} {xs : List (NestedKey × Addr × Value)} {kvs : List (NestedKey × PyData)} (h1 : B a = some (dNO a o)) (h2 : DctV X.K B a o xs kvs) : Lay X.K W B H (σ.set i (some (.ref a))) (ρ.set i (.dcf kvs)) := by
  refine ⟨L.gr, by simp [L.len], fun j sl' e => ?_, fun j k s t hne e1 e2 o1 o2 => ?_⟩
  · by_cases hj : i = j
    · subst hj
      have hl : i < ρ.length := by
        have := (List.getElem?_eq_some_iff.mp e).1
        simpa using this
      rw [List.getElem?_set_self hl] at e
      cases e
      rw [List.getElem?_set_self (by rw [L.len]; exact hl)]
      exact ⟨a, o, xs, rfl, h1, h2⟩
    · rw [List.getElem?_set_ne hj] at e ⊢
      exact L.at' j sl' e
  · have nn : ∀ (j : Nat) (s : Sl), (ρ.set i (.dcf kvs))[j]? = some s → s.ow = true → i ≠ j := fun j s e o z => by
      subst z
      have hl : i < ρ.length := by
        have := (List.getElem?_eq_some_iff.mp e).1
        simpa using this
      rw [List.getElem?_set_self hl] at e
      cases e
      cases o
    have n1 := nn j s e1 o1
    have n2 := nn k t e2 o2
    rw [List.getElem?_set_ne n1] at e1 ⊢
    rw [List.getElem?_set_ne n2] at e2 ⊢
    exact L.dis j k s t hne e1 e2 o1 o2
/-- x = f(e, ..), f giving a dict -/
theorem es_callN (i : Nat) {f : Addr} {fd : FuncData} {ps : List Str} {k : Nat} {x y : Str} {p pos' cp : Pos} {D : Dz} {P : List PyData → (List (NestedKey × PyData) → Prop) → Prop} (F : FnOk X.prog X.w X.K X.mg X.base CX0 k f fd ps (ConD X.K P)) (hr : Room k X.A) (hm : X.mg y = some (.ref f))
    (hk : PySem.W.keepIn X.K (.ref f) = true) (hb : Binds X.K fd ps []) (h : Ea X W (e :: es) ρ fun ds => P ds fun kvs => D.nx (ρ.set i (.dcf kvs))) (hN : X.N.Nodup) (hi : X.N[i]? = some x := by rfl) (hx : Loc X.env.scope x := by first | exact .inl rfl | exact .inr rfl) (hg : Gl X y := by rfl)
    (hsw : swapsWith (.Call (.Name y p) (e :: es) [] cp) (some (.Name x pos')) pos.line X.env = pure false := by rfl) (hf : X.fn x = true ∨ X.env.scope.names.lookup x = some .local := by first | exact .inl rfl | exact .inr rfl | assumption)
    (hs : starEach (e :: es) X.env = (false, eval e X.env) :: starEach es X.env := by rfl) (hpl : (backTo cp (starEach es X.env)).any (·.1) = false := by rfl) (hdb : (y == ("__debug__" : Str)) = false := by decide) : Es X W (.Assign [.Name x pos'] (.Call (.Name y p) (e :: es) [] cp) pos) ρ D := by
  refine ⟨fun σ H B L => (ps_set hN hi hx (pe_call F hr hg hm hk hb .nil pass0 pa_w hdb hs hpl) hsw hf).toZ ?_⟩
  refine h.run σ H B _ L fun vs H1 B1 ds s1 L1 D1 h2 => ?_
  show ConD X.K P (vs ++ []) H1 _ _
  rw [List.append_nil]
  refine ⟨B1, ds, _, L1.gr.sub, D1, h2, fun a o xs H' B' kvs g e1 dv r => ?_⟩
  obtain ⟨s, L'⟩ := L1.called (.inl rfl) g
  exact ⟨B', _, s1.trans s, L'.putF e1 dv, r⟩
end
theorem fn_conD {P : Program} {w : World} {K : PySem.W.Frag} {mg : Str → Option Value} {base : Heap} {x qual : Str} {st : Stmt} {f : Addr} {fd : FuncData} {N ps : List Str} {k : Nat} {P' : List PyData → (List (NestedKey × PyData) → Prop) → Prop} (F : Fun K x qual st f fd) (S : FnScope N ps (defScope st)) (len : ∀ ds R, P' ds R → ds.length = ps.length)
    (body : ∀ (cdv : Value) (A : Around) (outer : List Env) (s : Shared) (H : Hp) (E : XK) (W : Wd) (ds : List PyData) (R : List (NestedKey × PyData) → Prop), Room k (Bx P w K mg base N qual (defScope st) f cdv A outer s H E).A → P' ds R →
      EsD (Bx P w K mg base N qual (defScope st) f cdv A outer s H E) W (defBody st) (startZ N ds) R) : FnOk P w K mg base CX0 (k + 1) f fd ps (ConD K P') := by
  refine F.ok S (fun vs H Q E h => ?_) (fun cdv A outer s H vs Q E hr h => ?_)
  · obtain ⟨B, ds, R, _, h1, h2, _⟩ := h
    rw [dpAll_len h1]
    exact len ds R h2
  · obtain ⟨B, ds, R, sB, h1, h2, q⟩ := h
    refine ⟨_, pss_w, ?_⟩
    intro pins s0 I
    have L := start_lay (N := N) (T := none) (ns := (0, [])) sB (fun _ z => by cases z) h1
    refine thn ((body cdv A outer s H E ⟨none, (0, []), B, H⟩ ds R hr h2).run _ _ _ L pins s0 I) fun fl s' hs => ?_
    cases fl with
    | next => obtain ⟨σ', H', I', r⟩ := hs; exact r.elim
    | brk => obtain ⟨σ', H', I', r⟩ := hs; exact r.elim
    | cont => obtain ⟨σ', H', I', r⟩ := hs; exact r.elim
    | ret u => obtain ⟨v, σ', H', I', r, B', a, o, xs, kvs, rfl, g, e1, dv, rr⟩ := hs; exact ⟨_, σ', H', I', r, q a o xs H' B' kvs g e1 dv rr⟩
/-! ### how many different numbers -/
def insI (acc : List Int) (z : Int) : List Int := if z ∈ acc then acc else acc ++ [z]
def kvI (acc : List Int) : List (Key × V) := acc.map fun z => (.inl z, .bl true)
theorem valV_kvI (acc : List Int) (z : Int) : valV (kvI acc) (.inl z : Key) = if z ∈ acc then some (.bl true) else none := by
  induction acc with
  | nil => rfl
  | cons a as ih =>
    show valV ((.inl a, .bl true) :: kvI as) (.inl z : Key) = _
    by_cases h : a = z
    · subst h
      rw [valV_pos rfl, if_pos (by simp)]
    · rw [valV_neg (fun e => h (Sum.inl.inj e)), ih]
      have h2 : ¬ z = a := fun e => h e.symm
      simp [h2]
theorem putK_kvI (acc : List Int) (z : Int) : putK (kvI acc) (.inl z : Key) (.bl true) = kvI (insI acc z) := by
  unfold putK insI
  rw [valV_any, valV_kvI]
  by_cases h : z ∈ acc
  · rw [if_pos h, if_pos h]
    rw [if_pos (show (some (V.bl true)).isSome = true from rfl)]
    unfold kvI
    rw [List.map_map]
    refine List.map_congr_left fun a _ => ?_
    show (if (Sum.inl a : Key) = .inl z then ((Sum.inl a : Key), V.bl true) else (.inl a, .bl true)) = _
    split <;> rfl
  · rw [if_neg h, if_neg h]
    rw [if_neg (show ¬ ((none : Option V).isSome = true) by simp)]
    unfold kvI
    rw [List.map_append]
    rfl
theorem insI_len (acc : List Int) (z : Int) : (insI acc z).length ≤ acc.length + 1 := by
  unfold insI
  split
  · omega
  · rw [List.length_append, List.length_cons, List.length_nil]
    omega
section
variable {X : Cx} {W : Wd} {ρ : List Sl} {D : Dz} {pos : Pos} {a b c e : Expr} {es : List Expr}
theorem dcK_run {tg iter : Expr} {js : List Nat} {g : TG} {tk tv : TE} {dec : PyData → Option (List PyData)} (gz : GgZ X.K g js dec) {R : List Int → Prop}
    (h : Ei X W tg iter ρ fun ds => ds.length < sizeLine ∧ ∃ P : Nat → List Int → Prop, P 0 [] ∧ (∀ i d acc, ds[i]? = some d → P i acc → acc.length ≤ i → ∃ xs, dec d = some xs ∧
      TeZ X.K W.T tk (setZ (disown (wipeZ ρ js)) js xs) fun y => TeZ X.K W.T tv (setZ (disown (wipeZ ρ js)) js xs) fun z => ∃ n, y = .int n ∧ z = .bool true ∧ P (i + 1) (insI acc n)) ∧ ∀ acc, P ds.length acc → acc.length ≤ ds.length → R acc)
    {σ : L2.St} {H B : Hp} {Q : VK} (L : Lay X.K W B H σ ρ)
    (k : ∀ a H' B' acc, Same B B' → Lay X.K W B' H' σ ρ → H' a = some (.dK (kvI acc)) → R acc → Q (.ref a) H') :
    tDc (iW X tg iter) g tYes tk tv js σ H Q := by
  refine h.run σ H B _ L fun J H1 B1 ds s1 L1 wk hP p hp => ?_
  obtain ⟨hlen, P, p0, turn, fin⟩ := hP
  obtain ⟨L2', b0, h0, own0, e0⟩ := fresh_any L1 hp (.dK [])
  have hT : W.T ≠ some p := fun z => (L1.gr.tp p z).1 h0
  refine ⟨fun i m H => m = ds.length - i ∧ i ≤ ds.length ∧ ∃ B acc, Same B1 B ∧ B p = none ∧ H p = some (.dK (kvI acc)) ∧ acc.length ≤ i ∧ Lay X.K W B H σ ρ ∧ P i acc,
    ⟨_, rfl, Nat.zero_le _, B1, [], Same.refl _, b0, e0, Nat.le_refl _, L2', p0⟩, ?_⟩
  rintro i m H ⟨rfl, hi, B2, acc, sB, bp, hpv, hal, L, hPi⟩
  by_cases hlt : i < ds.length
  · refine .inr ⟨wk.go i B2 H sB L.gr.sub hlt, fun H' => ∃ B acc, Same B1 B ∧ B p = none ∧ H' p = some (.dK (kvI acc)) ∧ acc.length ≤ i + 1 ∧ Lay X.K W B H' σ ρ ∧ P (i + 1) acc,
      fun H' hN => ⟨ds.length - (i + 1), by omega, rfl, hlt, hN⟩, fun x H' hy => ?_⟩
    obtain ⟨d, B3, hd, s3, L3, Dx, kp, kn⟩ := wk.yld i B2 H x H' W σ ρ sB L hy hlt
    have hp3 : H' p = some (.dK (kvI acc)) := kp _ _ hpv
    have bp3 : B3 p = none := kn p _ hpv bp
    obtain ⟨ys, hdec, ht⟩ := turn i d acc hd hPi hal
    have L4 : Lay X.K ⟨W.T, W.ns, B3, H'⟩ B3 H' (wipe σ js) (disown (wipeZ ρ js)) := Lay.loan (W := W) (L3.wipes js)
    refine gz B3 H' (wipe σ js) x d ys _ L4.gr.sub Dx hdec fun us hus => ⟨wipe_setV _ _ _, ?_⟩
    have L5 := L4.sets (js := js) hus
    have back : ∀ {B4 H4 : Hp} {σ4 : L2.St} {ρ4 : List Sl}, Lay X.K ⟨W.T, W.ns, B3, H'⟩ B4 H4 σ4 ρ4 → Same B3 B4 ∧ Lay X.K W B4 H4 σ ρ ∧ B4 p = none ∧ H4 p = some (.dK (kvI acc)) := fun {B4 H4 σ4 ρ4} L6 => by
      obtain ⟨s, L7⟩ := L3.called (.inr ⟨rfl, rfl⟩) L6.gr
      exact ⟨s, L7, L6.gr.new p (by show H' p ≠ none; rw [hp3]; exact fun z => by cases z) bp3, L6.gr.keep p _ hp3 (by show W.T ≠ some p; exact hT)⟩
    refine ttYes (K := X.K) (T := W.T) (R := fun b => b = true) rfl ⟨W.T, W.ns, B3, H'⟩ rfl _ _ _ _ L5 fun kk H4 B4 s4 L5' hkk => ?_
    subst hkk
    rw [if_pos rfl]
    refine ht ⟨W.T, W.ns, B3, H'⟩ rfl _ _ _ _ L5' fun y H4 B4 dy s4 L6 Dy hq => ?_
    refine hq ⟨W.T, W.ns, B3, H'⟩ rfl _ _ _ _ L6 fun z H5 B5 dz s5 L7 Dz hz => ?_
    obtain ⟨n, rfl, rfl, hP'⟩ := hz
    obtain ⟨s6, L8, b8, h8⟩ := back L7
    cases dp_int Dy
    cases dp_bool Dz
    have hlen2 := insI_len acc n
    refine ⟨kvI acc, .inl n, rfl, h8, by unfold kvI; rw [List.length_map]; omega, B5, insI acc n, (sB.trans s3).trans s6, b8, ?_, by omega, L8.other _ b8 h0 own0, hP'⟩
    rw [putK_kvI, upd_same]
  · have ei : i = ds.length := by omega
    subst ei
    exact .inl ⟨wk.stop B2 H sB L.gr.sub, k p H B2 acc (s1.trans sB) L hpv (fin acc hPi hal)⟩
/-- len({k: True for x in iter}), keys numbers -/
theorem ev_lenDc {p : Pos} {dpos : Pos} {kx vx tg iter : Expr} {scope : Scope} {own : List (Str × Nat)} {g : TG} {js : List Nat} {dec : PyData → Option (List PyData)} {R : PyData → Prop} (gz : GgZ X.K g js dec) (hg : ∀ (s : Shared) (H : Hp) (C : Addr) (cl : List (Str × Addr)) (fp : List Addr), PG (X.blk s H scope (compEnvC scope cl C X.env) fp) tg g)
    (hc : X.calm = true) (nd : X.N.Nodup) (ok : BlkOk X.N X.env.scope scope own) (ej : own.map (·.2) = js) (hm : X.mg "len" = none)
    (h : Ei X W tg iter ρ fun ds => ds.length < sizeLine ∧ ∃ P : Nat → List Int → Prop, P 0 [] ∧ (∀ i d acc, ds[i]? = some d → P i acc → acc.length ≤ i → ∃ xs, dec d = some xs ∧
      ∀ Y, Blk X scope Y → ∀ W' : Wd, W'.T = W.T → Ev Y W' kx (setZ (disown (wipeZ ρ js)) js xs) fun y => ∀ Y, Blk X scope Y → ∀ W' : Wd, W'.T = W.T → Ev Y W' vx (setZ (disown (wipeZ ρ js)) js xs) fun z => ∃ n, y = .int n ∧ z = .bool true ∧ P (i + 1) (insI acc n)) ∧ ∀ acc, P ds.length acc → acc.length ≤ ds.length → R (.int (acc.length : Nat)))
    (hgl : Gl X "len" := by rfl) (hs : ∀ x, foldedSetIterable iter X.env x = pure x := by intro _; rfl)
    (he : starEach [.DictComp kx vx [⟨tg, iter, [], 0⟩] scope dpos] X.env = (false, eval (.DictComp kx vx [⟨tg, iter, [], 0⟩] scope dpos) X.env) :: starEach [] X.env := by rfl) (hpl : (backTo pos (starEach [] X.env)).any (·.1) = false := by rfl) :
    Ev X W (.Call (.Name "len" p) [.DictComp kx vx [⟨tg, iter, [], 0⟩] scope dpos] [] pos) ρ R := by
  subst ej
  refine ⟨fun σ H B Q L k => (pe_callB call_lenD hgl hm PySem.boot_len (pa_cons (pe_dc hc nd pi_w ok hg (fun _ _ _ _ _ => pts_nil) (fun _ _ _ _ _ => blkE) (fun _ _ _ _ _ => blkE) hs) pa_nil he) (by decide) (by decide) he hpl).toZ ?_⟩
  show tDc (iW X tg iter) g tYes (teB X scope kx) (teB X scope vx) (own.map (·.2)) σ H fun x H1 => ∃ a kvs, [x] = [V.ref a] ∧ H1 a = some (HO.dK kvs) ∧ Q (V.int (kvs.length : Nat)) H1
  refine dcK_run gz (R := fun acc => R (.int (acc.length : Nat))) ⟨fun σ H B Q L k => Ei.run h σ H B Q L fun J H' B' ds s L' wk ⟨hl, P, p0, turn, fin⟩ => k J H' B' ds s L' wk ⟨hl, P, p0, fun i d acc h1 h2 h3 => ?_, fin⟩⟩ L fun p H' B' acc s L' hp r => ⟨p, kvI acc, rfl, hp, ?_⟩
  · obtain ⟨xs, e1, e2⟩ := turn i d acc h1 h2 h3
    refine ⟨xs, e1, ?_⟩
    exact teZ fun Y hY W' hW => (e2 Y hY W' hW).imp fun y hy => teZ hy
  · have e : (kvI acc).length = acc.length := by unfold kvI; rw [List.length_map]
    rw [e]
    exact k _ H' B' _ s L' (.int _) r
end
end Z

local macro_rules | `(tactic| walk_at "nin") => `(tactic| assumption)
local macro_rules | `(tactic| walk_at "fit") => `(tactic| assumption)
local macro_rules | `(tactic| walk_at "fln") => `(tactic| first | (show 0 < 1000; decide) | (show 1 < 1000; decide) | (show 2 < 1000; decide) | (show 3 < 1000; decide))
local macro_rules | `(tactic| walk_at "fl") => `(tactic| first | rfl | decide)
local macro_rules | `(tactic| walk_at "zs") => `(tactic| first | assumption | omega | exact Z.divs (by omega) (by omega) | exact Z.mull (by omega) (by omega) | exact Z.mulr (by omega) (by omega) | decide)
local macro_rules | `(tactic| walk_at "sh") => `(tactic| first | rfl | assumption | decide)
local macro_rules | `(tactic| walk_at "pre") => `(tactic| first | assumption | omega | (refine ⟨⟨?_, ?_⟩, ⟨?_, ?_⟩, ?_, ?_⟩ <;> omega) | decide)
local macro_rules | `(tactic| walk_at "wk") => `(tactic| repeat (first | exact Z.Wk.nil | apply Z.Wk.eq | apply Z.Wk.no))
local macro_rules | `(tactic| walk_at "sz") => `(tactic| first | (simp only [List.length_cons, List.length_nil]; decide) | decide)
namespace Law
open PySem PySem.Spec PyProof.Rows L2 Z
def topS (i : Nat) : Stmt := PySem.Challenge.pw_wallrolls_k08_whole_fewest_rolls_of_all.main.body.getD i (.Pass ⟨0, 0, 0, 0⟩)
abbrev s_is_integer : Stmt := topS 1
abbrev s_phase : Stmt := topS 2
abbrev s_can_cut : Stmt := topS 3
abbrev s_all_can_be_cut : Stmt := topS 4
abbrev s_begin_behind : Stmt := topS 5
abbrev s_with_place : Stmt := topS 7
abbrev s_sets_that_fit : Stmt := topS 8
abbrev s_best_plan : Stmt := topS 9
abbrev s_fewest_rolls : Stmt := topS 10
abbrev s_end_of : Stmt := topS 11
abbrev s_is_plan : Stmt := topS 12
abbrev s__law_draw : Stmt := topS 14
abbrev s__law_like : Stmt := topS 15
abbrev s__law_numbers : Stmt := topS 16
abbrev s__law_phase : Stmt := topS 17
abbrev s__law_next : Stmt := topS 18
abbrev s__law_begins : Stmt := topS 19
abbrev s__law_orders : Stmt := topS 20
abbrev s__law_cut : Stmt := topS 21
abbrev s_law : Stmt := topS 22
theorem sc_is_integer : FnScope ["value", "low", "high"] ["value", "low", "high"] (defScope s_is_integer) := ⟨rfl, rfl, rfl, by decide +kernel, rfl, by decide +kernel, by decide +kernel⟩
theorem sc_phase : FnScope ["paper", "place"] ["paper", "place"] (defScope s_phase) := ⟨rfl, rfl, rfl, by decide +kernel, rfl, by decide +kernel, by decide +kernel⟩
theorem sc_can_cut : FnScope ["paper", "length", "place"] ["paper", "length", "place"] (defScope s_can_cut) := ⟨rfl, rfl, rfl, by decide +kernel, rfl, by decide +kernel, by decide +kernel⟩
theorem sc_all_can_be_cut : FnScope ["paper", "length", "number", "place"] ["paper", "length", "number"] (defScope s_all_can_be_cut) := ⟨rfl, rfl, rfl, by decide +kernel, rfl, by decide +kernel, by decide +kernel⟩
theorem sc_begin_behind : FnScope ["paper", "free", "place"] ["paper", "free", "place"] (defScope s_begin_behind) := ⟨rfl, rfl, rfl, by decide +kernel, rfl, by decide +kernel, by decide +kernel⟩
theorem sc_with_place : FnScope ["places", "place"] ["places", "place"] (defScope s_with_place) := ⟨rfl, rfl, rfl, by decide +kernel, rfl, by decide +kernel, by decide +kernel⟩
theorem sc_sets_that_fit : FnScope ["paper", "length", "number", "place", "layer", "found", "later", "key", "row", "places", "last", "end", "order", "new", "far"] ["paper", "length", "number"] (defScope s_sets_that_fit) := ⟨rfl, rfl, rfl, by decide +kernel, rfl, by decide +kernel, by decide +kernel⟩
theorem sc_best_plan : FnScope ["paper", "length", "number", "groups", "plans", "turn", "later", "done", "plan", "places", "order", "both", "place"] ["paper", "length", "number"] (defScope s_best_plan) := ⟨rfl, rfl, rfl, by decide +kernel, rfl, by decide +kernel, by decide +kernel⟩
theorem sc_fewest_rolls : FnScope ["paper", "length", "number", "plan"] ["paper", "length", "number"] (defScope s_fewest_rolls) := ⟨rfl, rfl, rfl, by decide +kernel, rfl, by decide +kernel, by decide +kernel⟩
theorem sc_end_of : FnScope ["paper", "length", "places", "free", "place"] ["paper", "length", "places"] (defScope s_end_of) := ⟨rfl, rfl, rfl, by decide +kernel, rfl, by decide +kernel, by decide +kernel⟩
theorem sc_is_plan : FnScope ["paper", "length", "number", "value", "seen", "roll", "place"] ["paper", "length", "number", "value"] (defScope s_is_plan) := ⟨rfl, rfl, rfl, by decide +kernel, rfl, by decide +kernel, by decide +kernel⟩
theorem sc__law_draw : FnScope ["tape", "many", "prime", "cell", "found"] ["tape", "many"] (defScope s__law_draw) := ⟨rfl, rfl, rfl, by decide +kernel, rfl, by decide +kernel, by decide +kernel⟩
theorem sc__law_like : FnScope ["one", "two", "k"] ["one", "two"] (defScope s__law_like) := ⟨rfl, rfl, rfl, by decide +kernel, rfl, by decide +kernel, by decide +kernel⟩
theorem sc__law_numbers : FnScope ["tape", "most", "far", "repeat", "some"] ["tape", "most", "far"] (defScope s__law_numbers) := ⟨rfl, rfl, rfl, by decide +kernel, rfl, by decide +kernel, by decide +kernel⟩
theorem sc__law_phase : FnScope ["kind", "place"] ["kind", "place"] (defScope s__law_phase) := ⟨rfl, rfl, rfl, by decide +kernel, rfl, by decide +kernel, by decide +kernel⟩
theorem sc__law_next : FnScope ["kind", "free", "place", "begin"] ["kind", "free", "place"] (defScope s__law_next) := ⟨rfl, rfl, rfl, by decide +kernel, rfl, by decide +kernel, by decide +kernel⟩
theorem sc__law_begins : FnScope ["kind", "size", "places", "found", "free", "place", "begin"] ["kind", "size", "places"] (defScope s__law_begins) := ⟨rfl, rfl, rfl, by decide +kernel, rfl, by decide +kernel, by decide +kernel⟩
theorem sc__law_orders : FnScope ["many", "found", "turn", "longer", "row", "place"] ["many"] (defScope s__law_orders) := ⟨rfl, rfl, rfl, by decide +kernel, rfl, by decide +kernel, by decide +kernel⟩
theorem sc__law_cut : FnScope ["kind", "size", "order", "rolls", "roll", "place"] ["kind", "size", "order"] (defScope s__law_cut) := ⟨rfl, rfl, rfl, by decide +kernel, rfl, by decide +kernel, by decide +kernel⟩
theorem sc_law : FnScope ["script", "tape", "turn", "kind", "size", "number", "told", "plan", "due", "place", "order", "roll"] ["script"] (defScope s_law) := ⟨rfl, rfl, rfl, by decide +kernel, rfl, by decide +kernel, by decide +kernel⟩
structure En (K : PySem.W.Frag) (mg : Str → Option Value) where
  f_is_integer : Addr
  fd_is_integer : FuncData
  F_is_integer : Fun K "is_integer" "is_integer" s_is_integer f_is_integer fd_is_integer
  b_is_integer : Binds K fd_is_integer ["value", "low", "high"] []
  g_is_integer : mg "is_integer" = some (.ref f_is_integer)
  f_phase : Addr
  fd_phase : FuncData
  F_phase : Fun K "phase" "phase" s_phase f_phase fd_phase
  b_phase : Binds K fd_phase ["paper", "place"] []
  g_phase : mg "phase" = some (.ref f_phase)
  f_can_cut : Addr
  fd_can_cut : FuncData
  F_can_cut : Fun K "can_cut" "can_cut" s_can_cut f_can_cut fd_can_cut
  b_can_cut : Binds K fd_can_cut ["paper", "length", "place"] []
  g_can_cut : mg "can_cut" = some (.ref f_can_cut)
  f_all_can_be_cut : Addr
  fd_all_can_be_cut : FuncData
  F_all_can_be_cut : Fun K "all_can_be_cut" "all_can_be_cut" s_all_can_be_cut f_all_can_be_cut fd_all_can_be_cut
  b_all_can_be_cut : Binds K fd_all_can_be_cut ["paper", "length", "number"] []
  g_all_can_be_cut : mg "all_can_be_cut" = some (.ref f_all_can_be_cut)
  f_begin_behind : Addr
  fd_begin_behind : FuncData
  F_begin_behind : Fun K "begin_behind" "begin_behind" s_begin_behind f_begin_behind fd_begin_behind
  b_begin_behind : Binds K fd_begin_behind ["paper", "free", "place"] []
  g_begin_behind : mg "begin_behind" = some (.ref f_begin_behind)
  f_with_place : Addr
  fd_with_place : FuncData
  F_with_place : Fun K "with_place" "with_place" s_with_place f_with_place fd_with_place
  b_with_place : Binds K fd_with_place ["places", "place"] []
  g_with_place : mg "with_place" = some (.ref f_with_place)
  f_sets_that_fit : Addr
  fd_sets_that_fit : FuncData
  F_sets_that_fit : Fun K "sets_that_fit" "sets_that_fit" s_sets_that_fit f_sets_that_fit fd_sets_that_fit
  b_sets_that_fit : Binds K fd_sets_that_fit ["paper", "length", "number"] []
  g_sets_that_fit : mg "sets_that_fit" = some (.ref f_sets_that_fit)
  f_best_plan : Addr
  fd_best_plan : FuncData
  F_best_plan : Fun K "best_plan" "best_plan" s_best_plan f_best_plan fd_best_plan
  b_best_plan : Binds K fd_best_plan ["paper", "length", "number"] []
  g_best_plan : mg "best_plan" = some (.ref f_best_plan)
  f_fewest_rolls : Addr
  fd_fewest_rolls : FuncData
  F_fewest_rolls : Fun K "fewest_rolls" "fewest_rolls" s_fewest_rolls f_fewest_rolls fd_fewest_rolls
  b_fewest_rolls : Binds K fd_fewest_rolls ["paper", "length", "number"] []
  g_fewest_rolls : mg "fewest_rolls" = some (.ref f_fewest_rolls)
  f_end_of : Addr
  fd_end_of : FuncData
  F_end_of : Fun K "end_of" "end_of" s_end_of f_end_of fd_end_of
  b_end_of : Binds K fd_end_of ["paper", "length", "places"] []
  g_end_of : mg "end_of" = some (.ref f_end_of)
  f_is_plan : Addr
  fd_is_plan : FuncData
  F_is_plan : Fun K "is_plan" "is_plan" s_is_plan f_is_plan fd_is_plan
  b_is_plan : Binds K fd_is_plan ["paper", "length", "number", "value"] []
  g_is_plan : mg "is_plan" = some (.ref f_is_plan)
  f__law_draw : Addr
  fd__law_draw : FuncData
  F__law_draw : Fun K "_law_draw" "_law_draw" s__law_draw f__law_draw fd__law_draw
  b__law_draw : Binds K fd__law_draw ["tape", "many"] []
  g__law_draw : mg "_law_draw" = some (.ref f__law_draw)
  f__law_like : Addr
  fd__law_like : FuncData
  F__law_like : Fun K "_law_like" "_law_like" s__law_like f__law_like fd__law_like
  b__law_like : Binds K fd__law_like ["one", "two"] []
  g__law_like : mg "_law_like" = some (.ref f__law_like)
  f__law_numbers : Addr
  fd__law_numbers : FuncData
  F__law_numbers : Fun K "_law_numbers" "_law_numbers" s__law_numbers f__law_numbers fd__law_numbers
  b__law_numbers : Binds K fd__law_numbers ["tape", "most", "far"] []
  g__law_numbers : mg "_law_numbers" = some (.ref f__law_numbers)
  f__law_phase : Addr
  fd__law_phase : FuncData
  F__law_phase : Fun K "_law_phase" "_law_phase" s__law_phase f__law_phase fd__law_phase
  b__law_phase : Binds K fd__law_phase ["kind", "place"] []
  g__law_phase : mg "_law_phase" = some (.ref f__law_phase)
  f__law_next : Addr
  fd__law_next : FuncData
  F__law_next : Fun K "_law_next" "_law_next" s__law_next f__law_next fd__law_next
  b__law_next : Binds K fd__law_next ["kind", "free", "place"] []
  g__law_next : mg "_law_next" = some (.ref f__law_next)
  f__law_begins : Addr
  fd__law_begins : FuncData
  F__law_begins : Fun K "_law_begins" "_law_begins" s__law_begins f__law_begins fd__law_begins
  b__law_begins : Binds K fd__law_begins ["kind", "size", "places"] []
  g__law_begins : mg "_law_begins" = some (.ref f__law_begins)
  f__law_orders : Addr
  fd__law_orders : FuncData
  F__law_orders : Fun K "_law_orders" "_law_orders" s__law_orders f__law_orders fd__law_orders
  b__law_orders : Binds K fd__law_orders ["many"] []
  g__law_orders : mg "_law_orders" = some (.ref f__law_orders)
  f__law_cut : Addr
  fd__law_cut : FuncData
  F__law_cut : Fun K "_law_cut" "_law_cut" s__law_cut f__law_cut fd__law_cut
  b__law_cut : Binds K fd__law_cut ["kind", "size", "order"] []
  g__law_cut : mg "_law_cut" = some (.ref f__law_cut)
  n_all : mg "all" = none
  n_bool : mg "bool" = none
  n_dict : mg "dict" = none
  n_int : mg "int" = none
  n_isinstance : mg "isinstance" = none
  n_len : mg "len" = none
  n_list : mg "list" = none
  n_max : mg "max" = none
  n_min : mg "min" = none
  n_range : mg "range" = none
  n_sorted : mg "sorted" = none
  n_tuple : mg "tuple" = none
def wholeD : PyData → Bool
  | .int _ => true
  | _ => false
def within : PyData → Int → Int → Bool
  | .int i, lo, hi => decide (lo ≤ i) && decide (i ≤ hi)
  | _, _, _ => false
def valI : PyData → Int
  | .int i => i
  | _ => 0
def papB : PyData → Bool
  | .tuple [a, b, c] => within a 1 200 && within b 0 (valI a - 1) && within c 1 10000
  | _ => false

/-! ### papers -/
abbrev pap (r d l : Int) : PyData := .tuple [.int r, .int d, .int l]
def POk (r d l : Int) : Prop := (1 ≤ r ∧ r ≤ 200) ∧ (0 ≤ d ∧ d < r) ∧ (1 ≤ l ∧ l ≤ 10000)

/-! ### papers in naturals; strips of a roll -/
/-- the least multiple of g that is at least z -/
def up (g z : Int) : Int := (z + g - 1) / g * g
theorem up_spec {g z : Int} (hg : 0 < g) : z ≤ up g z ∧ up g z < z + g ∧ up g z % g = 0 := by
  unfold up
  have h1 := Int.emod_add_mul_ediv (z + g - 1) g
  have h2 := Int.emod_nonneg (z + g - 1) (show g ≠ 0 by omega)
  have h3 := Int.emod_lt_of_pos (z + g - 1) hg
  rw [Int.mul_comm] at h1
  refine ⟨by omega, by omega, Int.mul_emod_left _ _⟩
/-- a multiple that is at least z is at least up g z -/
theorem up_le {g z m : Int} (hg : 0 < g) (hm : m % g = 0) (hz : z ≤ m) : up g z ≤ m := by
  obtain ⟨q, rfl⟩ := Int.dvd_of_emod_eq_zero hm
  have h := up_spec (z := z) hg
  obtain ⟨p, hp⟩ := Int.dvd_of_emod_eq_zero h.2.2
  rw [hp]
  rw [hp] at h
  have : g * p < g * q + g := by omega
  have h4 : g * p < g * (q + 1) := by rw [Int.mul_add]; omega
  have h5 : p < q + 1 := Int.lt_of_mul_lt_mul_left h4 (by omega)
  exact Int.mul_le_mul_of_nonneg_left (by omega) (by omega)
theorem up_neg {g z : Int} (hg : 0 < g) : -((-z) / g) * g = up g z := by
  have h := up_spec (z := z) hg
  have h1 := Int.emod_add_mul_ediv (-z) g
  have h2 := Int.emod_nonneg (-z) (show g ≠ 0 by omega)
  have h3 := Int.emod_lt_of_pos (-z) hg
  have e : -((-z) / g) * g = z + (-z) % g := by
    rw [Int.neg_mul, Int.mul_comm]
    omega
  rw [e]
  apply Int.le_antisymm
  · obtain ⟨p, hp⟩ := Int.dvd_of_emod_eq_zero h.2.2
    have : (z + -z % g) % g = 0 := by
      rw [← e]
      exact Int.mul_emod_left _ _
    obtain ⟨q, hq⟩ := Int.dvd_of_emod_eq_zero this
    rw [hp, hq]
    rw [hp] at h
    have h6 : g * q < z + g := by rw [← hq]; omega
    have h4 : g * q < g * (p + 1) := by rw [Int.mul_add]; omega
    have h5 : q < p + 1 := Int.lt_of_mul_lt_mul_left h4 (by omega)
    exact Int.mul_le_mul_of_nonneg_left (by omega) (by omega)
  · refine up_le hg ?_ (by omega)
    rw [← e]
    exact Int.mul_emod_left _ _
/-- the divisor of a paper's drop and repeat -/
def pg (r d : Int) : Int := (Nat.gcd r.toNat d.toNat : Nat)
theorem pg_pos {r d : Int} (h : 1 ≤ r) : 0 < pg r d := by
  unfold pg
  have : 0 < Nat.gcd r.toNat d.toNat := Nat.gcd_pos_of_pos_left _ (by omega)
  omega
theorem pg_le {r d : Int} (h : 1 ≤ r) : pg r d ≤ r := by
  unfold pg
  have : Nat.gcd r.toNat d.toNat ≤ r.toNat := Nat.gcd_le_left _ (by omega)
  omega
/-- the most strips of a roll l, begins being multiples of g -/
def most (g l z : Int) : Int := 1 + (l - z) / up g z
def strip (g l z : Int) : Int := if z ≤ l then most g l z else 0

-- NEEDS gcd
/-! ### steps -/
def stp (r d z s : Int) : Int := z + (s * d - z) % r
theorem bezout : ∀ (a b : Nat), ∃ x y : Int, ((Nat.gcd a b : Nat) : Int) = a * x + b * y
  | 0, b => ⟨0, 1, by rw [Nat.gcd_zero_left]; omega⟩
  | a + 1, b => by
    have hlt : b % (a + 1) < a + 1 := Nat.mod_lt _ (Nat.succ_pos a)
    obtain ⟨x, y, h⟩ := bezout (b % (a + 1)) (a + 1)
    refine ⟨y - ((b / (a + 1) : Nat) : Int) * x, x, ?_⟩
    rw [Nat.gcd_rec, h]
    have e : ((b % (a + 1) : Nat) : Int) = (b : Int) - ((a + 1 : Nat) : Int) * ((b / (a + 1) : Nat) : Int) := by
      have := Nat.mod_add_div b (a + 1)
      have h2 : ((b % (a + 1) : Nat) : Int) + ((a + 1 : Nat) : Int) * ((b / (a + 1) : Nat) : Int) = (b : Int) := by exact_mod_cast this
      omega
    rw [e, Int.sub_mul, Int.mul_sub, Int.mul_assoc]
    omega
  termination_by a _ => a
theorem pg_dvd_r {r d : Int} (h : 0 ≤ r) : pg r d ∣ r := by
  unfold pg
  have := Nat.gcd_dvd_left r.toNat d.toNat
  have h2 := Int.natCast_dvd_natCast.mpr this
  rwa [Int.toNat_of_nonneg h] at h2
theorem pg_dvd_d {r d : Int} (h : 0 ≤ d) : pg r d ∣ d := by
  unfold pg
  have := Nat.gcd_dvd_right r.toNat d.toNat
  have h2 := Int.natCast_dvd_natCast.mpr this
  rwa [Int.toNat_of_nonneg h] at h2
theorem stp_ge {r d z s : Int} (hr : 0 < r) : z ≤ stp r d z s ∧ stp r d z s < z + r := by
  unfold stp
  have := Int.emod_nonneg (s * d - z) (show r ≠ 0 by omega)
  have := Int.emod_lt_of_pos (s * d - z) hr
  omega
theorem stp_mod {r d z s : Int} (hr : 0 < r) (hd : 0 ≤ d) : stp r d z s % pg r d = 0 := by
  unfold stp
  have h1 := Int.emod_add_mul_ediv (s * d - z) r
  have e : z + (s * d - z) % r = s * d - r * ((s * d - z) / r) := by omega
  rw [e]
  exact Int.emod_eq_zero_of_dvd (Int.dvd_sub (Int.dvd_mul_of_dvd_right (pg_dvd_d hd)) (Int.dvd_mul_of_dvd_left (pg_dvd_r (by omega))))
theorem stp_up {r d z s : Int} (hr : 0 < r) (hd : 0 ≤ d) : up (pg r d) z ≤ stp r d z s :=
  up_le (pg_pos (by omega)) (stp_mod hr hd) (stp_ge hr).1
/-- some number of lines up to the repeat has that step -/
theorem stp_ex {r d z : Int} (hr : 0 < r) (hd : 0 ≤ d) : ∃ s : Int, 1 ≤ s ∧ s ≤ r ∧ stp r d z s = up (pg r d) z := by
  have hg := pg_pos (d := d) (show 1 ≤ r by omega)
  have hu := up_spec (z := z) hg
  obtain ⟨q, hq⟩ := Int.dvd_of_emod_eq_zero hu.2.2
  obtain ⟨x, y, hb⟩ := bezout r.toNat d.toNat
  rw [Int.toNat_of_nonneg (by omega), Int.toNat_of_nonneg hd] at hb
  have hb' : pg r d = r * x + d * y := hb
  -- y * q lines, reduced to 1 .. r
  have hle := pg_le (d := d) (show 1 ≤ r by omega)
  have m0 := Int.emod_nonneg (y * q - 1) (show r ≠ 0 by omega)
  have m1 := Int.emod_lt_of_pos (y * q - 1) hr
  refine ⟨(y * q - 1) % r + 1, by omega, by omega, ?_⟩
  have hm := Int.emod_add_mul_ediv (y * q - 1) r
  have key : ((y * q - 1) % r + 1) * d - z = (up (pg r d) z - z) + r * (-(x * q) - (y * q - 1) / r * d) := by
    have e1 : (y * q - 1) % r + 1 = y * q - r * ((y * q - 1) / r) := by omega
    rw [e1, hq, hb', Int.sub_mul, Int.add_mul, Int.mul_sub, Int.mul_neg]
    have e2 : y * q * d = d * y * q := by rw [Int.mul_comm (y * q) d, Int.mul_assoc]
    have e3 : r * ((y * q - 1) / r) * d = r * ((y * q - 1) / r * d) := Int.mul_assoc _ _ _
    have e4 : r * x * q = r * (x * q) := Int.mul_assoc _ _ _
    rw [e2, e3, e4]
    omega
  unfold stp
  rw [key, Int.add_mul_emod_self_left, Int.emod_eq_of_lt (by omega) (by omega)]
  omega
/-- b is the smallest number of lines with the smallest step -/
def Best (r d z b : Int) : Prop := (1 ≤ b ∧ b ≤ r) ∧ (∀ s, 1 ≤ s → s ≤ r → stp r d z b ≤ stp r d z s) ∧ ∀ s, 1 ≤ s → s < b → stp r d z b < stp r d z s
theorem Best.uniq {r d z b b' : Int} (h : Best r d z b) (h' : Best r d z b') : b = b' := by
  rcases Int.lt_trichotomy b b' with l | e | l
  · have h1 := h'.2.2 b h.1.1 l
    have h2 := h.2.1 b' h'.1.1 h'.1.2
    omega
  · exact e
  · have h1 := h.2.2 b' h'.1.1 l
    have h2 := h'.2.1 b h.1.1 h.1.2
    omega
theorem Best.stp {r d z b : Int} (hr : 0 < r) (hd : 0 ≤ d) (h : Best r d z b) : stp r d z b = up (pg r d) z := by
  obtain ⟨s, h1, h2, h3⟩ := stp_ex (z := z) hr hd
  have := h.2.1 s h1 h2
  have := stp_up (z := z) (s := b) hr hd
  omega

/-! ### the next begin -/
def nxt (r d f n : Int) : Int := f + (n * d - f) % r
theorem nxt_spec {r d f n : Int} (hr : 0 < r) : f ≤ nxt r d f n ∧ nxt r d f n < f + r ∧ nxt r d f n % r = n * d % r := by
  unfold nxt
  have h0 := Int.emod_nonneg (n * d - f) (show r ≠ 0 by omega)
  have h1 := Int.emod_lt_of_pos (n * d - f) hr
  refine ⟨by omega, by omega, ?_⟩
  have h2 := Int.emod_add_mul_ediv (n * d - f) r
  have e : f + (n * d - f) % r = n * d + r * (-((n * d - f) / r)) := by
    rw [Int.mul_neg]
    omega
  rw [e, Int.add_mul_emod_self_left]
theorem nxt_min {r d f n x : Int} (hr : 0 < r) (h1 : f ≤ x) (h2 : x % r = n * d % r) : nxt r d f n ≤ x := by
  have h := nxt_spec (d := d) (f := f) (n := n) hr
  have e : (x - nxt r d f n) % r = 0 := by
    rw [Int.sub_emod, h2, h.2.2, Int.sub_self]
    rfl
  obtain ⟨q, hq⟩ := Int.dvd_of_emod_eq_zero e
  rcases Int.lt_or_le q 0 with hq0 | hq0
  · have : r * q ≤ r * (-1) := Int.mul_le_mul_of_nonneg_left (by omega) (by omega)
    omega
  · have : 0 ≤ r * q := Int.mul_nonneg (by omega) hq0
    omega
theorem nxt_zero {r d n : Int} : nxt r d 0 n = n * d % r := by
  unfold nxt
  rw [Int.zero_add, Int.sub_zero]

-- NEEDS steps
-- NEEDS next
theorem up_add {g m z : Int} (hg : 0 < g) (hm : m % g = 0) : up g (m + z) = m + up g z := by
  obtain ⟨c, rfl⟩ := Int.dvd_of_emod_eq_zero hm
  unfold up
  have e : g * c + z + g - 1 = (z + g - 1) + c * g := by rw [Int.mul_comm g c]; omega
  rw [e, Int.add_mul_ediv_right _ _ (by omega), Int.add_mul, Int.mul_comm g c]
  omega
theorem up_mul {g z : Int} (hg : 0 < g) (k : Int) : (k * up g z) % g = 0 := by
  rw [Int.mul_emod, (up_spec (z := z) hg).2.2]
  simp
theorem up_pos {g z : Int} (hg : 0 < g) (hz : 1 ≤ z) : 0 < up g z := by
  have := (up_spec (z := z) hg).1
  omega
theorem most_eq {g l z k : Int} (hu : 0 < up g z) (h1 : (k - 1) * up g z + z ≤ l) (h2 : l < k * up g z + z) : most g l z = k := by
  unfold most
  have a1 : k - 1 ≤ (l - z) / up g z := (Int.le_ediv_iff_mul_le hu).mpr (by omega)
  have a2 : (l - z) / up g z < k := (Int.ediv_lt_iff_lt_mul hu).mpr (by omega)
  omega
theorem most_le {g l z : Int} (hu : 0 < up g z) (hz : z ≤ l) (h0 : 0 ≤ z) : 1 ≤ most g l z ∧ most g l z ≤ 1 + l := by
  unfold most
  have a1 : 0 ≤ (l - z) / up g z := Int.ediv_nonneg (by omega) (by omega)
  have a2 : (l - z) / up g z ≤ l - z := Int.ediv_le_self _ (by omega)
  omega
theorem most_mono {g l z : Int} (hg : 0 < g) (hz : 1 < z) (hl : z ≤ l) : most g l z ≤ most g l (z - 1) := by
  have u1 := up_spec (z := z) hg
  have u2 := up_spec (z := z - 1) hg
  have u3 : up g (z - 1) ≤ up g z := up_le hg u1.2.2 (by omega)
  unfold most
  have hu : 0 < up g z := by omega
  have hu2 : 0 < up g (z - 1) := by omega
  have a0 : 0 ≤ (l - z) / up g z := Int.ediv_nonneg (by omega) (by omega)
  have a1 : (l - z) / up g z * up g z ≤ l - z := Int.ediv_mul_le _ (by omega)
  have a2 : (l - z) / up g z * up g (z - 1) ≤ (l - z) / up g z * up g z := Int.mul_le_mul_of_nonneg_left u3 a0
  have a3 : (l - z) / up g z ≤ (l - (z - 1)) / up g (z - 1) := (Int.le_ediv_iff_mul_le hu2).mpr (by omega)
  omega
/-! strips cut one behind another -/
def bgs (r d l z : Int) : Int → List Int → List Int → Option (List Int)
  | _, acc, [] => some acc
  | f, acc, p :: ps => if l < nxt r d f p + z then none else bgs r d l z (nxt r d f p + z) (acc ++ [nxt r d f p]) ps
def optL : Option (List Int) → PyData
  | none => .none
  | some ns => .list (ns.map PyData.int)
inductive Cut (r d l z : Int) : List Int → Int → Prop
  | nil : Cut r d l z [] 0
  | snoc {ps : List Int} {f p : Int} : Cut r d l z ps f → nxt r d f p + z ≤ l → Cut r d l z (ps ++ [p]) (nxt r d f p + z)
theorem Cut.run {r d l z f : Int} {ps : List Int} (h : Cut r d l z ps f) : ∃ acc, ∀ qs, bgs r d l z 0 [] (ps ++ qs) = bgs r d l z f acc qs := by
  induction h with
  | nil => exact ⟨[], fun qs => rfl⟩
  | @snoc ps f p h1 h2 ih =>
    obtain ⟨acc, ih⟩ := ih
    refine ⟨acc ++ [nxt r d f p], fun qs => ?_⟩
    rw [List.append_assoc, ih]
    show (if l < nxt r d f p + z then none else _) = _
    rw [if_neg (by omega)]
    rfl
theorem Cut.all {r d l z f : Int} {ps : List Int} (h : Cut r d l z ps f) : ∃ acc, bgs r d l z 0 [] ps = some acc := by
  obtain ⟨acc, h⟩ := h.run
  have := h []
  rw [List.append_nil] at this
  exact ⟨acc, this⟩
theorem nxt_add {r d f p k : Int} : nxt r d f (p + r * k) = nxt r d f p := by
  unfold nxt
  have e : (p + r * k) * d - f = (p * d - f) + r * (k * d) := by rw [Int.add_mul, Int.mul_assoc]; omega
  rw [e, Int.add_mul_emod_self_left]
theorem nxt_up {r d f : Int} (hr : 0 < r) (hd : 0 ≤ d) : (∀ p, up (pg r d) f ≤ nxt r d f p) ∧ ∃ p : Int, 0 ≤ p ∧ p < r ∧ nxt r d f p = up (pg r d) f := by
  refine ⟨fun p => stp_up hr hd, ?_⟩
  obtain ⟨s, s1, s2, s3⟩ := stp_ex (z := f) hr hd
  by_cases h : s = r
  · refine ⟨0, Int.le_refl _, hr, ?_⟩
    subst h
    have : nxt s d f (0 + s * 1) = nxt s d f 0 := nxt_add
    rw [← this]
    have e : (0 : Int) + s * 1 = s := by omega
    rw [e]
    exact s3
  · exact ⟨s, by omega, by omega, s3⟩

-- NEEDS most
/-! rolls of a line -/
/-- how many strips a roll gives that begins with a place -/
def sf (r d l z s p : Int) : Int := if p * d % r + z ≤ l then 1 + (l - z - p * d % r) / stp r d z s else 0
theorem sf_pos {r d l z s p : Int} (hr : 0 < r) (hz : 1 ≤ z) (h : p * d % r + z ≤ l) : 1 ≤ sf r d l z s p := by
  unfold sf
  rw [if_pos h]
  have h1 := stp_ge (d := d) (z := z) (s := s) hr
  have := Int.ediv_nonneg (a := l - z - p * d % r) (b := stp r d z s) (by omega) (by omega)
  omega
/-- rolls until c strips are cut: g x strips come from the roll that begins behind x strips -/
def rlF (g : Int → Int) (c : Int) : Nat → Int → Int
  | 0, _ => 0
  | n + 1, x => if x < c then 1 + rlF g c n (x + g x) else 0
def rl (g : Int → Int) (c x : Int) : Int := rlF g c (c - x).toNat x
theorem rlF_eq {g : Int → Int} {c : Int} (hg : ∀ x, 0 ≤ x → x < c → 1 ≤ g x) : ∀ (n m : Nat) (x : Int), 0 ≤ x → (c - x).toNat ≤ n → (c - x).toNat ≤ m → rlF g c n x = rlF g c m x
  | 0, 0, _, _, _, _ => rfl
  | 0, m + 1, x, _, h, _ => by
    rw [rlF, rlF, if_neg (by omega)]
  | n + 1, 0, x, _, _, h => by
    rw [rlF, rlF, if_neg (by omega)]
  | n + 1, m + 1, x, h0, h1, h2 => by
    rw [rlF, rlF]
    by_cases h : x < c
    · rw [if_pos h, if_pos h]
      have := hg x h0 h
      rw [rlF_eq hg n m (x + g x) (by omega) (by omega) (by omega)]
    · rw [if_neg h, if_neg h]
theorem rl_end {g : Int → Int} {c x : Int} (h : c ≤ x) : rl g c x = 0 := by
  unfold rl
  have e : (c - x).toNat = 0 := by omega
  rw [e]
  rfl
theorem rl_step {g : Int → Int} {c x : Int} (hg : ∀ x, 0 ≤ x → x < c → 1 ≤ g x) (h0 : 0 ≤ x) (h : x < c) : rl g c x = 1 + rl g c (x + g x) := by
  have hx := hg x h0 h
  have e : (c - x).toNat = ((c - x).toNat - 1) + 1 := by omega
  unfold rl
  rw [e, rlF, if_pos h]
  rw [rlF_eq hg _ (c - (x + g x)).toNat (x + g x) (by omega) (by omega) (by omega)]
theorem rl_nonneg {g : Int → Int} {c : Int} : ∀ (n : Nat) (x : Int), 0 ≤ rlF g c n x
  | 0, _ => Int.le_refl _
  | n + 1, x => by
    rw [rlF]
    split
    · have := rl_nonneg (g := g) (c := c) n (x + g x)
      omega
    · exact Int.le_refl _
theorem rl_le {g : Int → Int} {c : Int} (hg : ∀ x, 0 ≤ x → x < c → 1 ≤ g x) : ∀ (n : Nat) (x : Int), 0 ≤ x → x ≤ c → (c - x).toNat = n → rl g c x ≤ c - x := by
  intro n
  induction n using Nat.strongRecOn with
  | _ n ih =>
    intro x h0 h1 hn
    by_cases h : x < c
    · rw [rl_step hg h0 h]
      have hx := hg x h0 h
      by_cases h2 : x + g x ≤ c
      · have := ih (c - (x + g x)).toNat (by omega) (x + g x) (by omega) h2 rfl
        omega
      · rw [rl_end (by omega)]
        omega
    · rw [rl_end (by omega)]
      omega
/-- each roll gives at most M strips -/
theorem rl_ge {g : Int → Int} {c M : Int} (hg : ∀ x, 0 ≤ x → x < c → 1 ≤ g x) (hM : ∀ x, 0 ≤ x → x < c → g x ≤ M) (hM0 : 0 ≤ M) : ∀ (n : Nat) (x : Int), 0 ≤ x → (c - x).toNat = n → c - x ≤ rl g c x * M := by
  intro n
  induction n using Nat.strongRecOn with
  | _ n ih =>
    intro x h0 hn
    by_cases h : x < c
    · rw [rl_step hg h0 h]
      have hx := hg x h0 h
      have hy := hM x h0 h
      have := ih (c - (x + g x)).toNat (by omega) (x + g x) (by omega) rfl
      rw [Int.add_mul, Int.one_mul]
      omega
    · rw [rl_end (by omega)]
      omega
/-- from a, after n rolls, b: each begun before c -/
inductive Rch (g : Int → Int) (c : Int) : Int → Nat → Int → Prop
  | refl (a : Int) : Rch g c a 0 a
  | step {a b : Int} {n : Nat} : Rch g c a n b → b < c → Rch g c a (n + 1) (b + g b)
section
variable {g : Int → Int} {c a b : Int} {n : Nat}
theorem Rch.le (hg : ∀ x, 0 ≤ x → x < c → 1 ≤ g x) (ha : 0 ≤ a) (h : Rch g c a n b) : a + n ≤ b := by
  induction h with
  | refl => omega
  | @step b n h hb ih =>
    have := hg b (by omega) hb
    omega
theorem Rch.rl (hg : ∀ x, 0 ≤ x → x < c → 1 ≤ g x) (ha : 0 ≤ a) (h : Rch g c a n b) : rl g c a = n + rl g c b := by
  induction h with
  | refl => simp
  | @step b n h hb ih =>
    have := h.le hg ha
    rw [ih, rl_step hg (by omega) hb]
    omega
theorem Rch.shift {κ : Int → Int} (hg : ∀ x, 0 ≤ x → x < c → 1 ≤ g x) (hk : ∀ x y, κ x = κ y → g x = g y) (hs : ∀ x y u, κ x = κ y → κ (x + u) = κ (y + u)) (ha : 0 ≤ a) (h : Rch g c a n b) {y : Int} (hy : κ y = κ a) (hc : y + (b - a) ≤ c) : Rch g c y n (y + (b - a)) := by
  induction h with
  | refl => 
    have e : y + (a - a) = y := by omega
    rw [e]
    exact .refl y
  | @step b n h hb ih =>
    have h1 := h.le hg ha
    have h2 := hg b (by omega) hb
    have h3 := ih (by omega)
    have h4 := Rch.step h3 (by omega)
    have e1 : κ (y + (b - a)) = κ b := by
      have := hs y a (b - a) hy
      rw [this]
      congr 1
      omega
    rw [hk _ _ e1] at h4
    have e2 : y + (b - a) + g b = y + (b + g b - a) := by omega
    rw [e2] at h4
    exact h4
theorem rl_turns {κ : Int → Int} (hg : ∀ x, 0 ≤ x → x < c → 1 ≤ g x) (hk : ∀ x y, κ x = κ y → g x = g y) (hs : ∀ x y u, κ x = κ y → κ (x + u) = κ (y + u)) (ha : 0 ≤ a) (h : Rch g c a n b) (hab : κ b = κ a) : ∀ (t : Nat) (y : Int), 0 ≤ y → κ y = κ a → y + t * (b - a) ≤ c → rl g c y = t * n + rl g c (y + t * (b - a)) ∧ κ (y + t * (b - a)) = κ a
  | 0, y, _, hy, _ => by simp [hy]
  | t + 1, y, h0, hy, hc => by
    have h1 := h.le hg ha
    have e1 : ((t + 1 : Nat) : Int) * (b - a) = t * (b - a) + (b - a) := by
      rw [Int.natCast_add, Int.add_mul]
      simp
    rw [e1] at hc ⊢
    have h2 : 0 ≤ (t : Int) * (b - a) := Int.mul_nonneg (by omega) (by omega)
    have h3 := (h.shift hg hk hs ha hy (by omega)).rl hg h0
    have e2 : κ (y + (b - a)) = κ a := by
      rw [hs y a (b - a) hy]
      have e3 : a + (b - a) = b := by omega
      rw [e3, hab]
    obtain ⟨h4, h5⟩ := rl_turns hg hk hs ha h hab t (y + (b - a)) (by omega) e2 (by omega)
    have e4 : y + (b - a) + t * (b - a) = y + (t * (b - a) + (b - a)) := by omega
    rw [e4] at h4 h5
    refine ⟨?_, h5⟩
    rw [h3, h4, Int.natCast_add, Int.add_mul]
    simp
    omega
end
/-- how many strips the roll of a line gives that begins behind x strips -/
def gl (r d l z s line : Int) (x : Int) : Int := sf r d l z s (line + x * s)
theorem gl_key {r d l z s line x y : Int} (h : (line + x * s) * d % r = (line + y * s) * d % r) : gl r d l z s line x = gl r d l z s line y := by
  unfold gl sf
  rw [h]
theorem key_add {r d s line x y : Int} (u : Int) (h : (line + x * s) * d % r = (line + y * s) * d % r) : (line + (x + u) * s) * d % r = (line + (y + u) * s) * d % r := by
  have e : ∀ v : Int, (line + (v + u) * s) * d = (line + v * s) * d + u * s * d := fun v => by
    rw [Int.add_mul v, ← Int.add_assoc, Int.add_mul (line + v * s)]
  rw [e x, e y, Int.add_emod, h, ← Int.add_emod]
theorem sf_le {r d l z s p : Int} (hr : 0 < r) (hd : 0 ≤ d) (hz : 1 ≤ z) (hl : z ≤ l) : sf r d l z s p ≤ most (pg r d) l z := by
  have hm := most_le (g := pg r d) (up_pos (pg_pos (d := d) (by omega)) hz) hl (by omega)
  unfold sf
  split
  · rename_i h
    unfold most
    have h1 := stp_up (z := z) (s := s) hr hd
    have h2 := up_pos (z := z) (pg_pos (d := d) (show 1 ≤ r by omega)) hz
    have h3 := Int.emod_nonneg (p * d) (show r ≠ 0 by omega)
    have h4 : 0 ≤ (l - z - p * d % r) / stp r d z s := Int.ediv_nonneg (by omega) (by omega)
    have h5 : (l - z - p * d % r) / stp r d z s * stp r d z s ≤ l - z - p * d % r := Int.ediv_mul_le _ (by omega)
    have h6 : (l - z - p * d % r) / stp r d z s * up (pg r d) z ≤ (l - z - p * d % r) / stp r d z s * stp r d z s := Int.mul_le_mul_of_nonneg_left h1 h4
    have h7 : (l - z - p * d % r) / stp r d z s ≤ (l - z) / up (pg r d) z := (Int.le_ediv_iff_mul_le h2).mpr (by omega)
    omega
  · omega
/-! all places -/
def allC (r d l z n : Int) : Bool := (List.range (min n r).toNat).all fun p => decide (((p : Nat) : Int) * d % r + z ≤ l)
theorem allC_at {r d l z n : Int} (hr : 0 < r) (h : allC r d l z n = true) {p : Int} (h0 : 0 ≤ p) (h1 : p < n) : p * d % r + z ≤ l := by
  unfold allC at h
  rw [List.all_eq_true] at h
  by_cases hp : p < r
  · have := of_decide_eq_true (h p.toNat (List.mem_range.mpr (by omega)))
    have e : ((p.toNat : Nat) : Int) = p := by omega
    rw [e] at this
    exact this
  · have a1 := Int.emod_nonneg p (show r ≠ 0 by omega)
    have a2 := Int.emod_lt_of_pos p hr
    have := of_decide_eq_true (h (p % r).toNat (List.mem_range.mpr (by omega)))
    have e : (((p % r).toNat : Nat) : Int) = p % r := by omega
    rw [e, Int.mul_emod, Int.emod_emod_of_dvd _ (Int.dvd_refl r), ← Int.mul_emod] at this
    exact this
/-- the strips of a line -/
def cnt (s n i : Int) : Int := (n - i + s - 1) / s
theorem cnt_lt {s n i x : Int} (hs : 0 < s) (hx : x < cnt s n i) : i + x * s < n := by
  unfold cnt at hx
  have : x * s + s ≤ n - i + s - 1 := by
    have := (Int.le_ediv_iff_mul_le (a := x + 1) (b := n - i + s - 1) hs).mp (by omega)
    rw [Int.add_mul, Int.one_mul] at this
    exact this
  omega
def rbF (r d l z s n : Int) : Nat → Int
  | 0 => 0
  | i + 1 => rbF r d l z s n i + rl (gl r d l z s (i : Nat)) (cnt s n (i : Nat)) 0
/-- the rolls by turns -/
def rbt (r d l z s n : Int) : Option Int := if allC r d l z n = true then some (rbF r d l z s n (min s n).toNat) else none
def optI : Option Int → PyData
  | none => .none
  | some i => .int i
theorem gl_pos {r d l z s n i : Int} (hr : 0 < r) (hz : 1 ≤ z) (hs : 0 < s) (hi : 0 ≤ i) (h : allC r d l z n = true) : ∀ x, 0 ≤ x → x < cnt s n i → 1 ≤ gl r d l z s i x := fun x h0 h1 =>
  sf_pos hr hz (allC_at hr h (by have := Int.mul_nonneg h0 (show 0 ≤ s by omega); omega) (cnt_lt hs h1))
theorem cnt_bd {s n i : Int} (hs : 0 < s) (hi : 0 ≤ i) (h : i ≤ n) : 0 ≤ cnt s n i ∧ cnt s n i ≤ n := by
  unfold cnt
  refine ⟨Int.ediv_nonneg (by omega) (by omega), ?_⟩
  have : (n - i + s - 1) / s < n + 1 := (Int.ediv_lt_iff_lt_mul hs).mpr (by
    have : n * 1 ≤ n * s := Int.mul_le_mul_of_nonneg_left (by omega) (by omega)
    rw [Int.add_mul]
    omega)
  omega
/-! keys of a dict of phases -/
def keysOk (r : Int) (kvs : List (Key × PyData)) : Prop := (kvs.map (·.1)).Nodup ∧ ∀ p ∈ kvs, ∃ k : Int, p.1 = Sum.inl k ∧ 0 ≤ k ∧ k < r
theorem keysOk_len {r : Int} {kvs : List (Key × PyData)} (h : keysOk r kvs) : kvs.length ≤ r.toNat := by
  obtain ⟨h1, h2⟩ := h
  have hn : (kvs.map fun p => (Sum.elim Int.toNat (fun _ => 0) p.1 : Nat)).Nodup := by
    unfold List.Nodup at h1 ⊢
    rw [List.pairwise_map] at h1 ⊢
    refine List.Pairwise.imp_of_mem (fun {p q} hp hq hne => ?_) h1
    obtain ⟨k, e1, k0, k1⟩ := h2 p hp
    obtain ⟨k', e2, k2, k3⟩ := h2 q hq
    rw [e1, e2] at hne ⊢
    intro hc
    apply hne
    have hc : k.toNat = k'.toNat := hc
    congr 1
    omega
  have := nat_nodup_len _ (List.range r.toNat) hn fun x hx => by
    obtain ⟨p, hp, rfl⟩ := List.mem_map.mp hx
    obtain ⟨k, e1, k0, k1⟩ := h2 p hp
    rw [e1]
    exact List.mem_range.mpr (show k.toNat < r.toNat by omega)
  simpa using this
theorem keysOk_put {r : Int} {kvs : List (Key × PyData)} (h : keysOk r kvs) {k : Int} (k0 : 0 ≤ k) (k1 : k < r) (d : PyData) : keysOk r (ptD kvs (Sum.inl k) d) := by
  obtain ⟨h1, h2⟩ := h
  unfold ptD
  split
  · refine ⟨?_, fun p hp => ?_⟩
    · rw [List.map_map]
      have e : ((fun x : Key × PyData => x.1) ∘ fun kv : Key × PyData => if kv.1 = Sum.inl k then (kv.1, d) else kv) = fun x => x.1 := by
        funext x
        simp only [Function.comp]
        split <;> rfl
      rw [e]
      exact h1
    · obtain ⟨q, hq, rfl⟩ := List.mem_map.mp hp
      split
      · exact h2 q hq
      · exact h2 q hq
  · rename_i hn
    refine ⟨?_, fun p hp => ?_⟩
    · rw [List.map_append, List.nodup_append]
      refine ⟨h1, by simp, fun x hx y hy => ?_⟩
      simp at hy
      subst hy
      obtain ⟨p, hp, rfl⟩ := List.mem_map.mp hx
      intro e
      apply hn
      unfold gtD
      rw [Option.isSome_map, List.find?_isSome]
      exact ⟨p, hp, decide_eq_true e⟩
    · rcases List.mem_append.mp hp with hp | hp
      · exact h2 p hp
      · simp at hp
        subst hp
        exact ⟨k, rfl, k0, k1⟩

/-! ### plain data of bounded depth -/
def Sim : Nat → PyData → Prop
  | _, .none => True
  | _, .bool _ => True
  | _, .int _ => True
  | _, .str x => PyData.strOk x = true
  | n + 1, .list ds => ds.length ≤ 1000000 ∧ ∀ d ∈ ds, Sim n d
  | n + 1, .tuple ds => ds.length ≤ 1000000 ∧ ∀ d ∈ ds, Sim n d
  | 0, .list _ => False
  | 0, .tuple _ => False
  | _, .dict _ => False
theorem canLayAll_of : ∀ {ds : List PyData}, (∀ d ∈ ds, d.canLay0 = true) → PyData.canLayAll0 ds = true
  | [], _ => by simp [PyData.canLayAll0]
  | d :: ds, h => by
    simp only [PyData.canLayAll0, Bool.and_eq_true]
    exact ⟨h d (by simp), canLayAll_of fun e he => h e (by simp [he])⟩
theorem depthAll_of {n : Nat} : ∀ {ds : List PyData}, (∀ d ∈ ds, d.depth ≤ n) → PyData.depthAll ds ≤ n
  | [], _ => by simp [PyData.depthAll]
  | d :: ds, h => by
    simp only [PyData.depthAll]
    have h1 := h d (by simp)
    have h2 := depthAll_of (ds := ds) fun e he => h e (by simp [he])
    omega
theorem Sim.lay : ∀ {n : Nat} {d : PyData}, Sim n d → d.canLay0 = true ∧ d.depth ≤ n
  | n, .none, _ => by simp [PyData.canLay0, PyData.depth]
  | n, .bool _, _ => by simp [PyData.canLay0, PyData.depth]
  | n, .int _, _ => by simp [PyData.canLay0, PyData.depth]
  | n, .str x, h => by
    have h : PyData.strOk x = true := by cases n <;> exact h
    simp [PyData.canLay0, PyData.depth, h]
  | n + 1, .list ds, h => by
    simp only [PyData.canLay0, PyData.depth]
    refine ⟨canLayAll_of fun d hd => (Sim.lay (h.2 d hd)).1, ?_⟩
    have := depthAll_of (n := n) (ds := ds) fun d hd => (Sim.lay (h.2 d hd)).2
    omega
  | n + 1, .tuple ds, h => by
    simp only [PyData.canLay0, PyData.depth]
    refine ⟨canLayAll_of fun d hd => (Sim.lay (h.2 d hd)).1, ?_⟩
    have := depthAll_of (n := n) (ds := ds) fun d hd => (Sim.lay (h.2 d hd)).2
    omega
  | 0, .list _, h => h.elim
  | 0, .tuple _, h => h.elim
  | n, .dict _, h => by cases n <;> exact h.elim
theorem Sim.shaped {n : Nat} {d : PyData} (h : Sim n d) (hn : n ≤ 64) : SeqAt.shaped d = true := by
  unfold SeqAt.shaped
  rw [Bool.and_eq_true]
  exact ⟨h.lay.1, decide_eq_true (Nat.le_trans h.lay.2 hn)⟩
theorem eqvAll_self : ∀ {ds : List PyData}, (∀ d ∈ ds, PyData.eqv d d = true) → PyData.eqvAll ds ds = true
  | [], _ => by simp [PyData.eqvAll]
  | d :: ds, h => by
    simp only [PyData.eqvAll, Bool.and_eq_true]
    exact ⟨h d (by simp), eqvAll_self fun e he => h e (by simp [he])⟩
theorem Sim.self : ∀ {n : Nat} {d : PyData}, Sim n d → PyData.eqv d d = true
  | n, .none, _ => by simp [PyData.eqv]
  | n, .bool _, _ => by simp [PyData.eqv]
  | n, .int _, _ => by simp [PyData.eqv]
  | n, .str x, h => by simp [PyData.eqv]
  | n + 1, .list ds, h => by
    simp only [PyData.eqv]
    exact eqvAll_self fun d hd => Sim.self (h.2 d hd)
  | n + 1, .tuple ds, h => by
    simp only [PyData.eqv]
    exact eqvAll_self fun d hd => Sim.self (h.2 d hd)
  | 0, .list _, h => h.elim
  | 0, .tuple _, h => h.elim
  | n, .dict _, h => by cases n <;> exact h.elim
theorem Sim.up : ∀ {n m : Nat} {d : PyData}, Sim n d → n ≤ m → Sim m d
  | n, m, .none, _, _ => by cases m <;> trivial
  | n, m, .bool _, _, _ => by cases m <;> trivial
  | n, m, .int _, _, _ => by cases m <;> trivial
  | n, m, .str x, h, _ => by
    have h : PyData.strOk x = true := by cases n <;> exact h
    cases m <;> exact h
  | n + 1, 0, .list ds, h, e => by omega
  | n + 1, m + 1, .list ds, h, e => ⟨h.1, fun d hd => (h.2 d hd).up (by omega)⟩
  | n + 1, 0, .tuple ds, h, e => by omega
  | n + 1, m + 1, .tuple ds, h, e => ⟨h.1, fun d hd => (h.2 d hd).up (by omega)⟩
  | 0, _, .list _, h, _ => h.elim
  | 0, _, .tuple _, h, _ => h.elim
  | n, _, .dict _, h, _ => by cases n <;> exact h.elim
theorem sim_dict {n : Nat} {k : List (PyData × PyData)} (h : Sim n (.dict k)) : False := by cases n <;> exact h
theorem sim_int {n : Nat} {i : Int} : Sim n (.int i) := by cases n <;> trivial
theorem sim_bool {n : Nat} {i : Bool} : Sim n (.bool i) := by cases n <;> trivial
theorem sim_none {n : Nat} : Sim n .none := by cases n <;> trivial
theorem sim_ints {n : Nat} {ns : List Int} (h : ns.length ≤ 1000000) : Sim (n + 1) (.list (ns.map PyData.int)) := ⟨by rw [List.length_map]; exact h, fun d hd => by
  obtain ⟨i, _, rfl⟩ := List.mem_map.mp hd
  exact sim_int⟩
theorem sim_intsT {n : Nat} {ns : List Int} (h : ns.length ≤ 1000000) : Sim (n + 1) (.tuple (ns.map PyData.int)) := ⟨by rw [List.length_map]; exact h, fun d hd => by
  obtain ⟨i, _, rfl⟩ := List.mem_map.mp hd
  exact sim_int⟩
/-- == of ints' data is equality -/
theorem eqvAll_ints : ∀ {ns ms : List Int}, PyData.eqvAll (ns.map PyData.int) (ms.map PyData.int) = decide (ns = ms)
  | [], [] => by simp [PyData.eqvAll]
  | [], m :: ms => by simp [PyData.eqvAll]
  | n :: ns, [] => by simp [PyData.eqvAll]
  | n :: ns, m :: ms => by
    simp only [List.map_cons, PyData.eqvAll, PyData.eqv]
    rw [eqvAll_ints]
    by_cases h1 : n = m
    · by_cases h2 : ns = ms
      · simp [h1, h2]
      · simp [h1, h2]
    · simp [h1]
theorem eqv_ints {ns ms : List Int} : PyData.eqv (.list (ns.map PyData.int)) (.list (ms.map PyData.int)) = decide (ns = ms) := by
  simp only [PyData.eqv]
  exact eqvAll_ints
theorem eqv_intsT {ns ms : List Int} : PyData.eqv (.tuple (ns.map PyData.int)) (.tuple (ms.map PyData.int)) = decide (ns = ms) := by
  simp only [PyData.eqv]
  exact eqvAll_ints

-- NEEDS sim
/-! arbitrary plain data: depth at most n, lists and texts no longer than L -/
def An : Nat → Nat → PyData → Prop
  | _, _, .none => True
  | _, _, .bool _ => True
  | _, _, .int _ => True
  | _, L, .str x => x.length ≤ L ∧ PyData.strOk x = true
  | n + 1, L, .list ds => ds.length ≤ L ∧ ∀ d ∈ ds, An n L d
  | n + 1, L, .tuple ds => ds.length ≤ L ∧ ∀ d ∈ ds, An n L d
  | 0, _, .list _ => False
  | 0, _, .tuple _ => False
  | _, _, .dict _ => False
theorem an_int {n L : Nat} {i : Int} : An n L (.int i) := by cases n <;> trivial
theorem an_bool {n L : Nat} {i : Bool} : An n L (.bool i) := by cases n <;> trivial
theorem an_none {n L : Nat} : An n L .none := by cases n <;> trivial
theorem an_str {n L : Nat} {x : Str} : An n L (.str x) ↔ (x.length ≤ L ∧ PyData.strOk x = true) := by cases n <;> exact Iff.rfl
theorem An.up : ∀ {n m L M : Nat} {d : PyData}, An n L d → n ≤ m → L ≤ M → An m M d
  | n, m, L, M, .none, _, _, _ => an_none
  | n, m, L, M, .bool _, _, _, _ => an_bool
  | n, m, L, M, .int _, _, _, _ => an_int
  | n, m, L, M, .str x, h, _, h2 => an_str.mpr ⟨Nat.le_trans (an_str.mp h).1 h2, (an_str.mp h).2⟩
  | n + 1, m + 1, L, M, .list ds, h, h1, h2 => ⟨Nat.le_trans h.1 h2, fun d hd => (h.2 d hd).up (by omega) h2⟩
  | n + 1, m + 1, L, M, .tuple ds, h, h1, h2 => ⟨Nat.le_trans h.1 h2, fun d hd => (h.2 d hd).up (by omega) h2⟩
  | n + 1, 0, L, M, .list ds, _, h1, _ => by omega
  | n + 1, 0, L, M, .tuple ds, _, h1, _ => by omega
  | 0, _, _, _, .list _, h, _, _ => h.elim
  | 0, _, _, _, .tuple _, h, _, _ => h.elim
  | n, _, _, _, .dict _, h, _, _ => by cases n <;> exact h.elim
theorem an_dict {n L : Nat} {x} (h : An n L (.dict x)) : False := by cases n <;> exact h
theorem An.sim {L : Nat} (hL : L ≤ 1000000) : ∀ {n : Nat} {d : PyData}, An n L d → Sim n d
  | n, .none, _ => sim_none
  | n, .bool _, _ => sim_bool
  | n, .int _, _ => sim_int
  | n, .str x, h => by
    have h2 := (an_str.mp h).2
    cases n <;> exact h2
  | n + 1, .list ds, h => ⟨Nat.le_trans h.1 hL, fun d hd => An.sim hL (h.2 d hd)⟩
  | n + 1, .tuple ds, h => ⟨Nat.le_trans h.1 hL, fun d hd => An.sim hL (h.2 d hd)⟩
  | 0, .list _, h => h.elim
  | 0, .tuple _, h => h.elim
  | n, .dict _, h => by cases n <;> exact h.elim
theorem ok_app {a b : Str} (ha : PyData.strOk a = true) (hb : PyData.strOk b = true) : PyData.strOk (a ++ b) = true := by
  show (a.cps ++ b.cps).all (· < 0x110000) = true
  rw [Array.all_append, Bool.and_eq_true]
  exact ⟨ha, hb⟩
theorem ok_cut {z : Str} (lo hi : Option Int) (hz : PyData.strOk z = true) : PyData.strOk (cutS z lo hi) = true := by
  have hz : z.cps.all (· < 0x110000) = true := hz
  rw [← Array.all_toList] at hz
  show (((z.cps.toList.drop (HT.sIx z.length 0 lo)).take (HT.sIx z.length z.length hi - HT.sIx z.length 0 lo)).toArray).all (· < 0x110000) = true
  rw [← Array.all_toList]
  rw [List.all_eq_true] at hz ⊢
  intro x hx
  exact hz x (List.mem_of_mem_drop (List.mem_of_mem_take (by simpa using hx)))

-- NEEDS most
-- NEEDS within
-- NEEDS anyd
/-! the end of strips cut one behind another -/
def endZ (r d z : Int) : Int → List Int → Int
  | f, [] => f
  | f, p :: ps => endZ r d z (nxt r d f p + z) ps
theorem endZ_ge {r d z : Int} (hr : 0 < r) (hz : 0 ≤ z) : ∀ (f : Int) (ps : List Int), f ≤ endZ r d z f ps
  | f, [] => Int.le_refl _
  | f, p :: ps => by
    have h1 := endZ_ge (d := d) hr hz (nxt r d f p + z) ps
    have h2 := (nxt_spec (d := d) (f := f) (n := p) hr).1
    rw [endZ]
    omega
theorem bgs_end {r d l z : Int} (hr : 0 < r) (hz : 0 ≤ z) : ∀ (f : Int) (acc ps : List Int), f ≤ l → (bgs r d l z f acc ps).isNone = decide (l < endZ r d z f ps)
  | f, acc, [], h => by
    rw [bgs, endZ, decide_eq_false (by omega)]
    rfl
  | f, acc, p :: ps, h => by
    rw [bgs, endZ]
    by_cases q : l < nxt r d f p + z
    · rw [if_pos q]
      have := endZ_ge (d := d) hr hz (nxt r d f p + z) ps
      rw [decide_eq_true (by omega)]
      rfl
    · rw [if_neg q]
      exact bgs_end hr hz _ _ _ (by omega)
/-! plans -/
def rollB (r d l z n : Int) : PyData → Option (List Int)
  | .tuple ds => if ds = [] then none else if ds.all (fun x => within x 0 (n - 1)) = true then (if l < endZ r d z 0 (ds.map valI) then none else some (ds.map valI)) else none
  | _ => none
theorem rollB_t {r d l z n : Int} {ds : List PyData} : rollB r d l z n (.tuple ds) = (if ds = [] then none else if ds.all (fun x => within x 0 (n - 1)) = true then (if l < endZ r d z 0 (ds.map valI) then none else some (ds.map valI)) else none) := rfl
def seenA (r d l z n : Int) : List Int → List PyData → Option (List Int)
  | acc, [] => some acc
  | acc, x :: xs => match rollB r d l z n x with
    | none => none
    | some ps => seenA r d l z n (acc ++ ps) xs
def rngI (n : Nat) : List Int := (List.range n).map fun i => 0 + ((i : Nat) : Int)
theorem rngI_D (n : Nat) : rngD 0 n = (rngI n).map PyData.int := by
  unfold rngD rngI
  rw [List.map_map]
  rfl
theorem rngI_inc (n : Nat) : (rngI n).Pairwise (· ≤ ·) := by
  unfold rngI
  rw [List.pairwise_map]
  exact List.Pairwise.imp (fun {a b} h => by omega) List.pairwise_lt_range
def planB (r d l z n : Int) : PyData → Bool
  | .tuple rs => match seenA r d l z n [] rs with
    | none => false
    | some ns => decide (ns.Perm (rngI n.toNat))
  | _ => false
theorem planB_t {r d l z n : Int} {rs : List PyData} : planB r d l z n (.tuple rs) = (match seenA r d l z n [] rs with | none => false | some ns => decide (ns.Perm (rngI n.toNat))) := rfl
theorem sorted_is {ms ns : List Int} {n : Nat} (h1 : ms.Perm ns) (h2 : ms.Pairwise (· ≤ ·)) : decide (ms = rngI n) = decide (ns.Perm (rngI n)) := by
  by_cases h : ms = rngI n
  · rw [decide_eq_true h, decide_eq_true]
    rw [← h]
    exact h1.symm
  · rw [decide_eq_false h, decide_eq_false]
    intro q
    apply h
    exact (h1.trans q).eq_of_pairwise (fun x y _ _ a b => by omega) h2 (rngI_inc n)
theorem within_int {ds : List PyData} {lo hi : Int} (h : ds.all (fun x => within x lo hi) = true) : ds = (ds.map valI).map PyData.int := by
  rw [List.map_map]
  rw [List.all_eq_true] at h
  conv => lhs; rw [← List.map_id ds]
  refine List.map_congr_left fun d hd => ?_
  have := h d hd
  cases d <;> first | rfl | cases this
theorem rollB_len {r d l z n : Int} {x : PyData} {ps : List Int} {m L : Nat} (h : rollB r d l z n x = some ps) (ha : An m L x) : ps.length ≤ L := by
  cases x with
  | tuple ds =>
    have hl : ds.length ≤ L := by
      cases m with
      | zero => exact ha.elim
      | succ m => exact ha.1
    have h : (if ds = [] then none else if ds.all (fun x => within x 0 (n - 1)) = true then (if l < endZ r d z 0 (ds.map valI) then none else some (ds.map valI)) else none) = some ps := h
    split at h
    · cases h
    · split at h
      · split at h
        · cases h
        · cases h
          rw [List.length_map]
          exact hl
      · cases h
  | none => cases h
  | bool _ => cases h
  | int _ => cases h
  | str _ => cases h
  | list _ => cases h
  | dict _ => cases h
theorem eqv_nilTD {ds : List PyData} : PyData.eqv (.tuple ds) (.tuple []) = decide (ds = []) := by
  cases ds <;> simp [PyData.eqv, PyData.eqvAll]

-- NEEDS most
/-! the rolls of all lines, strip by strip -/
def lineT (r d l z : Int) : List Int → List (List Int) × List Int → Option (List (List Int) × List Int)
  | [], st => some st
  | p :: ps, (rs, ro) => if l < p * d % r + z then none else if (bgs r d l z 0 [] (ro ++ [p])).isNone = true then lineT r d l z ps (rs ++ [ro], [p]) else lineT r d l z ps (rs, ro ++ [p])
/-- the places of a line -/
def plc (s n i : Int) : List Int := (List.range (rgN i n s)).map fun j => i + ((j : Nat) : Int) * s
def turnA (r d l z s n : Int) : List Int → List (List Int) → Option (List (List Int))
  | [], rs => some rs
  | i :: is, rs => match lineT r d l z (plc s n i) (rs, []) with
    | none => none
    | some (rs', ro) => turnA r d l z s n is (rs' ++ [ro])
def linesI (k : Nat) : List Int := (List.range k).map fun i => 0 + ((i : Nat) : Int)
def turned (r d l z s n : Int) : Option (List (List Int)) := turnA r d l z s n (linesI (min s n).toNat) []
def optR : Option (List (List Int)) → PyData
  | none => .none
  | some rs => .list (rs.map fun ro => .tuple (ro.map PyData.int))
theorem rgN_le {i n s : Int} (hs : 0 < s) (hi : 0 ≤ i) (hn : 0 ≤ n) : rgN i n s ≤ n.toNat := by
  unfold rgN
  split
  · have h1 := Int.ediv_nonneg (a := n - i - 1) (b := s) (by omega) (by omega)
    have h2 := Int.ediv_le_self s (show (0 : Int) ≤ n - i - 1 by omega)
    omega
  · simp
theorem plc_D (s n i : Int) : rng3D i s (rgN i n s) = (plc s n i).map PyData.int := by
  unfold rng3D plc
  rw [List.map_map]
  rfl
theorem plc_len {s n i : Int} : (plc s n i).length = rgN i n s := by simp [plc]
theorem linesI_D (k : Nat) : rngD 0 k = (linesI k).map PyData.int := by
  unfold rngD linesI
  rw [List.map_map]
  rfl
theorem linesI_at {k i : Nat} (h : i < k) : (linesI k)[i]? = some ((i : Nat) : Int) := by
  unfold linesI
  simp [h]
theorem linesI_len {k : Nat} : (linesI k).length = k := by simp [linesI]

-- NEEDS turned
/-! the strips of all rolls, line by line -/
def layL (r d l z : Int) : List Int → List (List (Int × Int)) → List (Int × Int) → Int → List (List (Int × Int)) × List (Int × Int)
  | [], o, ro, _ => (o, ro)
  | p :: ps, o, ro, f => if l < nxt r d f p + z then layL r d l z ps (o ++ [ro]) [(p, p * d % r)] (p * d % r + z) else layL r d l z ps o (ro ++ [(p, nxt r d f p)]) (nxt r d f p + z)
def layA (r d l z s n : Int) : List Int → List (List (Int × Int)) → List (List (Int × Int))
  | [], o => o
  | i :: is, o => layA r d l z s n is ((layL r d l z (plc s n i) o [] 0).1 ++ [(layL r d l z (plc s n i) o [] 0).2])
def lay (r d l z s n : Int) : List (List (Int × Int)) := layA r d l z s n (linesI (min s n).toNat) []
def pcut (q : Int × Int) : PyData := .tuple [.int q.1, .int q.2]
def prow (ro : List (Int × Int)) : PyData := .tuple (ro.map pcut)

-- NEEDS turns
theorem cnt_eq {s n i : Int} (hs : 0 < s) (hi : 0 ≤ i) (h : i < s) : cnt s n i = n / s + (if i < n % s then 1 else 0) := by
  have e := Int.emod_add_mul_ediv n s
  have t0 := Int.emod_nonneg n (show s ≠ 0 by omega)
  have t1 := Int.emod_lt_of_pos n hs
  unfold cnt
  have e1 : n - i + s - 1 = (n % s - i + s - 1) + (n / s) * s := by rw [Int.mul_comm (n / s) s]; omega
  rw [e1, Int.add_mul_ediv_right _ _ (by omega)]
  by_cases q : i < n % s
  · rw [if_pos q]
    have e2 : (n % s - i + s - 1) / s = 1 := by
      have a1 : 1 ≤ (n % s - i + s - 1) / s := (Int.le_ediv_iff_mul_le hs).mpr (by omega)
      have a2 : (n % s - i + s - 1) / s < 2 := (Int.ediv_lt_iff_lt_mul hs).mpr (by omega)
      omega
    omega
  · rw [if_neg q]
    have e2 : (n % s - i + s - 1) / s = 0 := by
      have a1 : 0 ≤ (n % s - i + s - 1) / s := (Int.le_ediv_iff_mul_le hs).mpr (by omega)
      have a2 : (n % s - i + s - 1) / s < 1 := (Int.ediv_lt_iff_lt_mul hs).mpr (by omega)
      omega
    omega
def sumC (s n : Int) : Nat → Int
  | 0 => 0
  | k + 1 => sumC s n k + cnt s n (k : Nat)
theorem sumC_eq {s n : Int} (hs : 0 < s) : ∀ k : Nat, (k : Int) ≤ s → sumC s n k = k * (n / s) + min (k : Int) (n % s)
  | 0, _ => by
    have t0 := Int.emod_nonneg n (show s ≠ 0 by omega)
    simp [sumC]
    omega
  | k + 1, h => by
    rw [sumC, sumC_eq hs k (by omega), cnt_eq hs (by omega) (by omega)]
    have e : ((k + 1 : Nat) : Int) * (n / s) = k * (n / s) + n / s := by rw [Int.natCast_add, Int.add_mul]; simp
    rw [e]
    split <;> omega
theorem sumC_all {s n : Int} (hs : 0 < s) (hn : 0 ≤ n) : sumC s n (min s n).toNat = n := by
  have e := Int.emod_add_mul_ediv n s
  have t0 := Int.emod_nonneg n (show s ≠ 0 by omega)
  have t1 := Int.emod_lt_of_pos n hs
  rw [sumC_eq hs _ (by omega)]
  have ec : (((min s n).toNat : Nat) : Int) = min s n := by omega
  rw [ec]
  by_cases h : s ≤ n
  · rw [Int.min_eq_left h]
    omega
  · have h1 : n / s = 0 := Int.ediv_eq_zero_of_lt hn (by omega)
    have h2 : n % s = n := Int.emod_eq_of_lt hn (by omega)
    rw [h1, h2]
    omega
theorem rbF_le {r d l z s n : Int} (hr : 0 < r) (hz : 1 ≤ z) (hs : 0 < s) (h : allC r d l z n = true) : ∀ k : Nat, (k : Int) ≤ min s n → rbF r d l z s n k ≤ sumC s n k
  | 0, _ => Int.le_refl _
  | k + 1, hk => by
    have h1 := rbF_le hr hz hs h k (by omega)
    have hb := cnt_bd (s := s) (n := n) (i := (k : Nat)) hs (by omega) (by omega)
    have h2 := rl_le (gl_pos (i := (k : Nat)) hr hz hs (by omega) h) _ 0 (Int.le_refl _) hb.1 rfl
    rw [rbF, sumC]
    omega
theorem rbF_ge {r d l z s n : Int} (hr : 0 < r) (hd : 0 ≤ d) (hz : 1 ≤ z) (hl : z ≤ l) (hs : 0 < s) (h : allC r d l z n = true) : ∀ k : Nat, (k : Int) ≤ min s n → sumC s n k ≤ rbF r d l z s n k * most (pg r d) l z
  | 0, _ => by simp [sumC, rbF]
  | k + 1, hk => by
    have h1 := rbF_ge hr hd hz hl hs h k (by omega)
    have hm := most_le (g := pg r d) (up_pos (pg_pos (d := d) (by omega)) hz) hl (by omega)
    have h2 := rl_ge (M := most (pg r d) l z) (gl_pos (i := (k : Nat)) hr hz hs (by omega) h) (fun x _ _ => sf_le hr hd hz hl) (by omega) _ 0 (Int.le_refl _) rfl
    rw [rbF, sumC, Int.add_mul]
    omega
theorem rl_const {g : Int → Int} {c M : Int} (hM : 1 ≤ M) (hg : ∀ x, 0 ≤ x → x < c → g x = M) : ∀ (n : Nat) (x : Int), 0 ≤ x → x ≤ c + M - 1 → (c - x).toNat = n → rl g c x = (c - x + M - 1) / M := by
  intro n
  induction n using Nat.strongRecOn with
  | _ n ih =>
    intro x h0 h1 hn
    by_cases h : x < c
    · rw [rl_step (fun x a b => by rw [hg x a b]; exact hM) h0 h, hg x h0 h]
      rw [ih (c - (x + M)).toNat (by omega) (x + M) (by omega) (by omega) rfl]
      have e : c - x + M - 1 = (c - (x + M) + M - 1) + 1 * M := by omega
      rw [e, Int.add_mul_ediv_right _ _ (by omega)]
      omega
    · rw [rl_end (by omega)]
      have e : (c - x + M - 1) / M = 0 := Int.ediv_eq_zero_of_lt (by omega) (by omega)
      omega
/-- the places up to i all can be cut -/
def allP (r d l z : Int) (i : Nat) : Bool := (List.range i).all fun p => decide (((p : Nat) : Int) * d % r + z ≤ l)
theorem allP_succ {r d l z : Int} {i : Nat} : allP r d l z (i + 1) = (allP r d l z i && decide (((i : Nat) : Int) * d % r + z ≤ l)) := by
  unfold allP
  rw [List.range_succ, List.all_append]
  simp

-- NEEDS layout
-- NEEDS counts
-- NEEDS plans
/-! rolls by turns, strip by strip: how many, and where each strip begins -/
def bgz (r d z : Int) : Int → List Int → List Int
  | _, [] => []
  | f, p :: ps => nxt r d f p :: bgz r d z (nxt r d f p + z) ps
theorem bgs_z {r d l z : Int} (hr : 0 < r) (hz : 0 ≤ z) : ∀ (f : Int) (acc ps : List Int), f ≤ l → bgs r d l z f acc ps = if l < endZ r d z f ps then none else some (acc ++ bgz r d z f ps)
  | f, acc, [], h => by
    rw [bgs, endZ, if_neg (by omega), bgz, List.append_nil]
  | f, acc, p :: ps, h => by
    rw [bgs, endZ, bgz]
    by_cases q : l < nxt r d f p + z
    · have := endZ_ge (d := d) hr hz (nxt r d f p + z) ps
      rw [if_pos q, if_pos (by omega)]
    · rw [if_neg q, bgs_z hr hz _ _ _ (by omega), List.append_assoc]
      rfl
theorem endZ_app {r d z : Int} : ∀ (f : Int) (ps qs : List Int), endZ r d z f (ps ++ qs) = endZ r d z (endZ r d z f ps) qs
  | f, [], qs => rfl
  | f, p :: ps, qs => by
    rw [List.cons_append, endZ, endZ]
    exact endZ_app _ ps qs
theorem bgz_app {r d z : Int} : ∀ (f : Int) (ps qs : List Int), bgz r d z f (ps ++ qs) = bgz r d z f ps ++ bgz r d z (endZ r d z f ps) qs
  | f, [], qs => rfl
  | f, p :: ps, qs => by
    rw [List.cons_append, bgz, bgz, endZ, bgz_app _ ps qs]
    rfl
theorem bgz_len {r d z : Int} : ∀ (f : Int) (ps : List Int), (bgz r d z f ps).length = ps.length
  | f, [] => rfl
  | f, p :: ps => by
    rw [bgz, List.length_cons, List.length_cons, bgz_len _ ps]
def rowZ (r d z : Int) (ro : List Int) : List (Int × Int) := ro.zip (bgz r d z 0 ro)
theorem rowZ_snoc {r d z p : Int} {ro : List Int} : rowZ r d z (ro ++ [p]) = rowZ r d z ro ++ [(p, nxt r d (endZ r d z 0 ro) p)] := by
  unfold rowZ
  rw [bgz_app, List.zip_append (by rw [bgz_len])]
  rfl
theorem isNone_z {r d l z p : Int} {ro : List Int} (hr : 0 < r) (hz : 0 ≤ z) (hl : 0 ≤ l) : ((bgs r d l z 0 [] (ro ++ [p])).isNone = true) ↔ l < nxt r d (endZ r d z 0 ro) p + z := by
  rw [bgs_end hr hz 0 [] (ro ++ [p]) hl, endZ_app]
  exact decide_eq_true_iff
theorem line_lay {r d l z : Int} (hr : 0 < r) (hz : 0 ≤ z) (hl : 0 ≤ l) : ∀ (ps : List Int) (rs : List (List Int)) (ro : List Int) (rs' : List (List Int)) (ro' : List Int), endZ r d z 0 ro ≤ l → (∀ q ∈ rs, endZ r d z 0 q ≤ l) → lineT r d l z ps (rs, ro) = some (rs', ro') →
    layL r d l z ps (rs.map (rowZ r d z)) (rowZ r d z ro) (endZ r d z 0 ro) = (rs'.map (rowZ r d z), rowZ r d z ro') ∧ endZ r d z 0 ro' ≤ l ∧ ∀ q ∈ rs', endZ r d z 0 q ≤ l
  | [], rs, ro, rs', ro', h1, h2, h => by
    rw [lineT] at h
    cases h
    exact ⟨rfl, h1, h2⟩
  | p :: ps, rs, ro, rs', ro', h1, h2, h => by
    rw [lineT] at h
    by_cases q : l < p * d % r + z
    · rw [if_pos q] at h
      cases h
    rw [if_neg q] at h
    rw [layL]
    by_cases t : l < nxt r d (endZ r d z 0 ro) p + z
    · rw [if_pos ((isNone_z hr hz hl).mpr t)] at h
      rw [if_pos t]
      have e1 : rowZ r d z [p] = [(p, p * d % r)] := by
        show [(p, nxt r d 0 p)] = _
        rw [nxt_zero]
      have e2 : endZ r d z 0 [p] = p * d % r + z := by
        show nxt r d 0 p + z = _
        rw [nxt_zero]
      have := line_lay hr hz hl ps (rs ++ [ro]) [p] rs' ro' (by omega) (fun q hq => by
        rcases List.mem_append.mp hq with hq | hq
        · exact h2 q hq
        · simp at hq
          rw [hq]
          exact h1) h
      rw [e1, e2, List.map_append] at this
      exact this
    · rw [if_neg (fun x => t ((isNone_z hr hz hl).mp x))] at h
      rw [if_neg t]
      have e2 : endZ r d z 0 (ro ++ [p]) = nxt r d (endZ r d z 0 ro) p + z := by rw [endZ_app]; rfl
      have := line_lay hr hz hl ps rs (ro ++ [p]) rs' ro' (by omega) h2 h
      rw [rowZ_snoc, e2] at this
      exact this
theorem turn_lay {r d l z s n : Int} (hr : 0 < r) (hz : 0 ≤ z) (hl : 0 ≤ l) : ∀ (is : List Int) (rs rs' : List (List Int)), (∀ q ∈ rs, endZ r d z 0 q ≤ l) → turnA r d l z s n is rs = some rs' → layA r d l z s n is (rs.map (rowZ r d z)) = rs'.map (rowZ r d z) ∧ ∀ q ∈ rs', endZ r d z 0 q ≤ l
  | [], rs, rs', h1, h => by
    rw [turnA] at h
    cases h
    exact ⟨rfl, h1⟩
  | i :: is, rs, rs', h1, h => by
    rw [turnA] at h
    cases q : lineT r d l z (plc s n i) (rs, []) with
    | none =>
      rw [q] at h
      cases h
    | some st =>
      obtain ⟨ra, ro⟩ := st
      rw [q] at h
      obtain ⟨e1, e2, e3⟩ := line_lay hr hz hl _ rs [] ra ro (show endZ r d z 0 [] ≤ l from hl) h1 q
      have e1 : layL r d l z (plc s n i) (rs.map (rowZ r d z)) [] 0 = (ra.map (rowZ r d z), rowZ r d z ro) := e1
      rw [layA, e1]
      have := turn_lay hr hz hl is (ra ++ [ro]) rs' (fun q hq => by
        rcases List.mem_append.mp hq with hq | hq
        · exact e3 q hq
        · simp at hq
          rw [hq]
          exact e2) h
      rw [List.map_append] at this
      exact this
theorem turned_lay {r d l z s n : Int} {rs : List (List Int)} (hr : 0 < r) (hz : 0 ≤ z) (hl : 0 ≤ l) (h : turned r d l z s n = some rs) : lay r d l z s n = rs.map (rowZ r d z) ∧ ∀ q ∈ rs, endZ r d z 0 q ≤ l :=
  turn_lay hr hz hl _ [] rs (fun q hq => by cases hq) h
/-! how many -/
theorem nxt_step {r d z s q k : Int} : nxt r d (q * d % r + k * stp r d z s + z) (q + (k + 1) * s) = q * d % r + (k + 1) * stp r d z s := by
  have e0 : stp r d z s = z + (s * d - z) % r := rfl
  have e1 := Int.emod_add_mul_ediv (s * d - z) r
  have e2 := Int.emod_add_mul_ediv (q * d) r
  unfold nxt
  have e3 : (q + (k + 1) * s) * d - (q * d % r + k * stp r d z s + z) = (s * d - z) + r * (q * d / r + k * ((s * d - z) / r)) := by
    have a1 : stp r d z s = s * d - r * ((s * d - z) / r) := by omega
    have a2 : q * d % r = q * d - r * (q * d / r) := by omega
    rw [a1, a2, Int.add_mul, Int.add_mul, Int.add_mul, Int.one_mul, Int.mul_add, Int.mul_sub]
    have a3 : k * (r * ((s * d - z) / r)) = r * (k * ((s * d - z) / r)) := by rw [← Int.mul_assoc, Int.mul_comm k r, Int.mul_assoc]
    have a4 : k * s * d = k * (s * d) := Int.mul_assoc _ _ _
    omega
  rw [e3, Int.add_mul_emod_self_left]
  rw [Int.add_mul k 1, Int.one_mul]
  omega
/-- so many places, from p on, in steps of s -/
def plp (p s : Int) (k : Nat) : List Int := (List.range k).map fun j => p + ((j : Nat) : Int) * s
theorem plp_succ {p s : Int} {k : Nat} : plp p s (k + 1) = plp p s k ++ [p + (k : Int) * s] := by
  unfold plp
  rw [List.range_succ, List.map_append]
  rfl
theorem plp_end {r d z p s : Int} : ∀ k : Nat, endZ r d z 0 (plp p s (k + 1)) = p * d % r + (k : Int) * stp r d z s + z
  | 0 => by
    show nxt r d 0 (p + ((0 : Nat) : Int) * s) + z = _
    have e : p + ((0 : Nat) : Int) * s = p := by simp
    rw [e, nxt_zero]
    simp
  | k + 1 => by
    rw [plp_succ, endZ_app, plp_end k]
    show nxt r d _ (p + ((k + 1 : Nat) : Int) * s) + z = _
    have e : ((k + 1 : Nat) : Int) = (k : Int) + 1 := by omega
    rw [e, nxt_step]
theorem sf_iff {r d l z s p : Int} (hr : 0 < r) (hz : 1 ≤ z) (hp : p * d % r + z ≤ l) (k : Int) : k < sf r d l z s p ↔ p * d % r + k * stp r d z s + z ≤ l := by
  unfold sf
  rw [if_pos hp]
  have h1 := stp_ge (d := d) (z := z) (s := s) hr
  have := Int.le_ediv_iff_mul_le (a := k) (b := l - z - p * d % r) (show 0 < stp r d z s by omega)
  constructor
  · intro h
    have := this.mp (by omega)
    omega
  · intro h
    have := this.mpr (by omega)
    omega
theorem rgN_cnt {s n i : Int} (hs : 0 < s) : ((rgN i n s : Nat) : Int) = if i < n then cnt s n i else 0 := by
  unfold rgN cnt
  by_cases h : i < n
  · rw [if_pos h, if_pos h]
    have e : n - i + s - 1 = (n - i - 1) + 1 * s := by omega
    rw [e, Int.add_mul_ediv_right _ _ (by omega)]
    have := Int.ediv_nonneg (a := n - i - 1) (b := s) (by omega) (by omega)
    omega
  · rw [if_neg h, if_neg h]
    rfl
theorem lineT_cnt {r d l z s n i : Int} (hr : 0 < r) (hz : 1 ≤ z) (hl : 0 ≤ l) (hs : 0 < s) (hfit : ∀ x : Int, 0 ≤ x → x < (rgN i n s : Nat) → (i + x * s) * d % r + z ≤ l) : ∀ (m x a : Nat) (rs : List (List Int)) (ro : List Int), rgN i n s - x = m → x ≤ rgN i n s → a < x → ((x : Int) - a ≤ gl r d l z s i a) → endZ r d z 0 ro = (i + (a : Int) * s) * d % r + ((x : Int) - a - 1) * stp r d z s + z →
    ∃ rs' ro', lineT r d l z ((plc s n i).drop x) (rs, ro) = some (rs', ro') ∧ (rs'.length : Int) + 1 = rs.length + rl (gl r d l z s i) (rgN i n s : Nat) a := by
  have hg : ∀ x, 0 ≤ x → x < ((rgN i n s : Nat) : Int) → 1 ≤ gl r d l z s i x := fun x h0 h1 => sf_pos hr hz (hfit x h0 h1)
  intro m
  induction m with
  | zero =>
    intro x a rs ro hm hx ha h1 h2
    have e : (plc s n i).drop x = [] := List.drop_eq_nil_of_le (by rw [plc_len]; omega)
    rw [e, lineT]
    refine ⟨rs, ro, rfl, ?_⟩
    rw [rl_step hg (by omega) (by omega), rl_end (by omega)]
    omega
  | succ m ih =>
    intro x a rs ro hm hx ha h1 h2
    have hlt : x < (plc s n i).length := by rw [plc_len]; omega
    have e : (plc s n i).drop x = (i + (x : Int) * s) :: (plc s n i).drop (x + 1) := by
      rw [List.drop_eq_getElem_cons hlt]
      congr 1
      simp [plc]
    have hf := hfit x (by omega) (by omega)
    have hfa := hfit a (by omega) (by omega)
    rw [e, lineT, if_neg (by omega)]
    have en : nxt r d (endZ r d z 0 ro) (i + (x : Int) * s) = (i + (a : Int) * s) * d % r + ((x : Int) - a) * stp r d z s := by
      have := nxt_step (r := r) (d := d) (z := z) (s := s) (q := i + (a : Int) * s) (k := (x : Int) - a - 1)
      have c1 : (x : Int) - a - 1 + 1 = x - a := by omega
      have c2 : i + (a : Int) * s + ((x : Int) - a) * s = i + x * s := by rw [Int.sub_mul]; omega
      rw [c1, c2] at this
      rw [h2, this]
    have hsf := sf_iff (s := s) hr hz hfa ((x : Int) - a)
    by_cases t : (x : Int) - a < gl r d l z s i a
    · have t2 := hsf.mp t
      rw [if_neg (fun y => by
        have := (isNone_z hr (by omega) hl).mp y
        rw [en] at this
        omega)]
      refine ih (x + 1) a rs (ro ++ [i + (x : Int) * s]) (by omega) (by omega) (by omega) (by omega) ?_
      rw [endZ_app]
      show nxt r d (endZ r d z 0 ro) (i + (x : Int) * s) + z = _
      rw [en]
      have c1 : ((x + 1 : Nat) : Int) - a - 1 = x - a := by omega
      rw [c1]
    · have t2 : ¬ ((i + (a : Int) * s) * d % r + ((x : Int) - a) * stp r d z s + z ≤ l) := fun y => t (hsf.mpr y)
      rw [if_pos ((isNone_z hr (by omega) hl).mpr (by rw [en]; omega))]
      have eg : (x : Int) = a + gl r d l z s i a := by omega
      obtain ⟨rs', ro', q1, q2⟩ := ih (x + 1) x (rs ++ [ro]) [i + (x : Int) * s] (by omega) (by omega) (by omega) (by
        have := hg x (by omega) (by omega)
        omega) (by
        show nxt r d 0 (i + (x : Int) * s) + z = _
        rw [nxt_zero]
        have c1 : ((x + 1 : Nat) : Int) - x - 1 = 0 := by omega
        rw [c1]
        omega)
      refine ⟨rs', ro', q1, ?_⟩
      rw [q2, List.length_append, rl_step hg (x := a) (by omega) (by omega), ← eg]
      simp
      omega
theorem lineT_all {r d l z s n i : Int} (hr : 0 < r) (hz : 1 ≤ z) (hl : 0 ≤ l) (hs : 0 < s) (hin : i < n) (hfit : ∀ x : Int, 0 ≤ x → x < cnt s n i → (i + x * s) * d % r + z ≤ l) (rs : List (List Int)) :
    ∃ rs' ro', lineT r d l z (plc s n i) (rs, []) = some (rs', ro') ∧ (rs'.length : Int) + 1 = rs.length + rl (gl r d l z s i) (cnt s n i) 0 := by
  have ec := rgN_cnt (n := n) (i := i) hs
  rw [if_pos hin] at ec
  have hc1 : 1 ≤ cnt s n i := by
    unfold cnt
    exact (Int.le_ediv_iff_mul_le hs).mpr (by omega)
  have hfit' : ∀ x : Int, 0 ≤ x → x < (rgN i n s : Nat) → (i + x * s) * d % r + z ≤ l := fun x h0 h1 => hfit x h0 (by omega)
  have hlt : 0 < (plc s n i).length := by rw [plc_len]; omega
  have e : plc s n i = i :: (plc s n i).drop 1 := by
    have := List.drop_eq_getElem_cons hlt
    rw [List.drop_zero] at this
    rw [this]
    congr 1
    simp [plc]
  have h0 := hfit 0 (by omega) (by omega)
  have e0 : i + 0 * s = i := by omega
  rw [e0] at h0
  obtain ⟨rs', ro', q1, q2⟩ := lineT_cnt hr hz hl hs hfit' _ 1 0 rs [i] rfl (by omega) (by omega) (by
    have := sf_pos (s := s) hr hz h0
    unfold gl
    have e1 : i + ((0 : Nat) : Int) * s = i := by omega
    rw [e1]
    omega) (by
    show nxt r d 0 i + z = _
    have e1 : i + ((0 : Nat) : Int) * s = i := by omega
    rw [nxt_zero, e1]
    omega)
  refine ⟨rs', ro', ?_, ?_⟩
  · rw [e, lineT, if_neg (by omega), if_neg (fun y => by
      have := (isNone_z (ro := []) hr (by omega) hl).mp y
      have this : l < nxt r d 0 i + z := this
      rw [nxt_zero] at this
      omega)]
    exact q1
  · rw [q2, ec]
    rfl
theorem lineT_fit {r d l z : Int} : ∀ (ps : List Int) (rs : List (List Int)) (ro : List Int), lineT r d l z ps (rs, ro) ≠ none → ∀ p ∈ ps, p * d % r + z ≤ l
  | [], _, _, _, p, hp => by cases hp
  | q :: ps, rs, ro, h, p, hp => by
    rw [lineT] at h
    by_cases hq : l < q * d % r + z
    · rw [if_pos hq] at h
      exact absurd rfl h
    rw [if_neg hq] at h
    rcases List.mem_cons.mp hp with hp | hp
    · rw [hp]
      omega
    · split at h
      · exact lineT_fit ps _ _ h p hp
      · exact lineT_fit ps _ _ h p hp
theorem turnA_fit {r d l z s n : Int} : ∀ (is : List Int) (rs : List (List Int)), turnA r d l z s n is rs ≠ none → ∀ i ∈ is, ∀ p ∈ plc s n i, p * d % r + z ≤ l
  | [], _, _, i, hi => by cases hi
  | j :: is, rs, h, i, hi => by
    rw [turnA] at h
    cases q : lineT r d l z (plc s n j) (rs, []) with
    | none =>
      rw [q] at h
      exact absurd rfl h
    | some st =>
      rw [q] at h
      rcases List.mem_cons.mp hi with hi | hi
      · rw [hi]
        exact lineT_fit _ _ _ (by rw [q]; simp)
      · exact turnA_fit is _ h i hi
theorem turnA_cnt {r d l z s n : Int} (hr : 0 < r) (hz : 1 ≤ z) (hl : 0 ≤ l) (hs : 0 < s) (h : allC r d l z n = true) : ∀ (m i : Nat) (rs : List (List Int)), (min s n).toNat - i = m → i ≤ (min s n).toNat → (rs.length : Int) = rbF r d l z s n i →
    ∃ rs', turnA r d l z s n ((linesI (min s n).toNat).drop i) rs = some rs' ∧ (rs'.length : Int) = rbF r d l z s n (min s n).toNat := by
  intro m
  induction m with
  | zero =>
    intro i rs hm hi hrs
    have e : (linesI (min s n).toNat).drop i = [] := List.drop_eq_nil_of_le (by rw [linesI_len]; omega)
    have ei : i = (min s n).toNat := by omega
    rw [e, turnA]
    exact ⟨rs, rfl, by rw [← ei]; exact hrs⟩
  | succ m ih =>
    intro i rs hm hi hrs
    have ed : (linesI (min s n).toNat).drop i = ((i : Nat) : Int) :: (linesI (min s n).toNat).drop (i + 1) := by
      rw [List.drop_eq_getElem_cons (by rw [linesI_len]; omega)]
      congr 1
      exact (List.getElem?_eq_some_iff.mp (linesI_at (by omega))).2
    obtain ⟨rs', ro', q1, q2⟩ := lineT_all (d := d) (n := n) (i := (i : Nat)) hr hz hl hs (by omega) (fun x h0 h1 => allC_at hr h (by
      have := Int.mul_nonneg h0 (show 0 ≤ s by omega)
      omega) (cnt_lt hs h1)) rs
    rw [ed, turnA, q1]
    refine ih (i + 1) (rs' ++ [ro']) (by omega) (by omega) ?_
    rw [List.length_append, rbF]
    simp
    omega
theorem allC_mem {r d l z n : Int} (h : ∀ p : Int, 0 ≤ p → p < n → p * d % r + z ≤ l) : allC r d l z n = true := by
  unfold allC
  rw [List.all_eq_true]
  intro p hp
  have := List.mem_range.mp hp
  exact decide_eq_true (h p (by omega) (by omega))
/-- the rolls by turns, and None where there are none -/
theorem turned_rbt {r d l z s n : Int} (hr : 0 < r) (hz : 1 ≤ z) (hl : 0 ≤ l) (hs : 0 < s) (hn : 0 ≤ n) : match turned r d l z s n with
    | none => rbt r d l z s n = none
    | some rs => rbt r d l z s n = some (rs.length : Int) := by
  by_cases h : allC r d l z n = true
  · obtain ⟨rs', q1, q2⟩ := turnA_cnt hr hz hl hs h _ 0 [] rfl (by omega) rfl
    have q1 : turned r d l z s n = some rs' := q1
    rw [q1]
    show rbt r d l z s n = _
    unfold rbt
    rw [if_pos h, q2]
  · have e : rbt r d l z s n = none := by
      unfold rbt
      rw [if_neg h]
    cases q : turned r d l z s n with
    | none => exact e
    | some rs =>
      refine absurd (allC_mem fun p h0 h1 => ?_) h
      have t0 := Int.emod_nonneg p (show s ≠ 0 by omega)
      have t1 := Int.emod_lt_of_pos p hs
      have t2 := Int.emod_add_mul_ediv p s
      have t3 := Int.ediv_nonneg h0 (show 0 ≤ s by omega)
      have t4 : 0 ≤ s * (p / s) := Int.mul_nonneg (by omega) t3
      refine turnA_fit _ [] (by show turned r d l z s n ≠ none; rw [q]; simp) (p % s) ?_ p ?_
      · refine List.mem_of_getElem? (i := (p % s).toNat) ?_
        rw [linesI_at (by omega)]
        congr 1
        omega
      · have ec := rgN_cnt (n := n) (i := p % s) hs
        rw [if_pos (by omega)] at ec
        have hlt : p / s < cnt s n (p % s) := by
          unfold cnt
          have e2 : n - p % s + s - 1 = (n - 1 - p % s) + 1 * s := by omega
          rw [e2, Int.add_mul_ediv_right _ _ (by omega)]
          have : p / s ≤ (n - 1 - p % s) / s := (Int.le_ediv_iff_mul_le hs).mpr (by
            rw [Int.mul_comm]
            omega)
          omega
        unfold plc
        refine List.mem_map.mpr ⟨(p / s).toNat, List.mem_range.mpr (by omega), ?_⟩
        have e3 : (((p / s).toNat : Nat) : Int) = p / s := by omega
        rw [e3, Int.mul_comm]
        omega

-- NEEDS plans
-- NEEDS rows
/-! best.py: sets that one roll can give, plans with the fewest rolls -/
def kT (s : List Int) : NestedKey := .tup (s.map NestedKey.num)
def kL (s : List Int) (p : Int) : NestedKey := .tup [kT s, .num p]
theorem datas_num : ∀ s : List Int, NestedKey.datas (s.map NestedKey.num) = s.map PyData.int
  | [] => rfl
  | x :: s => by
    show PyData.int x :: NestedKey.datas (s.map NestedKey.num) = _
    rw [datas_num s]
    rfl
theorem data_kT (s : List Int) : (kT s).data = .tuple (s.map PyData.int) := by
  show PyData.tuple (NestedKey.datas (s.map NestedKey.num)) = _
  rw [datas_num]
theorem data_kL (s : List Int) (p : Int) : (kL s p).data = .tuple [.tuple (s.map PyData.int), .int p] := by
  show PyData.tuple [(kT s).data, .int p] = _
  rw [data_kT]
theorem intKs_num : ∀ s : List Int, Z.intKs (s.map NestedKey.num) = true
  | [] => rfl
  | x :: s => by
    show (Z.intK (.num x) && Z.intKs (s.map NestedKey.num)) = true
    rw [intKs_num s]
    rfl
theorem depth_num : ∀ s : List Int, NestedKey.depthAll (s.map NestedKey.num) = 0
  | [] => rfl
  | x :: s => by
    show max 0 (NestedKey.depthAll (s.map NestedKey.num)) = 0
    rw [depth_num s]
    rfl
theorem keyD_kT (s : List Int) : Z.KeyD (.tuple (s.map PyData.int)) (kT s) := by
  refine ⟨(data_kT s).symm, ⟨_, rfl⟩, intKs_num s, ?_⟩
  show NestedKey.depthAll (s.map NestedKey.num) + 1 ≤ 8
  rw [depth_num]
  decide
theorem keyD_kL (s : List Int) (p : Int) : Z.KeyD (.tuple [.tuple (s.map PyData.int), .int p]) (kL s p) := by
  refine ⟨(data_kL s p).symm, ⟨_, rfl⟩, ?_, ?_⟩
  · show (Z.intKs (s.map NestedKey.num) && (true && true)) = true
    rw [intKs_num]
    rfl
  · show max (NestedKey.depthAll (s.map NestedKey.num) + 1) (max 0 0) + 1 ≤ 8
    rw [depth_num]
    decide
theorem num_inj : ∀ {s t : List Int}, s.map NestedKey.num = t.map NestedKey.num → s = t
  | [], [], _ => rfl
  | [], _ :: _, h => by simp at h
  | _ :: _, [], h => by simp at h
  | x :: s, y :: t, h => by
    simp only [List.map_cons, List.cons.injEq] at h
    have h1 : x = y := by
      have := h.1
      cases this
      rfl
    rw [h1, num_inj h.2]
theorem kT_inj {s t : List Int} (h : kT s = kT t) : s = t := by
  unfold kT at h
  have h := NestedKey.tup.inj h
  exact num_inj h
theorem kL_inj {s t : List Int} {p q : Int} (h : kL s p = kL t q) : s = t ∧ p = q := by
  unfold kL at h
  have h := NestedKey.tup.inj h
  simp only [List.cons.injEq, and_true] at h
  refine ⟨kT_inj h.1, ?_⟩
  have := h.2
  cases this
  rfl
/-! sorted lists -/
def insS (x : Int) : List Int → List Int
  | [] => [x]
  | y :: ys => if x ≤ y then x :: y :: ys else y :: insS x ys
def srt : List Int → List Int
  | [] => []
  | x :: xs => insS x (srt xs)
theorem insS_perm (x : Int) : ∀ ys : List Int, (insS x ys).Perm (x :: ys)
  | [] => .refl _
  | y :: ys => by
    unfold insS
    split
    · exact .refl _
    · exact ((insS_perm x ys).cons y).trans (.swap x y ys)
theorem insS_sorted (x : Int) : ∀ ys : List Int, ys.Pairwise (· ≤ ·) → (insS x ys).Pairwise (· ≤ ·)
  | [], _ => by simp [insS]
  | y :: ys, h => by
    unfold insS
    rw [List.pairwise_cons] at h
    split
    · rename_i q
      rw [List.pairwise_cons]
      refine ⟨fun z hz => ?_, List.pairwise_cons.mpr h⟩
      rcases List.mem_cons.mp hz with rfl | hz
      · exact q
      · have := h.1 z hz
        omega
    · rename_i q
      rw [List.pairwise_cons]
      refine ⟨fun z hz => ?_, insS_sorted x ys h.2⟩
      rcases List.mem_cons.mp ((insS_perm x ys).mem_iff.mp hz) with rfl | hz
      · omega
      · exact h.1 z hz
theorem srt_perm : ∀ xs : List Int, (srt xs).Perm xs
  | [] => .refl _
  | x :: xs => (insS_perm x _).trans ((srt_perm xs).cons x)
theorem srt_sorted : ∀ xs : List Int, (srt xs).Pairwise (· ≤ ·)
  | [] => List.Pairwise.nil
  | x :: xs => insS_sorted x _ (srt_sorted xs)
theorem sorted_uniq {a b : List Int} (h : a.Perm b) (ha : a.Pairwise (· ≤ ·)) (hb : b.Pairwise (· ≤ ·)) : a = b := h.eq_of_pairwise (fun x y _ _ p q => by omega) ha hb
theorem srt_eq {ms xs : List Int} (h : ms.Perm xs) (hs : ms.Pairwise (· ≤ ·)) : ms = srt xs := sorted_uniq (h.trans (srt_perm xs).symm) hs (srt_sorted xs)
theorem srt_congr {xs ys : List Int} (h : xs.Perm ys) : srt xs = srt ys := srt_eq ((srt_perm xs).trans h) (srt_sorted xs)
/-! places, and how many sets there are -/
def InR (n : Int) (q : List Int) : Prop := ∀ p ∈ q, 0 ≤ p ∧ p < n
def subs : Nat → List (List Int)
  | 0 => [[]]
  | n + 1 => subs n ++ (subs n).map (· ++ [(n : Int)])
theorem subs_len : ∀ n : Nat, (subs n).length = 2 ^ n
  | 0 => rfl
  | n + 1 => by
    rw [subs, List.length_append, List.length_map, subs_len n, Nat.pow_succ]
    omega
theorem subs_mono {n m : Nat} (h : n ≤ m) : ∀ s ∈ subs n, s ∈ subs m := by
  induction h with
  | refl => exact fun s h => h
  | step h ih => exact fun s hs => by rw [subs]; exact List.mem_append_left _ (ih s hs)
theorem mem_subs : ∀ (n : Nat) (s : List Int), s.Pairwise (· < ·) → InR n s → s ∈ subs n
  | 0, s, _, h => by
    cases s with
    | nil => simp [subs]
    | cons x xs =>
      have := h x (by simp)
      omega
  | n + 1, s, hs, h => by
    rcases List.eq_nil_or_concat s with rfl | ⟨t, x, rfl⟩
    · rw [subs]
      exact List.mem_append_left _ (mem_subs n [] List.Pairwise.nil fun p hp => by cases hp)
    · rw [List.concat_eq_append] at hs h ⊢
      have hx := h x (by simp)
      rw [List.pairwise_append] at hs
      by_cases e : x = (n : Int)
      · subst e
        rw [subs]
        refine List.mem_append_right _ (List.mem_map_of_mem (mem_subs n t hs.1 fun p hp => ?_))
        have h1 := hs.2.2 p hp (n : Int) (by simp)
        have h2 := h p (by simp [hp])
        omega
      · rw [subs]
        refine List.mem_append_left _ (mem_subs n _ (List.pairwise_append.mpr hs) fun p hp => ?_)
        have h2 := h p hp
        rcases List.mem_append.mp hp with hp | hp
        · have h1 := hs.2.2 p hp x (by simp)
          omega
        · rw [List.mem_singleton] at hp
          subst hp
          omega
theorem lt_of_le_nodup {s : List Int} (h : s.Pairwise (· ≤ ·)) (hn : s.Nodup) : s.Pairwise (· < ·) := by
  unfold List.Nodup at hn
  exact (h.and hn).imp fun ⟨h1, h2⟩ => by omega
theorem srt_subs {n : Nat} {q : List Int} (hn : q.Nodup) (h : InR n q) : srt q ∈ subs n :=
  mem_subs n _ (lt_of_le_nodup (srt_sorted q) ((srt_perm q).nodup_iff.mpr hn)) fun p hp => h p ((srt_perm q).mem_iff.mp hp)
theorem nodup_le {α : Type} [DecidableEq α] : ∀ {l m : List α}, l.Nodup → (∀ x ∈ l, x ∈ m) → l.length ≤ m.length
  | [], m, _, _ => Nat.zero_le _
  | x :: l, m, h, hs => by
    rw [List.nodup_cons] at h
    have hx := hs x (by simp)
    have := nodup_le (m := m.erase x) h.2 fun y hy => (List.mem_erase_of_ne (fun (e : y = x) => h.1 (by rw [← e]; exact hy))).mpr (hs y (List.mem_cons_of_mem _ hy))
    rw [List.length_erase_of_mem hx] at this
    have := List.length_pos_of_mem hx
    rw [List.length_cons]
    omega
theorem nodup_lenN {n : Nat} {q : List Int} (hn : q.Nodup) (h : InR n q) : q.length ≤ n := by
  have := nodup_le (m := rngI n) hn fun p hp => by
    obtain ⟨h1, h2⟩ := h p hp
    unfold rngI
    exact List.mem_map.mpr ⟨p.toNat, List.mem_range.mpr (by omega), by omega⟩
  have e : (rngI n).length = n := by simp [rngI]
  omega
/-! dicts -/
def NodK (kvs : List (NestedKey × PyData)) : Prop := (kvs.map (·.1)).Nodup
theorem gN_none {kvs : List (NestedKey × PyData)} {k : NestedKey} : Z.gN kvs k = none ↔ k ∉ kvs.map (·.1) := by
  induction kvs with
  | nil => simp [Z.gN_nil]
  | cons p r ih =>
    by_cases e : p.1 = k
    · rw [Z.gN_pos e]
      simp [e]
    · rw [Z.gN_neg e, ih]
      have e2 : ¬ k = p.1 := fun z => e z.symm
      simp [e2]
theorem gN_mem {kvs : List (NestedKey × PyData)} {k : NestedKey} {d : PyData} (h : Z.gN kvs k = some d) : (k, d) ∈ kvs := by
  induction kvs with
  | nil => cases h
  | cons p r ih =>
    by_cases e : p.1 = k
    · rw [Z.gN_pos e] at h
      cases h
      subst e
      simp
    · rw [Z.gN_neg e] at h
      exact List.mem_cons_of_mem _ (ih h)
theorem gN_of_mem {kvs : List (NestedKey × PyData)} {k : NestedKey} {d : PyData} (hn : NodK kvs) (h : (k, d) ∈ kvs) : Z.gN kvs k = some d := by
  induction kvs with
  | nil => cases h
  | cons p r ih =>
    unfold NodK at hn
    rw [List.map_cons, List.nodup_cons] at hn
    rcases List.mem_cons.mp h with h | h
    · subst h
      exact Z.gN_pos rfl
    · rw [Z.gN_neg fun e => hn.1 (by rw [e]; exact List.mem_map_of_mem (f := (·.1)) h)]
      exact ih hn.2 h
theorem pN_keys {kvs : List (NestedKey × PyData)} {k : NestedKey} {d : PyData} (h : NodK kvs) : NodK (Z.pN kvs k d) := by
  unfold Z.pN NodK
  by_cases q : (Z.gN kvs k).isSome = true
  · rw [if_pos q, List.map_map]
    have e : (kvs.map ((·.1) ∘ fun q => if q.1 = k then (q.1, d) else q)) = kvs.map (·.1) := List.map_congr_left fun p _ => by
      show (if p.1 = k then (p.1, d) else p).1 = p.1
      split <;> rfl
    rw [e]
    exact h
  · rw [if_neg q, List.map_append, List.nodup_append]
    have hq : Z.gN kvs k = none := by
      cases z : Z.gN kvs k with
      | none => rfl
      | some x => rw [z] at q; exact (q rfl).elim
    refine ⟨h, by simp, fun a ha b hb e => ?_⟩
    simp only [List.map_cons, List.map_nil, List.mem_singleton] at hb
    subst hb
    subst e
    exact gN_none.mp hq ha
theorem pN_mem {kvs : List (NestedKey × PyData)} {k : NestedKey} {d : PyData} {p : NestedKey × PyData} (h : p ∈ Z.pN kvs k d) : p ∈ kvs ∨ p = (k, d) := by
  unfold Z.pN at h
  by_cases q : (Z.gN kvs k).isSome = true
  · rw [if_pos q] at h
    obtain ⟨x, hx, e⟩ := List.mem_map.mp h
    by_cases z : x.1 = k
    · rw [if_pos z] at e
      right
      rw [← e, z]
    · rw [if_neg z] at e
      left
      rw [← e]
      exact hx
  · rw [if_neg q] at h
    rcases List.mem_append.mp h with h | h
    · exact .inl h
    · rw [List.mem_singleton] at h
      exact .inr h
theorem some_put {kvs : List (NestedKey × PyData)} {k j : NestedKey} {d : PyData} (h : (Z.gN kvs j).isSome = true) : (Z.gN (Z.pN kvs k d) j).isSome = true := by
  rw [Z.gN_put]
  split
  · rfl
  · exact h
/-! one roll -/
theorem nxt_mono {r d f g p : Int} (hr : 0 < r) (h : f ≤ g) : nxt r d f p ≤ nxt r d g p := by
  have h1 := nxt_spec (d := d) (f := g) (n := p) hr
  exact nxt_min hr (by omega) h1.2.2
theorem endZ_snoc {r d z p : Int} {q : List Int} : endZ r d z 0 (q ++ [p]) = nxt r d (endZ r d z 0 q) p + z := by
  rw [endZ_app]
  rfl
theorem endZ_pre {r d z : Int} (hr : 0 < r) (hz : 0 ≤ z) (a b : List Int) : endZ r d z 0 a ≤ endZ r d z 0 (a ++ b) := by
  rw [endZ_app]
  exact endZ_ge hr hz _ _
/-- an entry of a layer: t places, the last one, the end, an order -/
def RowV (r d l z n : Int) (t : Nat) (kv : NestedKey × PyData) : Prop := ∃ (q : List Int) (p : Int), kv = (kL (srt (q ++ [p])) p, .tuple [.int (endZ r d z 0 (q ++ [p])), .tuple ((q ++ [p]).map PyData.int)]) ∧ (q ++ [p]).Nodup ∧ InR n (q ++ [p]) ∧ q.length + 1 = t ∧ endZ r d z 0 q ≤ l
structure LayK (r d l z n : Int) (t : Nat) (kvs : List (NestedKey × PyData)) : Prop where
  all : ∀ kv ∈ kvs, RowV r d l z n t kv
  nod : NodK kvs
  comp : ∀ (q : List Int) (p : Int), (q ++ [p]).Nodup → InR n (q ++ [p]) → q.length + 1 = t → endZ r d z 0 q ≤ l → ∃ (e : Int) (o : PyData), Z.gN kvs (kL (srt (q ++ [p])) p) = some (.tuple [.int e, o]) ∧ e ≤ endZ r d z 0 (q ++ [p])
theorem RowV.key {r d l z n : Int} {t : Nat} {kv : NestedKey × PyData} (h : RowV r d l z n t kv) : kv.1 ∈ (subs n.toNat).flatMap fun s => (rngI n.toNat).map fun p => kL s p := by
  obtain ⟨q, p, rfl, h1, h2, h3, h4⟩ := h
  have hp := h2 p (by simp)
  have h2' : InR (n.toNat : Nat) (q ++ [p]) := fun x hx => by have := h2 x hx; omega
  refine List.mem_flatMap.mpr ⟨_, srt_subs h1 h2', List.mem_map.mpr ⟨p, ?_, rfl⟩⟩
  unfold rngI
  exact List.mem_map.mpr ⟨p.toNat, List.mem_range.mpr (by omega), by omega⟩
theorem flat_len {α β : Type} (f : α → List β) (c : Nat) : ∀ l : List α, (∀ x ∈ l, (f x).length = c) → (l.flatMap f).length = l.length * c
  | [], _ => by simp
  | x :: l, h => by
    rw [List.flatMap_cons, List.length_append, flat_len f c l fun y hy => h y (List.mem_cons_of_mem _ hy), h x (by simp), List.length_cons, Nat.succ_mul]
    omega
theorem rows_len {r d l z n : Int} {t : Nat} {kvs : List (NestedKey × PyData)} (hn : n ≤ 9) (h0 : 0 ≤ n) (ha : ∀ kv ∈ kvs, RowV r d l z n t kv) (hk : NodK kvs) : kvs.length ≤ 5000 := by
  have h1 := nodup_le hk (m := (subs n.toNat).flatMap fun s => (rngI n.toNat).map fun p => kL s p) fun k hk => by
    obtain ⟨kv, hkv, rfl⟩ := List.mem_map.mp hk
    exact (ha kv hkv).key
  have e1 : (rngI n.toNat).length = n.toNat := by simp [rngI]
  rw [List.length_map, flat_len _ n.toNat _ (fun s _ => by rw [List.length_map, e1]), subs_len] at h1
  have h2 : n.toNat = 0 ∨ n.toNat = 1 ∨ n.toNat = 2 ∨ n.toNat = 3 ∨ n.toNat = 4 ∨ n.toNat = 5 ∨ n.toNat = 6 ∨ n.toNat = 7 ∨ n.toNat = 8 ∨ n.toNat = 9 := by omega
  rcases h2 with h2 | h2 | h2 | h2 | h2 | h2 | h2 | h2 | h2 | h2 <;> rw [h2] at h1 <;> omega

-- NEEDS best
/-! layers of sets, what fits -/
/-- the value of an entry tells its order -/
def ValOf (r d z : Int) (Q : List Int) (kv : NestedKey × PyData) : Prop := kv.2 = .tuple [.int (endZ r d z 0 Q), .tuple (Q.map PyData.int)]
structure LatK (r d l z n : Int) (t : Nat) (C : List Int → Int → Prop) (kvs : List (NestedKey × PyData)) : Prop where
  all : ∀ kv ∈ kvs, RowV r d l z n t kv
  nod : NodK kvs
  comp : ∀ Q p, C Q p → ∃ (e : Int) (o : PyData), Z.gN kvs (kL (srt (Q ++ [p])) p) = some (.tuple [.int e, o]) ∧ e ≤ endZ r d z 0 (Q ++ [p])
theorem LatK.imp {r d l z n : Int} {t : Nat} {C C' : List Int → Int → Prop} {kvs : List (NestedKey × PyData)} (h : LatK r d l z n t C kvs) (hc : ∀ Q p, C' Q p → C Q p) : LatK r d l z n t C' kvs := ⟨h.all, h.nod, fun Q p q => h.comp Q p (hc Q p q)⟩
theorem LatK.nil {r d l z n : Int} {t : Nat} {C : List Int → Int → Prop} (h : ∀ Q p, ¬ C Q p) : LatK r d l z n t C [] := ⟨fun kv h => (by cases h), List.nodup_nil, fun Q p q => (h Q p q).elim⟩
/-- one more row, better than what stood there -/
theorem LatK.put {r d l z n : Int} {t : Nat} {C : List Int → Int → Prop} {kvs : List (NestedKey × PyData)} {Q : List Int} {p : Int} (h : LatK r d l z n t C kvs) (hn : (Q ++ [p]).Nodup) (hi : InR n (Q ++ [p])) (ht : Q.length + 1 = t) (he : endZ r d z 0 Q ≤ l)
    (hb : Z.gN kvs (kL (srt (Q ++ [p])) p) = none ∨ ∃ e o, Z.gN kvs (kL (srt (Q ++ [p])) p) = some (.tuple [.int e, o]) ∧ endZ r d z 0 (Q ++ [p]) < e) :
    LatK r d l z n t (fun Q' p' => C Q' p' ∨ (Q' = Q ∧ p' = p)) (Z.pN kvs (kL (srt (Q ++ [p])) p) (.tuple [.int (endZ r d z 0 (Q ++ [p])), .tuple ((Q ++ [p]).map PyData.int)])) := by
  refine ⟨fun kv hk => ?_, pN_keys h.nod, fun Q' p' hc => ?_⟩
  · rcases pN_mem hk with hk | rfl
    · exact h.all kv hk
    · exact ⟨Q, p, rfl, hn, hi, ht, he⟩
  · rw [Z.gN_put]
    by_cases hk : kL (srt (Q' ++ [p'])) p' = kL (srt (Q ++ [p])) p
    · rw [if_pos hk]
      refine ⟨_, _, rfl, ?_⟩
      rcases hc with hc | ⟨rfl, rfl⟩
      · obtain ⟨e', o', g, le⟩ := h.comp Q' p' hc
        rw [hk] at g
        rcases hb with hb | ⟨e, o, hb, lt⟩
        · rw [hb] at g
          cases g
        · rw [hb] at g
          cases g
          omega
      · exact Int.le_refl _
    · rw [if_neg hk]
      rcases hc with hc | ⟨rfl, rfl⟩
      · exact h.comp Q' p' hc
      · exact absurd rfl hk
theorem LatK.skip {r d l z n : Int} {t : Nat} {C : List Int → Int → Prop} {kvs : List (NestedKey × PyData)} {Q : List Int} {p e : Int} {o : PyData} (h : LatK r d l z n t C kvs) (hb : Z.gN kvs (kL (srt (Q ++ [p])) p) = some (.tuple [.int e, o])) (hle : e ≤ endZ r d z 0 (Q ++ [p])) :
    LatK r d l z n t (fun Q' p' => C Q' p' ∨ (Q' = Q ∧ p' = p)) kvs := by
  refine ⟨h.all, h.nod, fun Q' p' hc => ?_⟩
  rcases hc with hc | ⟨rfl, rfl⟩
  · exact h.comp Q' p' hc
  · exact ⟨e, o, hb, hle⟩
/-- what is behind the i-th row -/
def Done (r d l z n : Int) (kvs : List (NestedKey × PyData)) (i : Nat) (Q : List Int) (p : Int) : Prop := (∃ a kv, a < i ∧ kvs[a]? = some kv ∧ ValOf r d z Q kv) ∧ endZ r d z 0 Q ≤ l ∧ p ∉ Q ∧ 0 ≤ p ∧ p < n
theorem ints_injL {a b : List Int} (h : a.map PyData.int = b.map PyData.int) : a = b := by
  induction a generalizing b with
  | nil =>
    cases b with
    | nil => rfl
    | cons y b => simp at h
  | cons x a ih =>
    cases b with
    | nil => simp at h
    | cons y b =>
      simp only [List.map_cons, List.cons.injEq, PyData.int.injEq] at h
      rw [h.1, ih h.2]
theorem ValOf.uniq {r d z : Int} {Q Q' : List Int} {kv : NestedKey × PyData} (h : ValOf r d z Q kv) (h' : ValOf r d z Q' kv) : Q = Q' := by
  unfold ValOf at h h'
  rw [h] at h'
  have h' := PyData.tuple.inj h'
  simp only [List.cons.injEq, PyData.tuple.injEq, and_true] at h'
  exact ints_injL h'.2
theorem LayK.item {r d l z n : Int} {t : Nat} {kvs : List (NestedKey × PyData)} (h : LayK r d l z n t kvs) {q : List Int} {p : Int} (hn : (q ++ [p]).Nodup) (hi : InR n (q ++ [p])) (ht : q.length + 1 = t) (he : endZ r d z 0 q ≤ l) :
    ∃ (a : Nat) (kv : NestedKey × PyData) (Q : List Int), kvs[a]? = some kv ∧ a < kvs.length ∧ ValOf r d z Q kv ∧ Q.Perm (q ++ [p]) ∧ endZ r d z 0 Q ≤ endZ r d z 0 (q ++ [p]) := by
  obtain ⟨e, o, g, le⟩ := h.comp q p hn hi ht he
  have hm := gN_mem g
  obtain ⟨q1, p1, ekv, h1, h2, h3, h4⟩ := h.all _ hm
  obtain ⟨a, ha, eq⟩ := List.mem_iff_getElem.mp hm
  have e1 := congrArg Prod.fst ekv
  have e2 := congrArg Prod.snd ekv
  have e1 := kL_inj e1
  have e2 : PyData.tuple [.int e, o] = .tuple [.int (endZ r d z 0 (q1 ++ [p1])), .tuple ((q1 ++ [p1]).map PyData.int)] := e2
  have e3 := PyData.tuple.inj e2
  simp only [List.cons.injEq, PyData.int.injEq, and_true] at e3
  refine ⟨a, _, q1 ++ [p1], List.getElem?_eq_some_iff.mpr ⟨ha, eq⟩, ha, e2, ?_, by omega⟩
  exact (srt_perm _).symm.trans (by rw [← e1.1]; exact srt_perm _)
theorem LayK.next {r d l z n : Int} {t : Nat} {kvs later : List (NestedKey × PyData)} (hr : 0 < r) (hz : 0 ≤ z) (ht : 1 ≤ t) (h : LayK r d l z n t kvs) (h' : LatK r d l z n (t + 1) (Done r d l z n kvs kvs.length) later) : LayK r d l z n (t + 1) later := by
  refine ⟨h'.all, h'.nod, fun q' p' hn hi hl he => ?_⟩
  rcases List.eq_nil_or_concat q' with rfl | ⟨q0, p0, rfl⟩
  · simp at hl
    omega
  rw [List.concat_eq_append] at hn hi hl he ⊢
  have hn1 := (List.nodup_append.mp hn).1
  obtain ⟨a, kv, Q, ha, hal, hv, hp, hle⟩ := h.item hn1 (fun x hx => hi x (List.mem_append_left _ hx)) (by rw [List.length_append] at hl; exact Nat.succ.inj hl) (Int.le_trans (endZ_pre hr hz q0 [p0]) he)
  have hp' := hi p' (by simp)
  have hnp : p' ∉ Q := fun hx => (List.nodup_append.mp hn).2.2 p' (hp.mem_iff.mp hx) p' (by simp) rfl
  obtain ⟨e, o, g, le⟩ := h'.comp Q p' ⟨⟨a, kv, hal, ha, hv⟩, by omega, hnp, hp'⟩
  have es : srt (Q ++ [p']) = srt (q0 ++ [p0] ++ [p']) := srt_congr (hp.append_right _)
  rw [es] at g
  refine ⟨e, o, g, ?_⟩
  rw [endZ_snoc] at le ⊢
  have := nxt_mono (d := d) (p := p') hr hle
  omega
theorem LayK.le {r d l z n : Int} {t : Nat} {kvs : List (NestedKey × PyData)} (h0 : 0 ≤ n) (h : LayK r d l z n t kvs) (hne : kvs ≠ []) : t ≤ n.toNat := by
  cases kvs with
  | nil => exact absurd rfl hne
  | cons kv r =>
    obtain ⟨q, p, rfl, h1, h2, h3, h4⟩ := h.all kv (by simp)
    have := nodup_lenN (n := n.toNat) h1 fun x hx => by have := h2 x hx; omega
    rw [List.length_append] at this
    have : q.length + 1 ≤ n.toNat := this
    omega
/-! what fits one roll -/
structure Fit1 (r d l z n : Int) (Q : List Int) : Prop where
  ne : Q ≠ []
  nd : Q.Nodup
  inr : InR n Q
  en : endZ r d z 0 Q ≤ l
structure FouK (r d l z n : Int) (C : List Int → Prop) (kvs : List (NestedKey × PyData)) : Prop where
  all : ∀ kv ∈ kvs, ∃ Q, kv = (kT (srt Q), .tuple (Q.map PyData.int)) ∧ Fit1 r d l z n Q
  nod : NodK kvs
  comp : ∀ Q, C Q → (Z.gN kvs (kT (srt Q))).isSome = true
theorem FouK.imp {r d l z n : Int} {C C' : List Int → Prop} {kvs : List (NestedKey × PyData)} (h : FouK r d l z n C kvs) (hc : ∀ Q, C' Q → C Q) : FouK r d l z n C' kvs := ⟨h.all, h.nod, fun Q q => h.comp Q (hc Q q)⟩
theorem FouK.put {r d l z n : Int} {C : List Int → Prop} {kvs : List (NestedKey × PyData)} {Q : List Int} (h : FouK r d l z n C kvs) (hf : Fit1 r d l z n Q) : FouK r d l z n (fun Q' => C Q' ∨ Q'.Perm Q) (Z.pN kvs (kT (srt Q)) (.tuple (Q.map PyData.int))) := by
  refine ⟨fun kv hk => ?_, pN_keys h.nod, fun Q' hc => ?_⟩
  · rcases pN_mem hk with hk | rfl
    · exact h.all kv hk
    · exact ⟨Q, rfl, hf⟩
  · rcases hc with hc | hc
    · exact some_put (h.comp Q' hc)
    · rw [Z.gN_put, srt_congr hc, if_pos rfl]
      rfl
/-- the sets of the first rows -/
def DoneF (r d l z : Int) (kvs : List (NestedKey × PyData)) (i : Nat) (Q : List Int) : Prop := ∃ a kv Q', a < i ∧ kvs[a]? = some kv ∧ ValOf r d z Q' kv ∧ endZ r d z 0 Q' ≤ l ∧ Q.Perm Q'
theorem FouK.next {r d l z n : Int} {t : Nat} {kvs found : List (NestedKey × PyData)} (hr : 0 < r) (hz : 0 ≤ z) (ht : 1 ≤ t) (h : LayK r d l z n t kvs) (h' : FouK r d l z n (fun Q => (Fit1 r d l z n Q ∧ Q.length < t) ∨ DoneF r d l z kvs kvs.length Q) found) : FouK r d l z n (fun Q => Fit1 r d l z n Q ∧ Q.length < t + 1) found := by
  refine h'.imp fun Q hc => ?_
  by_cases hl : Q.length < t
  · exact .inl ⟨hc.1, hl⟩
  · right
    obtain ⟨hf, hlt⟩ := hc
    rcases List.eq_nil_or_concat Q with rfl | ⟨q0, p0, rfl⟩
    · exact absurd rfl hf.ne
    rw [List.concat_eq_append] at hf hlt hl ⊢
    have hlen : q0.length + 1 = t := by
      rw [List.length_append] at hlt hl
      have : q0.length + 1 < t + 1 := hlt
      have : ¬ q0.length + 1 < t := hl
      omega
    obtain ⟨a, kv, Q', ha, hal, hv, hp, hle⟩ := h.item hf.nd hf.inr hlen (Int.le_trans (endZ_pre hr hz q0 [p0]) hf.en)
    exact ⟨a, kv, Q', hal, ha, hv, Int.le_trans hle hf.en, hp.symm⟩
theorem FouK.end {r d l z n : Int} {t : Nat} {found : List (NestedKey × PyData)} (hr : 0 < r) (hz : 0 ≤ z) (ht : 1 ≤ t) (h : LayK r d l z n t []) (h' : FouK r d l z n (fun Q => Fit1 r d l z n Q ∧ Q.length < t) found) : FouK r d l z n (Fit1 r d l z n) found := by
  refine h'.imp fun Q hf => ⟨hf, ?_⟩
  by_cases hl : Q.length < t
  · exact hl
  · exfalso
    have e1 : Q.take t = Q.take (t - 1) ++ [Q[t - 1]] := by
      have := List.take_succ_eq_append_getElem (i := t - 1) (l := Q) (by omega)
      rw [← this]
      congr 1
      omega
    have hp : Q = Q.take (t - 1) ++ [Q[t - 1]] ++ Q.drop t := by rw [← e1, List.take_append_drop]
    have hn := hf.nd
    have hi := hf.inr
    have he := hf.en
    rw [hp] at hn hi he
    obtain ⟨e, o, g, _⟩ := h.comp (Q.take (t - 1)) Q[t - 1] (List.nodup_append.mp hn).1 (fun x hx => hi x (List.mem_append_left _ hx)) (by rw [List.length_take]; omega) (by
      have h1 := endZ_pre (d := d) hr hz (Q.take (t - 1)) [Q[t - 1]]
      have h2 := endZ_pre (d := d) hr hz (Q.take (t - 1) ++ [Q[t - 1]]) (Q.drop t)
      omega)
    cases g
theorem found_len {r d l z n : Int} {C : List Int → Prop} {kvs : List (NestedKey × PyData)} (hn : n ≤ 9) (h0 : 0 ≤ n) (h : FouK r d l z n C kvs) : kvs.length ≤ 512 := by
  have h1 := nodup_le h.nod (m := (subs 9).map kT) fun k hk => by
    obtain ⟨kv, hkv, rfl⟩ := List.mem_map.mp hk
    obtain ⟨Q, rfl, hf⟩ := h.all kv hkv
    refine List.mem_map_of_mem (subs_mono (show n.toNat ≤ 9 by omega) _ (srt_subs hf.nd fun x hx => ?_))
    have := hf.inr x hx
    omega
  rw [List.length_map, List.length_map, subs_len] at h1
  exact h1

-- NEEDS best2
/-! plans with the fewest rolls -/
def planD (rs : List (List Int)) : PyData := .tuple (rs.map fun o => .tuple (o.map PyData.int))
/-- rolls that fit, of places that differ -/
structure Rolls (r d l z n : Int) (rs : List (List Int)) : Prop where
  each : ∀ o ∈ rs, o ≠ [] ∧ endZ r d z 0 o ≤ l
  nd : rs.flatten.Nodup
  inr : InR n rs.flatten
theorem Rolls.fit {r d l z n : Int} {rs : List (List Int)} (h : Rolls r d l z n rs) {o : List Int} (ho : o ∈ rs) : Fit1 r d l z n o := by
  obtain ⟨a, b, rfl⟩ := List.append_of_mem ho
  have hn := h.nd
  have hi := h.inr
  rw [List.flatten_append, List.flatten_cons] at hn hi
  exact ⟨(h.each o ho).1, (List.nodup_append.mp (List.nodup_append.mp hn).2.1).1, fun x hx => hi x (List.mem_append_right _ (List.mem_append_left _ hx)), (h.each o ho).2⟩
theorem Rolls.pre {r d l z n : Int} {rs : List (List Int)} {o : List Int} (h : Rolls r d l z n (rs ++ [o])) : Rolls r d l z n rs := by
  have hn := h.nd
  have hi := h.inr
  rw [List.flatten_append] at hn hi
  exact ⟨fun x hx => h.each x (List.mem_append_left _ hx), (List.nodup_append.mp hn).1, fun x hx => hi x (List.mem_append_left _ hx)⟩
theorem flat_snoc {rs : List (List Int)} {o : List Int} : (rs ++ [o]).flatten = rs.flatten ++ o := by
  rw [List.flatten_append]
  simp
/-- an entry of the plans -/
def PlanV (r d l z n : Int) (t : Nat) (kv : NestedKey × PyData) : Prop := ∃ rs, kv = (kT (srt rs.flatten), planD rs) ∧ Rolls r d l z n rs ∧ rs.length ≤ t ∧ ∀ rs', Rolls r d l z n rs' → rs'.flatten.Perm rs.flatten → rs.length ≤ rs'.length
structure PlnK (r d l z n : Int) (t : Nat) (C : List (List Int) → Prop) (kvs : List (NestedKey × PyData)) : Prop where
  all : ∀ kv ∈ kvs, PlanV r d l z n t kv
  nod : NodK kvs
  comp : ∀ rs, C rs → (Z.gN kvs (kT (srt rs.flatten))).isSome = true
def UpTo (r d l z n : Int) (t : Nat) (rs : List (List Int)) : Prop := Rolls r d l z n rs ∧ rs.length ≤ t
theorem PlnK.imp {r d l z n : Int} {t : Nat} {C C' : List (List Int) → Prop} {kvs : List (NestedKey × PyData)} (h : PlnK r d l z n t C kvs) (hc : ∀ Q, C' Q → C Q) : PlnK r d l z n t C' kvs := ⟨h.all, h.nod, fun Q q => h.comp Q (hc Q q)⟩
theorem PlnK.up {r d l z n : Int} {t : Nat} {C : List (List Int) → Prop} {kvs : List (NestedKey × PyData)} (h : PlnK r d l z n t C kvs) : PlnK r d l z n (t + 1) C kvs := ⟨fun kv hk => by
  obtain ⟨rs, h1, h2, h3, h4⟩ := h.all kv hk
  exact ⟨rs, h1, h2, Nat.le_succ_of_le h3, h4⟩, h.nod, h.comp⟩
theorem PlnK.start {r d l z n : Int} : PlnK r d l z n 0 (UpTo r d l z n 0) [(.tup [], .tuple [])] := by
  refine ⟨fun kv hk => ?_, by unfold NodK; simp, fun rs hc => ?_⟩
  · rw [List.mem_singleton] at hk
    subst hk
    exact ⟨[], rfl, ⟨fun o h => (by cases h), List.nodup_nil, fun x h => (by cases h)⟩, Nat.le_refl _, fun _ _ _ => Nat.zero_le _⟩
  · have : rs = [] := List.length_eq_zero_iff.mp (Nat.le_zero.mp hc.2)
    subst this
    rfl
/-- one more plan, of a union that was not there -/
theorem PlnK.put {r d l z n : Int} {t : Nat} {C : List (List Int) → Prop} {plans later : List (NestedKey × PyData)} {rs : List (List Int)} {o : List Int} (h0 : PlnK r d l z n t (UpTo r d l z n t) plans) (hsup : ∀ k, (Z.gN plans k).isSome = true → (Z.gN later k).isSome = true) (h : PlnK r d l z n (t + 1) C later)
    (hr : Rolls r d l z n rs) (hl : rs.length ≤ t) (ho : Fit1 r d l z n o) (hn : (rs.flatten ++ o).Nodup) (hno : Z.gN later (kT (srt (rs.flatten ++ o))) = none) :
    PlnK r d l z n (t + 1) (fun rs' => C rs' ∨ rs'.flatten.Perm (rs.flatten ++ o)) (Z.pN later (kT (srt (rs.flatten ++ o))) (planD (rs ++ [o]))) := by
  have hR : Rolls r d l z n (rs ++ [o]) := by
    refine ⟨fun x hx => ?_, by rw [flat_snoc]; exact hn, fun x hx => ?_⟩
    · rcases List.mem_append.mp hx with hx | hx
      · exact hr.each x hx
      · rw [List.mem_singleton] at hx
        subst hx
        exact ⟨ho.ne, ho.en⟩
    · rw [flat_snoc] at hx
      rcases List.mem_append.mp hx with hx | hx
      · exact hr.inr x hx
      · exact ho.inr x hx
  refine ⟨fun kv hk => ?_, pN_keys h.nod, fun rs' hc => ?_⟩
  · rcases pN_mem hk with hk | rfl
    · exact h.all kv hk
    · refine ⟨rs ++ [o], by rw [flat_snoc], hR, by rw [List.length_append]; exact Nat.add_le_add_right hl 1, fun rs' hr' hp => ?_⟩
      rw [flat_snoc] at hp
      rw [List.length_append, List.length_cons, List.length_nil]
      by_cases q : rs'.length ≤ t
      · have := hsup _ (h0.comp rs' ⟨hr', q⟩)
        rw [srt_congr hp, hno] at this
        cases this
      · omega
  · rcases hc with hc | hc
    · exact some_put (h.comp rs' hc)
    · rw [Z.gN_put, srt_congr hc, if_pos rfl]
      rfl
theorem PlnK.skip {r d l z n : Int} {t : Nat} {C : List (List Int) → Prop} {later : List (NestedKey × PyData)} {A : List Int} (h : PlnK r d l z n t C later) (hs : A.Nodup → (Z.gN later (kT (srt A))).isSome = true) :
    PlnK r d l z n t (fun rs' => C rs' ∨ (A.Nodup ∧ rs'.flatten.Perm A)) later := by
  refine ⟨h.all, h.nod, fun rs' hc => ?_⟩
  rcases hc with hc | hc
  · exact h.comp rs' hc
  · rw [srt_congr hc.2]
    exact hs hc.1
/-- the unions of the first pairs: before the i-th plan, of the i-th plan the first j rolls -/
def DoneP (plans groups : List (NestedKey × PyData)) (i j : Nat) (rs' : List (List Int)) : Prop := ∃ (a b : Nat) (rs : List (List Int)) (o : List Int), (a < i ∧ b < groups.length ∨ a = i ∧ b < j) ∧ plans[a]? = some (kT (srt rs.flatten), planD rs) ∧ groups[b]? = some (kT (srt o), .tuple (o.map PyData.int)) ∧ (rs.flatten ++ o).Nodup ∧ rs'.flatten.Perm (rs.flatten ++ o)
theorem planL_inj : ∀ {a b : List (List Int)}, a.map (fun o => PyData.tuple (o.map PyData.int)) = b.map (fun o => PyData.tuple (o.map PyData.int)) → a = b
  | [], [], _ => rfl
  | [], _ :: _, h => by simp at h
  | _ :: _, [], h => by simp at h
  | x :: a, y :: b, h => by
    simp only [List.map_cons, List.cons.injEq, PyData.tuple.injEq] at h
    rw [ints_injL h.1, planL_inj h.2]
theorem planD_inj {a b : List (List Int)} (h : planD a = planD b) : a = b := planL_inj (PyData.tuple.inj h)
theorem PlnK.next {r d l z n : Int} {t : Nat} {plans groups later : List (NestedKey × PyData)} (h0 : PlnK r d l z n t (UpTo r d l z n t) plans) (hg : FouK r d l z n (Fit1 r d l z n) groups) (hsup : ∀ k, (Z.gN plans k).isSome = true → (Z.gN later k).isSome = true)
    (h : PlnK r d l z n (t + 1) (DoneP plans groups plans.length 0) later) : PlnK r d l z n (t + 1) (UpTo r d l z n (t + 1)) later := by
  refine ⟨h.all, h.nod, fun rs' hc => ?_⟩
  by_cases hl : rs'.length ≤ t
  · exact hsup _ (h0.comp rs' ⟨hc.1, hl⟩)
  rcases List.eq_nil_or_concat rs' with rfl | ⟨rs0, o, rfl⟩
  · simp at hl
  rw [List.concat_eq_append] at hc hl ⊢
  have hR := hc.1
  have hl0 : rs0.length ≤ t := by
    have := hc.2
    rw [List.length_append] at this
    exact Nat.le_of_succ_le_succ this
  -- the plan of the rolls before
  obtain ⟨v, gv⟩ := Option.isSome_iff_exists.mp (h0.comp rs0 ⟨hR.pre, hl0⟩)
  have hm := gN_mem gv
  obtain ⟨rs, ekv, h1, h2, h3⟩ := h0.all _ hm
  obtain ⟨a, ha, ea⟩ := List.mem_iff_getElem.mp hm
  have k1 : srt rs0.flatten = srt rs.flatten := kT_inj (congrArg Prod.fst ekv)
  have p1 : rs0.flatten.Perm rs.flatten := (srt_perm _).symm.trans (by rw [k1]; exact srt_perm _)
  -- its last roll
  have ho := hR.fit (o := o) (by simp)
  obtain ⟨v2, gv2⟩ := Option.isSome_iff_exists.mp (hg.comp o ho)
  have hm2 := gN_mem gv2
  obtain ⟨o', ekv2, h4⟩ := hg.all _ hm2
  obtain ⟨b, hb, eb⟩ := List.mem_iff_getElem.mp hm2
  have k2 : srt o = srt o' := kT_inj (congrArg Prod.fst ekv2)
  have p2 : o.Perm o' := (srt_perm _).symm.trans (by rw [k2]; exact srt_perm _)
  have hfl : (rs0 ++ [o]).flatten.Perm (rs.flatten ++ o') := by
    rw [flat_snoc]
    exact p1.append p2
  refine h.comp _ ⟨a, b, rs, o', .inl ⟨ha, hb⟩, ?_, ?_, hfl.nodup_iff.mp hR.nd, hfl⟩
  · rw [List.getElem?_eq_getElem ha, ea, ekv]
  · rw [List.getElem?_eq_getElem hb, eb, ekv2]
theorem plans_sub {r d l z n : Int} {t : Nat} {C : List (List Int) → Prop} {kvs : List (NestedKey × PyData)} (hn : n ≤ 9) (h0 : 0 ≤ n) (h : PlnK r d l z n t C kvs) : ∀ k ∈ kvs.map (·.1), k ∈ (subs 9).map kT := fun k hk => by
  obtain ⟨kv, hkv, rfl⟩ := List.mem_map.mp hk
  obtain ⟨rs, rfl, h1, h2, h3⟩ := h.all kv hkv
  refine List.mem_map_of_mem (subs_mono (show n.toNat ≤ 9 by omega) _ (srt_subs h1.nd fun x hx => ?_))
  have := h1.inr x hx
  omega
theorem plans_len {r d l z n : Int} {t : Nat} {C : List (List Int) → Prop} {kvs : List (NestedKey × PyData)} (hn : n ≤ 9) (h0 : 0 ≤ n) (h : PlnK r d l z n t C kvs) : kvs.length ≤ 512 := by
  have h1 := nodup_le h.nod (plans_sub hn h0 h)
  rw [List.length_map, List.length_map, subs_len] at h1
  exact h1
/-! the hashes of all sets of nine differ -/
theorem hash9 : ((subs 9).map fun s => Z.hN (kT s)).Nodup := by decide +kernel
theorem nodup_on {α β : Type} (f : α → β) : ∀ {l m : List α}, (m.map f).Nodup → l.Nodup → (∀ x ∈ l, x ∈ m) → (l.map f).Nodup
  | [], _, _, _, _ => List.nodup_nil
  | x :: l, m, hm, hl, hs => by
    rw [List.nodup_cons] at hl
    rw [List.map_cons, List.nodup_cons]
    refine ⟨fun hx => ?_, nodup_on f hm hl.2 fun y hy => hs y (List.mem_cons_of_mem _ hy)⟩
    obtain ⟨y, hy, e⟩ := List.mem_map.mp hx
    have inj : ∀ {m : List α}, (m.map f).Nodup → ∀ {a b : α}, a ∈ m → b ∈ m → f a = f b → a = b := by
      intro m
      induction m with
      | nil => intro _ a b ha; cases ha
      | cons c m ih =>
        intro hm a b ha hb e
        rw [List.map_cons, List.nodup_cons] at hm
        rcases List.mem_cons.mp ha with ha1 | ha1
        · rcases List.mem_cons.mp hb with hb1 | hb1
          · rw [ha1, hb1]
          · exact absurd (by rw [← ha1, e]; exact List.mem_map_of_mem hb1) hm.1
        · rcases List.mem_cons.mp hb with hb1 | hb1
          · exact absurd (by rw [← hb1, ← e]; exact List.mem_map_of_mem ha1) hm.1
          · exact ih hm.2 ha1 hb1 e
    have := inj hm (hs y (List.mem_cons_of_mem _ hy)) (hs x (by simp)) e
    subst this
    exact hl.1 hy
theorem plans_hash {r d l z n : Int} {t : Nat} {C : List (List Int) → Prop} {kvs : List (NestedKey × PyData)} (hn : n ≤ 9) (h0 : 0 ≤ n) (h : PlnK r d l z n t C kvs) : (kvs.map fun q => Z.hN q.1).Nodup := by
  have := nodup_on Z.hN (l := kvs.map (·.1)) (m := (subs 9).map kT) (by rw [List.map_map]; exact hash9) (show (kvs.map (·.1)).Nodup from h.nod) (plans_sub hn h0 h)
  rw [List.map_map] at this
  exact this
/-! what best_plan tells -/
structure BestP (r d l z n : Int) (rs : List (List Int)) : Prop where
  each : ∀ o ∈ rs, o ≠ [] ∧ endZ r d z 0 o ≤ l
  perm : rs.flatten.Perm (rngI n.toNat)
  min : ∀ rs' : List (List Int), (∀ o ∈ rs', o ≠ [] ∧ endZ r d z 0 o ≤ l) → rs'.flatten.Perm (rngI n.toNat) → rs.length ≤ rs'.length
theorem rngI_nodup (n : Nat) : (rngI n).Nodup := by
  unfold rngI List.Nodup
  rw [List.pairwise_map]
  exact List.Pairwise.imp (fun {a b} h => by omega) List.nodup_range
theorem rngI_inr {n : Int} (h0 : 0 ≤ n) : InR n (rngI n.toNat) := fun p hp => by
  unfold rngI at hp
  obtain ⟨i, hi, rfl⟩ := List.mem_map.mp hp
  have := List.mem_range.mp hi
  omega
theorem srt_rng (n : Nat) : srt (rngI n) = rngI n := (srt_eq (.refl _) (rngI_inc n)).symm
theorem PlnK.best {r d l z n : Int} {t : Nat} {C : List (List Int) → Prop} {kvs : List (NestedKey × PyData)} (h0 : 0 ≤ n) (h : PlnK r d l z n t C kvs) {v : PyData} (hv : Z.gN kvs (kT (rngI n.toNat)) = some v) : ∃ rs, v = planD rs ∧ BestP r d l z n rs := by
  obtain ⟨rs, e, h1, h2, h3⟩ := h.all _ (gN_mem hv)
  have k1 : rngI n.toNat = srt rs.flatten := kT_inj (congrArg Prod.fst e)
  have hp : rs.flatten.Perm (rngI n.toNat) := by rw [k1]; exact (srt_perm _).symm
  refine ⟨rs, congrArg Prod.snd e, h1.each, hp, fun rs' he' hp' => h3 rs' ⟨he', hp'.nodup_iff.mpr (rngI_nodup _), fun x hx => rngI_inr h0 x (hp'.mem_iff.mp hx)⟩ (hp'.trans hp.symm)⟩
/-- each strip by itself -/
def ones (n : Nat) : List (List Int) := (rngI n).map fun p => [p]
theorem ones_flat (n : Nat) : (ones n).flatten = rngI n := by
  unfold ones
  induction rngI n with
  | nil => rfl
  | cons x r ih =>
    rw [List.map_cons, List.flatten_cons, ih]
    rfl
theorem PlnK.full {r d l z n : Int} {kvs : List (NestedKey × PyData)} (h0 : 0 ≤ n) (hfit : ∀ p : Int, 0 ≤ p → p < n → p * d % r + z ≤ l) (h : PlnK r d l z n n.toNat (UpTo r d l z n n.toNat) kvs) : ∃ v, Z.gN kvs (kT (rngI n.toNat)) = some v := by
  have := h.comp (ones n.toNat) ⟨⟨fun o ho => ?_, by rw [ones_flat]; exact rngI_nodup _, by rw [ones_flat]; exact rngI_inr h0⟩, by unfold ones; rw [List.length_map]; simp [rngI]⟩
  · rw [ones_flat, srt_rng] at this
    exact Option.isSome_iff_exists.mp this
  · unfold ones at ho
    obtain ⟨p, hp, rfl⟩ := List.mem_map.mp ho
    refine ⟨by simp, ?_⟩
    obtain ⟨h1, h2⟩ := rngI_inr h0 p hp
    show nxt r d 0 p + z ≤ l
    rw [nxt_zero]
    exact hfit p h1 h2
/-! how many different places -/
theorem insI_len_eq : ∀ (xs acc : List Int), acc.Nodup → ((xs.foldl Z.insI acc).length = acc.length + xs.length ↔ (acc ++ xs).Nodup) ∧ (xs.foldl Z.insI acc).length ≤ acc.length + xs.length
  | [], acc, h => by simp [h]
  | x :: xs, acc, h => by
    rw [List.foldl_cons]
    by_cases hx : x ∈ acc
    · have e : Z.insI acc x = acc := by unfold Z.insI; rw [if_pos hx]
      rw [e]
      obtain ⟨_, h2⟩ := insI_len_eq xs acc h
      refine ⟨⟨fun q => ?_, fun q => ?_⟩, by rw [List.length_cons]; omega⟩
      · rw [List.length_cons] at q
        omega
      · exact absurd rfl ((List.nodup_append.mp q).2.2 x hx x (by simp))
    · have e : Z.insI acc x = acc ++ [x] := by unfold Z.insI; rw [if_neg hx]
      rw [e]
      have hn : (acc ++ [x]).Nodup := by
        rw [List.nodup_append]
        refine ⟨h, by simp, fun a ha b hb => ?_⟩
        rw [List.mem_singleton] at hb
        subst hb
        exact fun e => hx (e ▸ ha)
      obtain ⟨h1, h2⟩ := insI_len_eq xs (acc ++ [x]) hn
      rw [List.length_append, List.length_cons, List.length_nil, List.append_assoc] at h1
      rw [List.length_append, List.length_cons, List.length_nil] at h2
      rw [List.length_cons]
      refine ⟨?_, by omega⟩
      rw [show acc.length + (xs.length + 1) = acc.length + (0 + 1) + xs.length by omega]
      exact h1
theorem distinct_iff (xs : List Int) : decide ((xs.length : Int) = ((xs.foldl Z.insI []).length : Nat)) = decide xs.Nodup := by
  have := (insI_len_eq xs [] List.nodup_nil).1
  rw [List.nil_append, List.length_nil, Nat.zero_add] at this
  by_cases h : xs.Nodup
  · rw [decide_eq_true h, decide_eq_true (by rw [this.mpr h])]
  · rw [decide_eq_false h, decide_eq_false (fun e => h (this.mp (by omega)))]

-- NEEDS base
-- NEEDS layout
-- NEEDS sim
-- NEEDS within
/-! a roll object: its fields; where its last strip ends -/
def rolF (r d l z : Int) (rows : List (Int × Int)) : List (Str × PyData) := [("kind", pap r d l), ("size", .int z), ("rows", prow rows)]
def endR (z : Int) (rows : List (Int × Int)) : Int := match rows.getLast? with
  | none => 0
  | some q => q.2 + z
theorem endR_nil {z : Int} : endR z [] = 0 := rfl
theorem endR_snoc {z : Int} {rows : List (Int × Int)} {q : Int × Int} : endR z (rows ++ [q]) = q.2 + z := by
  unfold endR
  rw [List.getLast?_append]
  rfl
def begO (r d l z : Int) (rows : List (Int × Int)) (p : Int) : Option Int := if nxt r d (endR z rows) p + z ≤ l then some (nxt r d (endR z rows) p) else none
theorem sim_prow {n : Nat} {ro : List (Int × Int)} (h : ro.length ≤ 1000000) : Sim (n + 2) (prow ro) := by
  refine ⟨by rw [List.length_map]; exact h, fun d hd => ?_⟩
  obtain ⟨q, h4, rfl⟩ := List.mem_map.mp hd
  exact sim_intsT (ns := [q.1, q.2]) (show 2 ≤ 1000000 by decide)
theorem eqv_prow_nil {ro : List (Int × Int)} : PyData.eqv (prow ro) (.tuple []) = ro.isEmpty := by
  cases ro with
  | nil => simp [prow, PyData.eqv, PyData.eqvAll]
  | cons q r => simp [prow, PyData.eqv, PyData.eqvAll]
theorem prow_any {ro : List (Int × Int)} {p : Int} : ((ro.map Prod.fst).map PyData.int).any (fun z => PyData.eqv z (.int p)) = decide (p ∈ ro.map Prod.fst) := by
  induction ro with
  | nil => simp
  | cons q r ih =>
    rw [List.map_cons, List.map_cons, List.any_cons, ih]
    have e : PyData.eqv (.int q.1) (.int p) = decide (q.1 = p) := by simp [PyData.eqv]; rfl
    rw [e]
    by_cases h : q.1 = p
    · simp [h]
    · have h2 : ¬ p = q.1 := fun z => h z.symm
      simp [h, h2]

-- NEEDS rows
-- NEEDS roll
/-! the rolls by turns, seen strip by strip -/
theorem plp_len {p s : Int} {k : Nat} : (plp p s k).length = k := by simp [plp]
theorem plp_get {p s : Int} {k j : Nat} (h : j < k) : (plp p s k)[j]? = some (p + ((j : Nat) : Int) * s) := by
  unfold plp
  simp [h]
def seqZ (p s b t : Int) (k : Nat) : List (Int × Int) := (List.range k).map fun j => (p + ((j : Nat) : Int) * s, b + ((j : Nat) : Int) * t)
theorem seqZ_succ {p s b t : Int} {k : Nat} : seqZ p s b t (k + 1) = seqZ p s b t k ++ [(p + (k : Int) * s, b + (k : Int) * t)] := by
  unfold seqZ
  rw [List.range_succ, List.map_append]
  rfl
theorem seqZ_len {p s b t : Int} {k : Nat} : (seqZ p s b t k).length = k := by simp [seqZ]
theorem seqZ_get {p s b t : Int} {k j : Nat} (h : j < k) : (seqZ p s b t k)[j]? = some (p + ((j : Nat) : Int) * s, b + ((j : Nat) : Int) * t) := by
  unfold seqZ
  simp [h]
theorem seqZ_take {p s b t : Int} : ∀ {k j : Nat}, j ≤ k → (seqZ p s b t k).take j = seqZ p s b t j
  | 0, j, h => by
    have : j = 0 := by omega
    subst this
    rfl
  | k + 1, j, h => by
    by_cases e : j = k + 1
    · subst e
      exact List.take_of_length_le (by rw [seqZ_len]; exact Nat.le_refl _)
    · rw [seqZ_succ, List.take_append_of_le_length (by rw [seqZ_len]; omega)]
      exact seqZ_take (by omega)
theorem rowZ_plp {r d z p s : Int} : ∀ k : Nat, rowZ r d z (plp p s k) = seqZ p s (p * d % r) (stp r d z s) k
  | 0 => rfl
  | k + 1 => by
    rw [plp_succ, rowZ_snoc, rowZ_plp k, seqZ_succ]
    congr 1
    cases k with
    | zero =>
      show [(p + ((0 : Nat) : Int) * s, nxt r d 0 (p + ((0 : Nat) : Int) * s))] = _
      have e : p + ((0 : Nat) : Int) * s = p := by simp
      rw [e, nxt_zero]
      simp
    | succ k =>
      rw [plp_end k]
      have := nxt_step (r := r) (d := d) (z := z) (s := s) (q := p) (k := (k : Int))
      have e : ((k + 1 : Nat) : Int) = (k : Int) + 1 := by omega
      rw [e, this]
theorem endR_seq {z p s b t : Int} {k : Nat} : endR z (seqZ p s b t (k + 1)) = b + (k : Int) * t + z := by
  rw [seqZ_succ, endR_snoc]
theorem begO_seq {r d l z p s : Int} {k : Nat} (h : p * d % r + (k : Int) * stp r d z s + z ≤ l) : begO r d l z (seqZ p s (p * d % r) (stp r d z s) k) (p + (k : Int) * s) = some (p * d % r + (k : Int) * stp r d z s) := by
  have e : nxt r d (endR z (seqZ p s (p * d % r) (stp r d z s) k)) (p + (k : Int) * s) = p * d % r + (k : Int) * stp r d z s := by
    cases k with
    | zero =>
      show nxt r d 0 (p + ((0 : Nat) : Int) * s) = _
      have e : p + ((0 : Nat) : Int) * s = p := by simp
      rw [e, nxt_zero]
      simp
    | succ k =>
      rw [endR_seq]
      have := nxt_step (r := r) (d := d) (z := z) (s := s) (q := p) (k := (k : Int))
      have e : ((k + 1 : Nat) : Int) = (k : Int) + 1 := by omega
      rw [e, this]
  unfold begO
  rw [e, if_pos h]
/-- a roll by turns: places in steps of s; the next one of the line does not fit -/
def RunOk (r d l z s n : Int) (ro : List Int) : Prop := ∃ (p : Int) (k : Nat), ro = plp p s (k + 1) ∧ 0 ≤ p ∧ p + (k : Int) * s < n ∧ (p + ((k : Int) + 1) * s < n → l < p * d % r + ((k : Int) + 1) * stp r d z s + z)
theorem lineT_flat {r d l z : Int} : ∀ (ps : List Int) (rs : List (List Int)) (ro : List Int) (rs' : List (List Int)) (ro' : List Int), lineT r d l z ps (rs, ro) = some (rs', ro') → (rs' ++ [ro']).flatten = (rs ++ [ro]).flatten ++ ps
  | [], rs, ro, rs', ro', h => by
    rw [lineT] at h
    cases h
    rw [List.append_nil]
  | p :: ps, rs, ro, rs', ro', h => by
    rw [lineT] at h
    split at h
    · cases h
    · split at h
      · rw [lineT_flat ps _ _ _ _ h]
        simp
      · rw [lineT_flat ps _ _ _ _ h]
        simp
theorem turnA_flat {r d l z s n : Int} : ∀ (is : List Int) (rs rs' : List (List Int)), turnA r d l z s n is rs = some rs' → rs'.flatten = rs.flatten ++ (is.map (plc s n)).flatten
  | [], rs, rs', h => by
    rw [turnA] at h
    cases h
    simp
  | i :: is, rs, rs', h => by
    rw [turnA] at h
    cases q : lineT r d l z (plc s n i) (rs, []) with
    | none =>
      rw [q] at h
      cases h
    | some st =>
      obtain ⟨ra, ro⟩ := st
      rw [q] at h
      rw [turnA_flat is _ _ h, lineT_flat _ _ _ _ _ q]
      simp
theorem lineT_runs {r d l z s n i : Int} (hr : 0 < r) (hz : 1 ≤ z) (hl : 0 ≤ l) (hs : 0 < s) (hi : 0 ≤ i) : ∀ (m x a : Nat) (rs : List (List Int)) (rs' : List (List Int)) (ro' : List Int), rgN i n s - x = m → x ≤ rgN i n s → a < x → (∀ q ∈ rs, RunOk r d l z s n q) →
    lineT r d l z ((plc s n i).drop x) (rs, plp (i + (a : Int) * s) s (x - a)) = some (rs', ro') → (∀ q ∈ rs', RunOk r d l z s n q) ∧ RunOk r d l z s n ro' := by
  have hlast : ∀ y : Nat, y < rgN i n s → i + (y : Int) * s < n := fun y hy => by
    have ec := rgN_cnt (n := n) (i := i) hs
    by_cases hin : i < n
    · rw [if_pos hin] at ec
      exact cnt_lt hs (by omega)
    · rw [if_neg hin] at ec
      omega
  have hover : ∀ y : Nat, rgN i n s ≤ y → n ≤ i + (y : Int) * s := fun y hy => by
    have ec := rgN_cnt (n := n) (i := i) hs
    by_cases hin : i < n
    · rw [if_pos hin] at ec
      unfold cnt at ec
      have h1 := Int.emod_add_mul_ediv (n - i + s - 1) s
      have h2 := Int.emod_lt_of_pos (n - i + s - 1) hs
      have h3 : ((rgN i n s : Nat) : Int) * s ≤ (y : Int) * s := Int.mul_le_mul_of_nonneg_right (by omega) (by omega)
      rw [ec, Int.mul_comm] at h3
      omega
    · have h3 : 0 ≤ (y : Int) * s := Int.mul_nonneg (by omega) (by omega)
      omega
  have mkrun : ∀ x a : Nat, a < x → x ≤ rgN i n s → (x < rgN i n s → l < (i + (a : Int) * s) * d % r + ((x : Int) - a) * stp r d z s + z) → RunOk r d l z s n (plp (i + (a : Int) * s) s (x - a)) := fun x a h1 h2 h3 => by
    obtain ⟨k, hk⟩ : ∃ k, x = a + (k + 1) := ⟨x - a - 1, by omega⟩
    have e1 : x - a = k + 1 := by omega
    have e2 : i + (a : Int) * s + (k : Int) * s = i + ((a + k : Nat) : Int) * s := by
      rw [Int.natCast_add, Int.add_mul]
      omega
    have e3 : i + (a : Int) * s + ((k : Int) + 1) * s = i + (x : Int) * s := by
      have : (x : Int) = a + (k + 1) := by omega
      rw [this, Int.add_mul (a : Int)]
      omega
    rw [e1]
    refine ⟨_, k, rfl, ?_, ?_, fun h => ?_⟩
    · have := Int.mul_nonneg (show 0 ≤ (a : Int) by omega) (show 0 ≤ s by omega)
      omega
    · rw [e2]
      exact hlast _ (by omega)
    · rw [e3] at h
      have hx : x < rgN i n s := by
        rcases Nat.lt_or_ge x (rgN i n s) with q | q
        · exact q
        · have := hover x q
          omega
      have := h3 hx
      have e4 : (x : Int) - a = (k : Int) + 1 := by omega
      rw [e4] at this
      exact this
  intro m
  induction m with
  | zero =>
    intro x a rs rs' ro' hm hx ha h1 h
    have e : (plc s n i).drop x = [] := List.drop_eq_nil_of_le (by rw [plc_len]; omega)
    rw [e, lineT] at h
    cases h
    exact ⟨h1, mkrun x a ha hx (fun q => by omega)⟩
  | succ m ih =>
    intro x a rs rs' ro' hm hx ha h1 h
    have hlt : x < (plc s n i).length := by rw [plc_len]; omega
    have e : (plc s n i).drop x = (i + (x : Int) * s) :: (plc s n i).drop (x + 1) := by
      rw [List.drop_eq_getElem_cons hlt]
      congr 1
      simp [plc]
    rw [e, lineT] at h
    split at h
    · cases h
    have ek : x - a = (x - a - 1) + 1 := by omega
    have en : nxt r d (endZ r d z 0 (plp (i + (a : Int) * s) s (x - a))) (i + (x : Int) * s) = (i + (a : Int) * s) * d % r + ((x : Int) - a) * stp r d z s := by
      rw [ek, plp_end]
      have := nxt_step (r := r) (d := d) (z := z) (s := s) (q := i + (a : Int) * s) (k := ((x - a - 1 : Nat) : Int))
      have c1 : ((x - a - 1 : Nat) : Int) + 1 = x - a := by omega
      have c2 : i + (a : Int) * s + ((x : Int) - a) * s = i + x * s := by rw [Int.sub_mul]; omega
      rw [c1, c2] at this
      exact this
    have one : plp (i + (x : Int) * s) s (x + 1 - x) = [i + (x : Int) * s] := by
      have : x + 1 - x = 1 := by omega
      rw [this]
      simp [plp]
    split at h
    · rename_i hc
      have t := (isNone_z hr (by omega) hl).mp hc
      rw [en] at t
      refine ih (x + 1) x _ _ _ (by omega) (by omega) (by omega) (fun q hq => ?_) (by rw [one]; exact h)
      rcases List.mem_append.mp hq with hq | hq
      · exact h1 q hq
      · simp at hq
        subst hq
        exact mkrun x a ha hx (fun _ => t)
    · refine ih (x + 1) a _ _ _ (by omega) (by omega) (by omega) h1 ?_
      have e5 : x + 1 - a = (x - a) + 1 := by omega
      have e6 : i + (a : Int) * s + ((x - a : Nat) : Int) * s = i + (x : Int) * s := by
        have : ((x - a : Nat) : Int) = (x : Int) - a := by omega
        rw [this, Int.sub_mul]
        omega
      rw [e5, plp_succ, e6]
      exact h
theorem turnA_runs {r d l z s n : Int} (hr : 0 < r) (hz : 1 ≤ z) (hl : 0 ≤ l) (hs : 0 < s) : ∀ (is : List Int) (rs rs' : List (List Int)), (∀ i ∈ is, 0 ≤ i ∧ i < n) → (∀ q ∈ rs, RunOk r d l z s n q) → turnA r d l z s n is rs = some rs' → ∀ q ∈ rs', RunOk r d l z s n q
  | [], rs, rs', _, h1, h => by
    rw [turnA] at h
    cases h
    exact h1
  | i :: is, rs, rs', hi, h1, h => by
    rw [turnA] at h
    cases q : lineT r d l z (plc s n i) (rs, []) with
    | none =>
      rw [q] at h
      cases h
    | some st =>
      obtain ⟨ra, ro⟩ := st
      rw [q] at h
      obtain ⟨i0, i1⟩ := hi i List.mem_cons_self
      have ec := rgN_cnt (n := n) (i := i) hs
      rw [if_pos i1] at ec
      have hc1 : 1 ≤ cnt s n i := by
        unfold cnt
        exact (Int.le_ediv_iff_mul_le hs).mpr (by omega)
      have hlt : 0 < (plc s n i).length := by rw [plc_len]; omega
      have e : plc s n i = i :: (plc s n i).drop 1 := by
        have := List.drop_eq_getElem_cons hlt
        rw [List.drop_zero] at this
        rw [this]
        congr 1
        simp [plc]
      rw [e, lineT] at q
      split at q
      · cases q
      rename_i hfit
      rw [if_neg (fun y => by
        have := (isNone_z (ro := []) hr (by omega) hl).mp y
        have this : l < nxt r d 0 i + z := this
        rw [nxt_zero] at this
        omega)] at q
      have one : plp (i + ((0 : Nat) : Int) * s) s (1 - 0) = [i] := by simp [plp]
      obtain ⟨w1, w2⟩ := lineT_runs hr hz hl hs i0 _ 1 0 rs ra ro rfl (by omega) (by omega) h1 (by rw [one]; exact q)
      refine turnA_runs hr hz hl hs is _ _ (fun j hj => hi j (List.mem_cons_of_mem _ hj)) (fun y hy => ?_) h
      rcases List.mem_append.mp hy with hy | hy
      · exact w1 y hy
      · simp at hy
        subst hy
        exact w2
theorem turned_runs {r d l z s n : Int} {rs : List (List Int)} (hr : 0 < r) (hz : 1 ≤ z) (hl : 0 ≤ l) (hs : 0 < s) (h : turned r d l z s n = some rs) : ∀ q ∈ rs, RunOk r d l z s n q :=
  turnA_runs hr hz hl hs _ [] rs (fun i hi => by
    unfold linesI at hi
    obtain ⟨j, hj, rfl⟩ := List.mem_map.mp hi
    have := List.mem_range.mp hj
    omega) (fun q hq => by cases hq) h
theorem turned_flat {r d l z s n : Int} {rs : List (List Int)} (h : turned r d l z s n = some rs) : rs.flatten = ((linesI (min s n).toNat).map (plc s n)).flatten := by
  have := turnA_flat _ [] rs h
  simpa using this
/-! all places, each once -/
theorem mem_plc {s n i x : Int} (hs : 0 < s) : x ∈ plc s n i ↔ i ≤ x ∧ x < n ∧ (x - i) % s = 0 := by
  have ec := rgN_cnt (n := n) (i := i) hs
  unfold plc
  constructor
  · intro h
    obtain ⟨j, hj, rfl⟩ := List.mem_map.mp h
    have hj := List.mem_range.mp hj
    by_cases hin : i < n
    · rw [if_pos hin] at ec
      have := cnt_lt hs (show ((j : Nat) : Int) < cnt s n i by omega)
      have h0 := Int.mul_nonneg (show 0 ≤ ((j : Nat) : Int) by omega) (show 0 ≤ s by omega)
      refine ⟨by omega, this, ?_⟩
      have e : i + ((j : Nat) : Int) * s - i = ((j : Nat) : Int) * s := by omega
      rw [e, Int.mul_emod_left]
    · rw [if_neg hin] at ec
      omega
  · rintro ⟨h1, h2, h3⟩
    have t2 := Int.emod_add_mul_ediv (x - i) s
    have t3 := Int.ediv_nonneg (a := x - i) (b := s) (by omega) (by omega)
    refine List.mem_map.mpr ⟨((x - i) / s).toNat, List.mem_range.mpr ?_, ?_⟩
    · rw [if_pos (by omega)] at ec
      have : (x - i) / s < cnt s n i := by
        unfold cnt
        have e2 : n - i + s - 1 = (n - 1 - i) + 1 * s := by omega
        rw [e2, Int.add_mul_ediv_right _ _ (by omega)]
        have := Int.ediv_le_ediv hs (show x - i ≤ n - 1 - i by omega)
        omega
      omega
    · have e : ((((x - i) / s).toNat : Nat) : Int) = (x - i) / s := by omega
      rw [e, Int.mul_comm]
      omega
theorem nodup_plc {s n i : Int} (hs : 0 < s) : (plc s n i).Nodup := by
  unfold plc
  refine List.Pairwise.map _ ?_ (List.nodup_range (n := rgN i n s))
  intro a b hab e
  have e : ((a : Nat) : Int) * s = ((b : Nat) : Int) * s := by omega
  have := Int.eq_of_mul_eq_mul_right (show s ≠ 0 by omega) e
  omega
theorem perm_ext_nodup {α : Type} [DecidableEq α] {l1 l2 : List α} (h1 : l1.Nodup) (h2 : l2.Nodup) (h : ∀ x, x ∈ l1 ↔ x ∈ l2) : l1.Perm l2 := by
  rw [List.perm_iff_count]
  intro a
  rw [h1.count, h2.count]
  by_cases ha : a ∈ l1
  · rw [if_pos ha, if_pos ((h a).mp ha)]
  · rw [if_neg ha, if_neg fun z => ha ((h a).mpr z)]
theorem flat_perm {s n : Int} (hs : 0 < s) (hn : 0 ≤ n) : (((linesI (min s n).toNat).map (plc s n)).flatten).Perm (rngI n.toNat) := by
  refine perm_ext_nodup ?_ ?_ fun x => ?_
  · unfold List.Nodup
    rw [List.pairwise_flatten]
    refine ⟨fun l hl => ?_, ?_⟩
    · obtain ⟨i, _, rfl⟩ := List.mem_map.mp hl
      exact nodup_plc hs
    · rw [List.pairwise_map]
      unfold linesI
      rw [List.pairwise_map]
      refine List.Pairwise.imp_of_mem ?_ (List.nodup_range (n := (min s n).toNat))
      intro a b ha hb hab x hx y hy e
      subst e
      have ha := List.mem_range.mp ha
      have hb := List.mem_range.mp hb
      obtain ⟨_, _, m1⟩ := (mem_plc hs).mp hx
      obtain ⟨_, _, m2⟩ := (mem_plc hs).mp hy
      have e1 : x % s = ((a : Nat) : Int) := by
        have := Int.emod_emod_of_dvd (x - (0 + ((a : Nat) : Int))) (Int.dvd_refl s)
        obtain ⟨q, hq⟩ := Int.dvd_of_emod_eq_zero m1
        have : x = ((a : Nat) : Int) + s * q := by omega
        rw [this, Int.add_mul_emod_self_left, Int.emod_eq_of_lt (by omega) (by omega)]
      have e2 : x % s = ((b : Nat) : Int) := by
        obtain ⟨q, hq⟩ := Int.dvd_of_emod_eq_zero m2
        have : x = ((b : Nat) : Int) + s * q := by omega
        rw [this, Int.add_mul_emod_self_left, Int.emod_eq_of_lt (by omega) (by omega)]
      exact hab (by omega)
  · unfold rngI
    refine List.Pairwise.map _ ?_ (List.nodup_range (n := n.toNat))
    intro a b hab e
    omega
  · rw [List.mem_flatten]
    constructor
    · rintro ⟨l, hl, hx⟩
      obtain ⟨i, hi, rfl⟩ := List.mem_map.mp hl
      unfold linesI at hi
      obtain ⟨j, hj, rfl⟩ := List.mem_map.mp hi
      obtain ⟨m1, m2, _⟩ := (mem_plc hs).mp hx
      exact List.mem_map.mpr ⟨x.toNat, List.mem_range.mpr (by omega), by omega⟩
    · intro hx
      obtain ⟨j, hj, rfl⟩ := List.mem_map.mp hx
      have hj := List.mem_range.mp hj
      have t0 := Int.emod_nonneg (0 + ((j : Nat) : Int)) (show s ≠ 0 by omega)
      have t1 := Int.emod_lt_of_pos (0 + ((j : Nat) : Int)) hs
      have t2 := Int.emod_add_mul_ediv (0 + ((j : Nat) : Int)) s
      have t3 := Int.ediv_nonneg (a := 0 + ((j : Nat) : Int)) (b := s) (by omega) (by omega)
      have t4 : 0 ≤ s * ((0 + ((j : Nat) : Int)) / s) := Int.mul_nonneg (by omega) t3
      refine ⟨plc s n ((0 + ((j : Nat) : Int)) % s), List.mem_map.mpr ⟨_, ?_, rfl⟩, (mem_plc hs).mpr ⟨by omega, by omega, ?_⟩⟩
      · unfold linesI
        exact List.mem_map.mpr ⟨((0 + ((j : Nat) : Int)) % s).toNat, List.mem_range.mpr (by omega), by omega⟩
      · rw [Int.sub_emod, Int.emod_emod_of_dvd _ (Int.dvd_refl s), Int.sub_self]
        rfl
/-! one strip more -/
theorem rl_more {g : Int → Int} {c : Int} (hg : ∀ x, 0 ≤ x → x < c + 1 → 1 ≤ g x) : ∀ (n : Nat) (x : Int), 0 ≤ x → x ≤ c + 1 → (c + 1 - x).toNat = n → rl g c x ≤ rl g (c + 1) x ∧ rl g (c + 1) x ≤ rl g c x + 1 := by
  have hg' : ∀ x, 0 ≤ x → x < c → 1 ≤ g x := fun x h0 h1 => hg x h0 (by omega)
  intro n
  induction n using Nat.strongRecOn with
  | ind n ih =>
    intro x h0 h1 hn
    by_cases hx : x < c
    · rw [rl_step hg' h0 hx, rl_step hg h0 (by omega)]
      have gx := hg x h0 (by omega)
      by_cases hb : x + g x ≤ c + 1
      · have := ih (c + 1 - (x + g x)).toNat (by omega) (x + g x) (by omega) hb rfl
        omega
      · rw [rl_end (by omega), rl_end (by omega)]
        omega
    · by_cases he : x = c
      · subst he
        have gx := hg x h0 (by omega)
        rw [rl_end (Int.le_refl _), rl_step hg h0 (by omega), rl_end (by omega)]
        omega
      · rw [rl_end (by omega), rl_end (by omega)]
        omega
theorem cnt_more {s n i : Int} (hs : 0 < s) (hi : 0 ≤ i) (h : i < s) : cnt s (n + 1) i = cnt s n i + (if i = n % s then 1 else 0) := by
  rw [cnt_eq hs hi h, cnt_eq hs hi h]
  have t1 := Int.emod_lt_of_pos n hs
  have t0 := Int.emod_nonneg n (show s ≠ 0 by omega)
  have t2 := Int.emod_add_mul_ediv n s
  by_cases hl : n % s + 1 < s
  · have e1 : (n + 1) % s = n % s + 1 := by
      have : n + 1 = (n % s + 1) + s * (n / s) := by omega
      rw [this, Int.add_mul_emod_self_left, Int.emod_eq_of_lt (by omega) hl]
    have e2 : (n + 1) / s = n / s := by
      have : n + 1 = (n % s + 1) + s * (n / s) := by omega
      rw [this, Int.add_mul_ediv_left _ _ (by omega), Int.ediv_eq_zero_of_lt (by omega) hl]
      omega
    rw [e1, e2]
    split <;> split <;> split <;> omega
  · have hes : n % s + 1 = s := by omega
    have e1 : (n + 1) % s = 0 := by
      have : n + 1 = s * (n / s + 1) := by rw [Int.mul_add]; omega
      rw [this, Int.mul_emod_right]
    have e2 : (n + 1) / s = n / s + 1 := by
      have : n + 1 = s * (n / s + 1) := by rw [Int.mul_add]; omega
      rw [this, Int.mul_ediv_cancel_left _ (by omega)]
    rw [e1, e2]
    split <;> split <;> split <;> omega
theorem rbF_more {r d l z s n : Int} (hr : 0 < r) (hz : 1 ≤ z) (hs : 0 < s) (hn : 0 ≤ n) (h : allC r d l z (n + 1) = true) : ∀ k : Nat, (k : Int) ≤ min s n →
    rbF r d l z s n k ≤ rbF r d l z s (n + 1) k ∧ rbF r d l z s (n + 1) k ≤ rbF r d l z s n k + (if n % s < k then 1 else 0)
  | 0, _ => by
    have t0 := Int.emod_nonneg n (show s ≠ 0 by omega)
    rw [rbF, rbF, if_neg (by omega)]
    omega
  | k + 1, hk => by
    have ih := rbF_more hr hz hs hn h k (by omega)
    rw [rbF, rbF]
    have hg := gl_pos (s := s) (i := (k : Nat)) hr hz hs (by omega) h
    have ec := cnt_more (n := n) (i := (k : Nat)) hs (by omega) (by omega)
    by_cases e : ((k : Nat) : Int) = n % s
    · rw [if_pos e] at ec
      rw [ec] at hg ⊢
      have hb := cnt_bd (s := s) (n := n) (i := (k : Nat)) hs (by omega) (by omega)
      have := rl_more hg _ 0 (by omega) (by omega) rfl
      rw [if_neg (by omega)] at ih
      rw [if_pos (by omega)]
      omega
    · rw [if_neg e, Int.add_zero] at ec
      rw [ec]
      split at ih <;> split <;> omega
theorem rbt_more {r d l z s n : Int} (hr : 0 < r) (hz : 1 ≤ z) (hs : 0 < s) (hn : 0 ≤ n) (h : allC r d l z (n + 1) = true) : rbF r d l z s n (min s n).toNat ≤ rbF r d l z s (n + 1) (min s (n + 1)).toNat ∧ rbF r d l z s (n + 1) (min s (n + 1)).toNat ≤ rbF r d l z s n (min s n).toNat + 1 := by
  by_cases hsn : s ≤ n
  · have e : (min s (n + 1)).toNat = (min s n).toNat := by omega
    rw [e]
    have := rbF_more hr hz hs hn h (min s n).toNat (by omega)
    split at this <;> omega
  · have e1 : (min s n).toNat = n.toNat := by omega
    have e2 : (min s (n + 1)).toNat = n.toNat + 1 := by omega
    have em : n % s = n := Int.emod_eq_of_lt hn (by omega)
    have := rbF_more hr hz hs hn h n.toNat (by omega)
    rw [if_neg (by omega)] at this
    rw [e1, e2, rbF]
    have ec : cnt s (n + 1) ((n.toNat : Nat) : Int) = 1 := by
      unfold cnt
      have : n + 1 - ((n.toNat : Nat) : Int) + s - 1 = s := by omega
      rw [this, Int.ediv_self (by omega)]
    have hg := gl_pos (s := s) (i := (n.toNat : Nat)) hr hz hs (by omega) h
    rw [ec] at hg ⊢
    have g0 := hg 0 (by omega) (by omega)
    rw [rl_step hg (by omega) (by omega), rl_end (by omega)]
    omega

-- NEEDS best3
-- NEEDS runs
/-! what the fewest rolls keep -/
theorem up_mono {g a b : Int} (hg : 0 < g) (h : a ≤ b) : up g a ≤ up g b := by
  have hb := up_spec (z := b) hg
  exact up_le hg hb.2.2 (by omega)
theorem endZ_low {r d z : Int} (hr : 0 < r) (hd : 0 ≤ d) : ∀ (n : Nat) (Q : List Int), Q.length = n + 1 → (n : Int) * up (pg r d) z + z ≤ endZ r d z 0 Q
  | n, Q, h => by
    rcases List.eq_nil_or_concat Q with rfl | ⟨P, p, rfl⟩
    · cases h
    rw [List.concat_eq_append] at h ⊢
    rw [List.length_append, List.length_cons, List.length_nil] at h
    rw [endZ_snoc]
    have hg := pg_pos (d := d) (show 1 ≤ r by omega)
    cases n with
    | zero =>
      have hP : P = [] := List.length_eq_zero_iff.mp (by omega)
      subst hP
      have : 0 ≤ nxt r d (endZ r d z 0 []) p := (nxt_spec (d := d) (f := 0) (n := p) hr).1
      simp
      omega
    | succ n =>
      have ih := endZ_low (z := z) hr hd n P (by omega)
      have h1 := (nxt_up (f := endZ r d z 0 P) hr hd).1 p
      have h2 := up_mono hg ih
      rw [up_add hg (up_mul hg _)] at h2
      have h3 : ((n + 1 : Nat) : Int) * up (pg r d) z = n * up (pg r d) z + up (pg r d) z := by
        rw [Int.natCast_add, Int.add_mul]
        simp
      omega
theorem fit_most {r d l z : Int} (hr : 0 < r) (hd : 0 ≤ d) (hz : 1 ≤ z) (hl : z ≤ l) {Q : List Int} (h : endZ r d z 0 Q ≤ l) : (Q.length : Int) ≤ most (pg r d) l z := by
  have hg := pg_pos (d := d) (show 1 ≤ r by omega)
  have hu := up_pos (z := z) hg hz
  have hm := most_le (g := pg r d) hu hl (by omega)
  cases q : Q.length with
  | zero => omega
  | succ n =>
    have h1 := endZ_low (z := z) hr hd n Q q
    unfold most
    have : (n : Int) ≤ (l - z) / up (pg r d) z := (Int.le_ediv_iff_mul_le hu).mpr (by omega)
    omega
theorem flat_le {M : Int} : ∀ {rs : List (List Int)}, (∀ o ∈ rs, (o.length : Int) ≤ M) → (rs.flatten.length : Int) ≤ rs.length * M
  | [], _ => by simp
  | o :: rs, h => by
    rw [List.flatten_cons, List.length_append, List.length_cons]
    have h1 := h o (by simp)
    have h2 := flat_le (rs := rs) fun x hx => h x (List.mem_cons_of_mem _ hx)
    have h3 : ((rs.length + 1 : Nat) : Int) * M = rs.length * M + M := by
      rw [Int.natCast_add, Int.add_mul]
      simp
    omega
theorem rngI_len (n : Nat) : (rngI n).length = n := by simp [rngI]
theorem BestP.ge {r d l z n : Int} {rs : List (List Int)} (hr : 0 < r) (hd : 0 ≤ d) (hz : 1 ≤ z) (hl : z ≤ l) (h : BestP r d l z n rs) : n ≤ rs.length * most (pg r d) l z := by
  have h1 := flat_le fun o ho => fit_most hr hd hz hl (h.each o ho).2
  have h2 := h.perm.length_eq
  rw [rngI_len] at h2
  omega
theorem BestP.len {r d l z n : Int} {rs rs' : List (List Int)} (h : BestP r d l z n rs) (h' : BestP r d l z n rs') : rs.length = rs'.length :=
  Nat.le_antisymm (h.min rs' h'.each h'.perm) (h'.min rs h.each h.perm)
theorem plp_ne {p s : Int} {k : Nat} : plp p s (k + 1) ≠ [] := fun e => by
  have := congrArg List.length e
  rw [plp_len] at this
  cases this
theorem BestP.turn {r d l z s n v : Int} {rs : List (List Int)} (hr : 0 < r) (hz : 1 ≤ z) (hl : 0 ≤ l) (hs : 0 < s) (hn : 0 ≤ n) (h : BestP r d l z n rs) (hv : rbt r d l z s n = some v) : (rs.length : Int) ≤ v := by
  have key := turned_rbt (d := d) (l := l) hr hz hl hs hn
  cases q : turned r d l z s n with
  | none =>
    rw [q] at key
    rw [key] at hv
    cases hv
  | some ts =>
    rw [q] at key
    have key : rbt r d l z s n = some (ts.length : Int) := key
    rw [key] at hv
    cases hv
    have h1 := turned_runs hr hz hl hs q
    have h2 := (turned_lay hr (by omega) hl q).2
    have h3 := h.min ts (fun o ho => ⟨by
      obtain ⟨p, k, rfl, _⟩ := h1 o ho
      exact plp_ne, h2 o ho⟩) (by rw [turned_flat q]; exact flat_perm hs hn)
    omega
theorem rollB_ok {r d l z n : Int} {o : List Int} (h1 : o ≠ []) (h2 : InR n o) (h3 : endZ r d z 0 o ≤ l) : rollB r d l z n (.tuple (o.map PyData.int)) = some o := by
  have e : (o.map PyData.int).map valI = o := by
    rw [List.map_map]
    conv => rhs; rw [← List.map_id o]
    rfl
  rw [rollB_t, e, if_neg (by simpa using h1), if_pos, if_neg (by omega)]
  rw [List.all_eq_true]
  intro x hx
  obtain ⟨p, hp, rfl⟩ := List.mem_map.mp hx
  have := h2 p hp
  show (decide (0 ≤ p) && decide (p ≤ n - 1)) = true
  rw [decide_eq_true this.1, decide_eq_true (by omega)]
  rfl
theorem seenA_ok {r d l z n : Int} : ∀ (rs : List (List Int)) (acc : List Int), (∀ o ∈ rs, o ≠ [] ∧ endZ r d z 0 o ≤ l) → InR n rs.flatten → seenA r d l z n acc (rs.map fun o => .tuple (o.map PyData.int)) = some (acc ++ rs.flatten)
  | [], acc, _, _ => by simp [seenA]
  | o :: rs, acc, h, hi => by
    rw [List.flatten_cons] at hi
    have h1 := h o (by simp)
    rw [List.map_cons, seenA, rollB_ok h1.1 (fun p hp => hi p (List.mem_append_left _ hp)) h1.2]
    show seenA r d l z n (acc ++ o) _ = _
    rw [seenA_ok rs _ (fun x hx => h x (List.mem_cons_of_mem _ hx)) (fun p hp => hi p (List.mem_append_right _ hp)), List.flatten_cons, List.append_assoc]
theorem BestP.plan {r d l z n : Int} {rs : List (List Int)} (hn : 0 ≤ n) (h : BestP r d l z n rs) : planB r d l z n (planD rs) = true := by
  unfold planD
  rw [planB_t, seenA_ok rs [] h.each fun p hp => rngI_inr hn p (h.perm.mem_iff.mp hp)]
  show decide (([] ++ rs.flatten).Perm (rngI n.toNat)) = true
  rw [List.nil_append, decide_eq_true h.perm]
/-! one strip less -/
theorem endZ_del {r d z : Int} (hr : 0 < r) (hz : 0 ≤ z) (P : Int → Bool) : ∀ (Q : List Int) (f g : Int), f ≤ g → endZ r d z f (Q.filter P) ≤ endZ r d z g Q
  | [], f, g, h => h
  | p :: Q, f, g, h => by
    rw [List.filter_cons]
    have h1 := nxt_mono (d := d) (p := p) hr h
    have h2 := (nxt_spec (d := d) (f := g) (n := p) hr).1
    split
    · rw [endZ, endZ]
      exact endZ_del hr hz P Q _ _ (by omega)
    · rw [endZ]
      exact endZ_del hr hz P Q _ _ (by omega)
theorem flat_map_filter (P : Int → Bool) : ∀ rs : List (List Int), (rs.map fun o => o.filter P).flatten = rs.flatten.filter P
  | [] => rfl
  | o :: rs => by rw [List.map_cons, List.flatten_cons, List.flatten_cons, List.filter_append, flat_map_filter P rs]
theorem flat_ne : ∀ rs : List (List Int), (rs.filter fun o => decide (o ≠ [])).flatten = rs.flatten
  | [] => rfl
  | [] :: rs => by
    rw [List.filter_cons, if_neg (by simp), flat_ne rs]
    rfl
  | (x :: o) :: rs => by
    rw [List.filter_cons, if_pos (by simp), List.flatten_cons, List.flatten_cons, flat_ne rs]
theorem rngI_succ (n : Nat) : rngI (n + 1) = rngI n ++ [(n : Int)] := by
  unfold rngI
  rw [List.range_succ, List.map_append, List.map_cons, List.map_nil, Int.zero_add]
theorem rngI_del (n : Nat) : (rngI (n + 1)).filter (fun x => decide (x ≠ (n : Int))) = rngI n := by
  rw [rngI_succ, List.filter_append, List.filter_eq_self.mpr fun a ha => ?_]
  · simp
  · obtain ⟨i, hi, rfl⟩ := List.mem_map.mp ha
    have := List.mem_range.mp hi
    exact decide_eq_true (by omega)
theorem BestP.less {r d l z : Int} {n : Nat} {rs rs' : List (List Int)} (hr : 0 < r) (hz : 0 ≤ z) (hfit : (n : Int) * d % r + z ≤ l) (h : BestP r d l z ((n : Int) + 1) rs) (h' : BestP r d l z n rs') : rs.length ≤ rs'.length + 1 ∧ rs'.length ≤ rs.length := by
  have e1 : ((n : Int) + 1).toNat = n + 1 := by omega
  have e2 : ((n : Nat) : Int).toNat = n := by omega
  have hp := h.perm
  have hp' := h'.perm
  rw [e1] at hp
  rw [e2] at hp'
  constructor
  · have := h.min (rs' ++ [[(n : Int)]]) (fun o ho => ?_) ?_
    · rw [List.length_append] at this
      exact this
    · rcases List.mem_append.mp ho with ho | ho
      · exact h'.each o ho
      · rw [List.mem_singleton] at ho
        subst ho
        refine ⟨by simp, ?_⟩
        show nxt r d 0 n + z ≤ l
        rw [nxt_zero]
        exact hfit
    · rw [flat_snoc, e1, rngI_succ]
      exact hp'.append (.refl _)
  · have := h'.min ((rs.map fun o => o.filter fun x => decide (x ≠ (n : Int))).filter fun o => decide (o ≠ [])) (fun o ho => ?_) ?_
    · refine Nat.le_trans this (Nat.le_trans (List.length_filter_le _ _) ?_)
      rw [List.length_map]
      exact Nat.le_refl _
    · obtain ⟨ho1, ho2⟩ := List.mem_filter.mp ho
      obtain ⟨q, hq, rfl⟩ := List.mem_map.mp ho1
      refine ⟨of_decide_eq_true ho2, Int.le_trans (endZ_del hr hz _ q 0 0 (Int.le_refl _)) (h.each q hq).2⟩
    · rw [flat_ne, flat_map_filter, e2, ← rngI_del n]
      exact hp.filter _

-- NEEDS best4
/-! an order cut into rolls, and all orders -/
def cutZ (r d l z : Int) : List Int → List (List Int) × List Int → List (List Int) × List Int
  | [], st => st
  | p :: ps, (rs, ro) => if ro = [] then cutZ r d l z ps (rs, [p]) else if l < endZ r d z 0 (ro ++ [p]) then cutZ r d l z ps (rs ++ [ro], [p]) else cutZ r d l z ps (rs, ro ++ [p])
/-- how many rolls -/
def cN (st : List (List Int) × List Int) : Nat := st.1.length + if st.2 = [] then 0 else 1
def cutN (r d l z : Int) (o : List Int) : Nat := cN (cutZ r d l z o ([], []))
theorem cutZ_app {r d l z : Int} : ∀ (a b : List Int) (st : List (List Int) × List Int), cutZ r d l z (a ++ b) st = cutZ r d l z b (cutZ r d l z a st)
  | [], b, st => rfl
  | p :: a, b, (rs, ro) => by
    rw [List.cons_append, cutZ, cutZ]
    split
    · exact cutZ_app a b _
    · split
      · exact cutZ_app a b _
      · exact cutZ_app a b _
theorem cutZ_one {r d l z p : Int} {rs : List (List Int)} {ro : List Int} : cutZ r d l z [p] (rs, ro) = if ro = [] then (rs, [p]) else if l < endZ r d z 0 (ro ++ [p]) then (rs ++ [ro], [p]) else (rs, ro ++ [p]) := rfl
theorem endZ_up {r d z : Int} (hr : 0 < r) : ∀ (Q : List Int) {f g : Int}, f ≤ g → endZ r d z f Q ≤ endZ r d z g Q
  | [], _, _, h => h
  | p :: Q, f, g, h => by
    rw [endZ, endZ]
    have := nxt_mono (d := d) (p := p) hr h
    exact endZ_up hr Q (by omega)
/-- what was cut is a plan -/
theorem cutZ_plan {r d l z : Int} (_ : True) : ∀ (o : List Int), (∀ p ∈ o, endZ r d z 0 [p] ≤ l) → ∀ (rs : List (List Int)) (ro : List Int), (∀ q ∈ rs, q ≠ [] ∧ endZ r d z 0 q ≤ l) → (ro ≠ [] → endZ r d z 0 ro ≤ l) →
    (∀ q ∈ (cutZ r d l z o (rs, ro)).1, q ≠ [] ∧ endZ r d z 0 q ≤ l) ∧ ((cutZ r d l z o (rs, ro)).2 ≠ [] → endZ r d z 0 (cutZ r d l z o (rs, ro)).2 ≤ l) ∧ (cutZ r d l z o (rs, ro)).1.flatten ++ (cutZ r d l z o (rs, ro)).2 = rs.flatten ++ ro ++ o
  | [], _, rs, ro, h1, h2 => ⟨h1, h2, by rw [cutZ, List.append_nil]⟩
  | p :: o, h, rs, ro, h1, h2 => by
    have hp := h p (by simp)
    have ho : ∀ q ∈ o, endZ r d z 0 [q] ≤ l := fun q hq => h q (List.mem_cons_of_mem _ hq)
    rw [cutZ]
    split
    · rename_i e
      subst e
      obtain ⟨a, b, c⟩ := cutZ_plan trivial o ho rs [p] h1 (fun _ => hp)
      exact ⟨a, b, by rw [c]; simp⟩
    · rename_i e
      split
      · obtain ⟨a, b, c⟩ := cutZ_plan trivial o ho (rs ++ [ro]) [p] (fun q hq => by
          rcases List.mem_append.mp hq with hq | hq
          · exact h1 q hq
          · rw [List.mem_singleton] at hq
            subst hq
            exact ⟨e, h2 e⟩) (fun _ => hp)
        exact ⟨a, b, by rw [c, flat_snoc]; simp⟩
      · rename_i q
        obtain ⟨a, b, c⟩ := cutZ_plan trivial o ho rs (ro ++ [p]) h1 (fun _ => by omega)
        exact ⟨a, b, by rw [c]; simp⟩
theorem BestP.cut_le {r d l z n : Int} {rs : List (List Int)} {o : List Int} (hb : BestP r d l z n rs) (ho : o.Perm (rngI n.toNat)) (hfit : ∀ p ∈ o, endZ r d z 0 [p] ≤ l) : rs.length ≤ cutN r d l z o := by
  obtain ⟨a, b, c⟩ := cutZ_plan trivial o hfit [] [] (fun q hq => (by cases hq)) (fun h => (h rfl).elim)
  unfold cutN cN
  generalize cutZ r d l z o ([], []) = st at a b c
  obtain ⟨ts, ro⟩ := st
  dsimp only at a b c ⊢
  simp only [List.flatten_nil, List.nil_append] at c
  split
  · rename_i e
    subst e
    rw [List.append_nil] at c
    exact hb.min ts a (by rw [c]; exact ho)
  · rename_i e
    have := hb.min (ts ++ [ro]) (fun q hq => by
      rcases List.mem_append.mp hq with hq | hq
      · exact a q hq
      · rw [List.mem_singleton] at hq
        subst hq
        exact ⟨e, b e⟩) (by rw [flat_snoc, c]; exact ho)
    rw [List.length_append] at this
    exact this
/-- the cut of an order is never behind a plan of the order -/
theorem cut_roll {r d l z : Int} (hr : 0 < r) (hz : 0 ≤ z) {j : Nat} : ∀ (B A : List Int) (st : List (List Int) × List Int), (cN st < j ∨ (cN st = j ∧ st.2 ≠ [] ∧ ∃ A', A = A' ++ st.2)) → endZ r d z 0 (A ++ B) ≤ l → cN (cutZ r d l z B st) ≤ j
  | [], A, st, h, _ => by
    rw [cutZ]
    rcases h with h | h <;> omega
  | p :: B, A, (rs, ro), h, hf => by
    have e : p :: B = [p] ++ B := rfl
    rw [e, cutZ_app, cutZ_one]
    have hf2 : endZ r d z 0 ((A ++ [p]) ++ B) ≤ l := by rw [List.append_assoc]; exact hf
    refine cut_roll hr hz B (A ++ [p]) _ ?_ hf2
    have e0 : cN (rs, ro) = rs.length + if ro = [] then 0 else 1 := rfl
    by_cases q : ro = []
    · rw [if_pos q]
      rw [if_pos q] at e0
      rcases h with h | ⟨_, h, _⟩
      · have e1 : cN (rs, [p]) = rs.length + 1 := rfl
        by_cases hj : rs.length + 1 = j
        · exact .inr ⟨by omega, by simp, A, rfl⟩
        · exact .inl (by omega)
      · exact (h q).elim
    · rw [if_neg q]
      rw [if_neg q] at e0
      rcases h with h | ⟨h, _, A', e2⟩
      · by_cases hl : l < endZ r d z 0 (ro ++ [p])
        · rw [if_pos hl]
          have e1 : cN (rs ++ [ro], [p]) = rs.length + 1 + 1 := by
            show (rs ++ [ro]).length + 1 = _
            rw [List.length_append]
            rfl
          by_cases hj : rs.length + 1 + 1 = j
          · exact .inr ⟨by omega, by simp, A, rfl⟩
          · exact .inl (by omega)
        · rw [if_neg hl]
          have e1 : cN (rs, ro ++ [p]) = rs.length + 1 := by
            show rs.length + (if ro ++ [p] = [] then 0 else 1) = _
            rw [if_neg (by simp)]
          exact .inl (by omega)
      · have hle : ¬ l < endZ r d z 0 (ro ++ [p]) := by
          have e2 : A = A' ++ ro := e2
          subst e2
          have t1 := endZ_pre (d := d) hr hz ((A' ++ ro) ++ [p]) B
          rw [List.append_assoc A', endZ_app] at t1
          have t2 := endZ_up (d := d) (z := z) hr (ro ++ [p]) (endZ_ge (d := d) (z := z) hr hz 0 A')
          have t3 : A' ++ (ro ++ [p]) ++ B = A' ++ ro ++ p :: B := by simp
          rw [t3] at t1
          omega
        rw [if_neg hle]
        have e1 : cN (rs, ro ++ [p]) = rs.length + 1 := by
          show rs.length + (if ro ++ [p] = [] then 0 else 1) = _
          rw [if_neg (by simp)]
        refine .inr ⟨by omega, by simp, A', ?_⟩
        have e2 : A = A' ++ ro := e2
        rw [e2, List.append_assoc]
theorem cut_plan {r d l z : Int} (hr : 0 < r) (hz : 0 ≤ z) : ∀ (rs : List (List Int)) (j : Nat) (st : List (List Int) × List Int), cN st ≤ j → (∀ o ∈ rs, endZ r d z 0 o ≤ l) → cN (cutZ r d l z rs.flatten st) ≤ j + rs.length
  | [], j, st, h, _ => h
  | o :: rs, j, st, h, hf => by
    rw [List.flatten_cons, cutZ_app, List.length_cons]
    have h1 := cut_roll hr hz (j := j + 1) o [] st (.inl (by omega)) (by rw [List.nil_append]; exact hf o (by simp))
    have h2 := cut_plan hr hz rs (j + 1) _ h1 fun x hx => hf x (List.mem_cons_of_mem _ hx)
    omega
theorem BestP.cut_ge {r d l z n : Int} {rs : List (List Int)} (hr : 0 < r) (hz : 0 ≤ z) (hb : BestP r d l z n rs) : cutN r d l z rs.flatten ≤ rs.length := by
  have := cut_plan (l := l) hr hz rs 0 ([], []) (Nat.le_refl _) fun o ho => (hb.each o ho).2
  unfold cutN
  omega
/-! all orders -/
def ordZ (n : Int) : Nat → List (List Int)
  | 0 => [[]]
  | t + 1 => (ordZ n t).flatMap fun row => ((rngI n.toNat).filter fun p => !decide (p ∈ row)).map fun p => row ++ [p]
theorem ordZ_mem {n : Int} (h0 : 0 ≤ n) : ∀ (t : Nat) (q : List Int), q ∈ ordZ n t ↔ q.length = t ∧ q.Nodup ∧ InR n q
  | 0, q => by
    rw [ordZ, List.mem_singleton]
    constructor
    · rintro rfl
      exact ⟨rfl, List.nodup_nil, fun p hp => (by cases hp)⟩
    · intro h
      exact List.length_eq_zero_iff.mp h.1
  | t + 1, q => by
    rw [ordZ, List.mem_flatMap]
    constructor
    · rintro ⟨row, hrow, hq⟩
      obtain ⟨p, hp, rfl⟩ := List.mem_map.mp hq
      obtain ⟨hp1, hp2⟩ := List.mem_filter.mp hp
      obtain ⟨a, b, c⟩ := (ordZ_mem h0 t row).mp hrow
      have hp3 : p ∉ row := by simpa using hp2
      refine ⟨by rw [List.length_append, a]; rfl, ?_, fun x hx => ?_⟩
      · rw [List.nodup_append]
        refine ⟨b, by simp, fun x hx y hy e => ?_⟩
        rw [List.mem_singleton] at hy
        subst hy
        subst e
        exact hp3 hx
      · rcases List.mem_append.mp hx with hx | hx
        · exact c x hx
        · rw [List.mem_singleton] at hx
          subst hx
          exact rngI_inr h0 x hp1
    · rintro ⟨a, b, c⟩
      rcases List.eq_nil_or_concat q with rfl | ⟨row, p, rfl⟩
      · cases a
      rw [List.concat_eq_append] at a b c ⊢
      rw [List.length_append] at a
      rw [List.nodup_append] at b
      refine ⟨row, (ordZ_mem h0 t row).mpr ⟨Nat.succ.inj a, b.1, fun x hx => c x (List.mem_append_left _ hx)⟩, List.mem_map.mpr ⟨p, List.mem_filter.mpr ⟨?_, ?_⟩, rfl⟩⟩
      · obtain ⟨h1, h2⟩ := c p (by simp)
        unfold rngI
        exact List.mem_map.mpr ⟨p.toNat, List.mem_range.mpr (by omega), by omega⟩
      · have : p ∉ row := fun hx => b.2.2 p hx p (by simp) rfl
        simpa using this
theorem perm_len {a b : List Int} (ha : a.Nodup) (hb : b.Nodup) (hs : ∀ x ∈ a, x ∈ b) (hl : b.length ≤ a.length) : a.Perm b :=
  perm_ext_nodup ha hb fun x => ⟨hs x, fun hx => by
    by_cases q : x ∈ a
    · exact q
    · exfalso
      have := nodup_le (l := x :: a) (m := b) (List.nodup_cons.mpr ⟨q, ha⟩) fun y hy => by
        rcases List.mem_cons.mp hy with rfl | hy
        · exact hx
        · exact hs y hy
      rw [List.length_cons] at this
      omega⟩
theorem ordZ_all {n : Int} (h0 : 0 ≤ n) {q : List Int} : q ∈ ordZ n n.toNat ↔ q.Perm (rngI n.toNat) := by
  rw [ordZ_mem h0]
  constructor
  · rintro ⟨a, b, c⟩
    refine perm_len b (rngI_nodup _) (fun x hx => ?_) (by rw [rngI_len]; omega)
    obtain ⟨h1, h2⟩ := c x hx
    unfold rngI
    exact List.mem_map.mpr ⟨x.toNat, List.mem_range.mpr (by omega), by omega⟩
  · intro h
    exact ⟨by rw [h.length_eq, rngI_len], h.nodup_iff.mpr (rngI_nodup _), fun x hx => rngI_inr h0 x (h.mem_iff.mp hx)⟩
theorem ordZ_len {n : Int} (h0 : 0 ≤ n) (h5 : n ≤ 5) : ∀ t : Nat, (ordZ n t).length ≤ 5 ^ t
  | 0 => Nat.le_refl _
  | t + 1 => by
    rw [ordZ]
    have h1 : ∀ l : List (List Int), (l.flatMap fun row => ((rngI n.toNat).filter fun p => !decide (p ∈ row)).map fun p => row ++ [p]).length ≤ l.length * 5 := by
      intro l
      induction l with
      | nil => exact Nat.le_refl _
      | cons x l ih =>
        rw [List.flatMap_cons, List.length_append, List.length_map, List.length_cons]
        have t1 := List.length_filter_le (fun p => !decide (p ∈ x)) (rngI n.toNat)
        rw [rngI_len] at t1
        omega
    have h2 := h1 (ordZ n t)
    have h3 := ordZ_len h0 h5 t
    rw [Nat.pow_succ]
    omega

section
variable {P : Program} {w : World} {K : PySem.W.Frag} {mg : Str → Option Value} {base : Heap}
-- NEEDS within
-- FILL: ⟨_, _, _, rfl, ?_⟩
def p_is_integer : List PyData → (PyData → Prop) → Prop := fun ds R => ∃ d lo hi, ds = [d, .int lo, .int hi] ∧ R (.bool (within d lo hi))
theorem ok_is_integer (T : En K mg) : FnOk P w K mg base CX0 1 T.f_is_integer T.fd_is_integer ["value", "low", "high"] (Con K p_is_integer) := by
  refine fn_con T.F_is_integer sc_is_integer (fun ds R h => ?_) (fun cdv A outer s H E W ds R hr h => ?_)
  · obtain ⟨d, lo, hi, rfl, _⟩ := h
    rfl
  · obtain ⟨d, lo, hi, rfl, hR⟩ := h
    refine ess_one (es_ret ?_)
    refine ev_and ?_
    refine ev_isInt T.n_isinstance T.n_int ?_
    refine ev_name 0 rfl ?_
    refine ⟨fun h1 => ?_, fun h1 => ?_⟩
    · refine ev_and ?_
      refine ev_not ?_
      refine ev_isBool T.n_isinstance T.n_bool ?_
      refine ev_name 0 rfl ?_
      cases d <;> first | (cases h1; done) | skip
      · exact ⟨fun z => (by cases z), fun _ => hR⟩
      · rename_i i
        refine ⟨fun _ => ?_, fun z => (by cases z)⟩
        refine ev_one ?_
        refine ev_chain oz_le oz_le ?_
        refine ev_name 1 rfl ?_
        refine ev_name 0 rfl ?_
        have hR : R (.bool (decide (lo ≤ i) && decide (i ≤ hi))) := hR
        refine dB (fun h2 => ?_) fun h2 => ?_
        · refine ev_name 2 rfl ?_
          rw [decide_eq_true h2, Bool.true_and] at hR
          exact hR
        · rw [decide_eq_false h2, Bool.false_and] at hR
          exact hR
    · cases d <;> first | exact hR | cases h1

-- FILL: ⟨_, _, _, _, rfl, by walk_at "pre", ?_⟩
-- NEEDS base
def p_phase : List PyData → (PyData → Prop) → Prop := fun ds R => ∃ r d l n, ds = [pap r d l, .int n] ∧ POk r d l ∧ R (.int (n * d % r))
theorem ok_phase (T : En K mg) : FnOk P w K mg base CX0 1 T.f_phase T.fd_phase ["paper", "place"] (Con K p_phase) := by
  refine fn_con T.F_phase sc_phase (fun ds R h => ?_) (fun cdv A outer s H E W ds R hr h => ?_)
  · obtain ⟨r, d, l, n, rfl, _⟩ := h
    rfl
  · obtain ⟨r, d, l, n, rfl, ⟨⟨h1, h2⟩, ⟨h3, h4⟩, h5⟩, hR⟩ := h
    refine ess_one (es_ret ?_)
    refine ev_bin oz_mod ?_
    refine ev_bin oz_mul ?_
    refine ev_name 1 rfl ?_
    refine ev_ix ?_
    refine ev_name 0 rfl ?_
    refine ev_int ?_
    refine ⟨_, rfl, ?_⟩
    refine ⟨by walk_at "zs", ?_⟩
    refine ev_ix ?_
    refine ev_name 0 rfl ?_
    refine ev_int ?_
    refine ⟨_, rfl, ?_⟩
    exact ⟨by walk_at "zs", hR⟩

-- FILL: ⟨_, _, _, _, _, rfl, by walk_at "pre", ?_⟩
def p_can_cut : List PyData → (PyData → Prop) → Prop := fun ds R => ∃ r d l z n, ds = [pap r d l, .int z, .int n] ∧ POk r d l ∧ R (.bool (decide (n * d % r + z ≤ l)))
theorem ok_can_cut (T : En K mg) : FnOk P w K mg base CX0 2 T.f_can_cut T.fd_can_cut ["paper", "length", "place"] (Con K p_can_cut) := by
  refine fn_con T.F_can_cut sc_can_cut (fun ds R h => ?_) (fun cdv A outer s H E W ds R hr h => ?_)
  · obtain ⟨r, d, l, z, n, rfl, _⟩ := h
    rfl
  · obtain ⟨r, d, l, z, n, rfl, hp, hR⟩ := h
    refine ess_one (es_ret ?_)
    refine ev_cmp oz_le ?_
    refine ev_bin oz_add ?_
    refine ev_call (ok_phase T) hr T.g_phase T.F_phase.kp T.b_phase ?_
    refine ea_cons ?_
    refine ev_name 0 rfl ?_
    refine ea_cons ?_
    refine ev_name 2 rfl ?_
    refine ea_nil ?_
    refine ⟨r, d, l, n, rfl, hp, ?_⟩
    refine ev_name 1 rfl ?_
    refine ev_ix ?_
    refine ev_name 0 rfl ?_
    refine ev_int ?_
    exact ⟨_, rfl, hR⟩

-- NEEDS turns
-- FILL: ⟨_, _, _, _, _, rfl, by walk_at "pre", by walk_at "zs", by walk_at "zs", ?_⟩
def p_all_can_be_cut : List PyData → (PyData → Prop) → Prop := fun ds R => ∃ r d l z n : Int, ds = [pap r d l, .int z, .int n] ∧ POk r d l ∧ 0 ≤ n ∧ n ≤ 10 ^ 13 ∧ R (.bool (allC r d l z n))
theorem ok_all_can_be_cut (T : En K mg) : FnOk P w K mg base CX0 3 T.f_all_can_be_cut T.fd_all_can_be_cut ["paper", "length", "number"] (Con K p_all_can_be_cut) := by
  refine fn_con T.F_all_can_be_cut sc_all_can_be_cut (fun ds R h => ?_) (fun cdv A outer s H E W ds R hr h => ?_)
  · obtain ⟨r, d, l, z, n, rfl, _⟩ := h
    rfl
  · obtain ⟨r, d, l, z, n, rfl, hp, n0, n1, hR⟩ := h
    obtain ⟨⟨h1, h2⟩, ⟨h3, h4⟩, h5, h6⟩ := id hp
    refine ess_one (es_ret ?_)
    refine ev_all rfl T.n_all ?_
    refine ev_el (el_lc (own := [("place", 3)]) (gg_name 3) (fun _ _ _ _ _ => pg_name sc_all_can_be_cut.nd rfl (.inl rfl)) rfl sc_all_can_be_cut.nd (blkOk_by (N := ["paper", "length", "number", "place"]) (sc := defScope s_all_can_be_cut) (by decide +kernel)) rfl ?_)
    refine ei_range1 T.n_range ?_
    refine ev_min2 rfl T.n_min ?_
    refine ev_name 2 rfl ?_
    refine ev_ix ?_
    refine ev_name 0 rfl ?_
    refine ev_int ?_
    refine ⟨_, rfl, ?_⟩
    intro m ma mb mc
    have em : m = min n r := by omega
    subst em
    refine ⟨by omega, by omega, ?_⟩
    refine ⟨by rw [rngD_len]; exact Nat.le_trans (show (min n r).toNat ≤ 10000 by omega) (by decide), fun i acc => acc = ((List.range i).map fun p => decide (((p : Nat) : Int) * d % r + z ≤ l)).map PyData.bool, rfl, fun i x acc hx ha _ => ⟨[x], rfl, ?_⟩, fun acc ha hlen => ?_⟩
    · have hi := (List.getElem?_eq_some_iff.mp hx).1
      rw [rngD_len] at hi
      rw [rngD_get hi] at hx
      cases hx
      subst ha
      rintro _ ⟨s', H', C, cl, fp, rfl⟩ W' _
      have e0 : (0 : Int) + (i : Nat) = (i : Nat) := by omega
      rw [e0]
      refine ev_call (ok_can_cut T) hr T.g_can_cut T.F_can_cut.kp T.b_can_cut ?_
      refine ea_cons ?_
      refine ev_name 0 rfl ?_
      refine ea_cons ?_
      refine ev_name 1 rfl ?_
      refine ea_cons ?_
      refine ev_name 3 rfl ?_
      refine ea_nil ⟨_, _, _, _, _, rfl, by walk_at "pre", ?_⟩
      show _ = ((List.range (i + 1)).map fun p => decide (((p : Nat) : Int) * d % r + z ≤ l)).map PyData.bool
      rw [List.range_succ, List.map_append, List.map_append]
      rfl
    · subst ha
      rw [rngD_len]
      refine ⟨_, rfl, ?_⟩
      have e : ((List.range (min n r).toNat).map fun p => decide (((p : Nat) : Int) * d % r + z ≤ l)).all id = allC r d l z n := by
        unfold allC
        rw [List.all_map]
        rfl
      rw [e]
      exact hR

-- NEEDS next
-- FILL: ⟨_, _, _, _, _, rfl, by walk_at "pre", ?_⟩
def p_begin_behind : List PyData → (PyData → Prop) → Prop := fun ds R => ∃ r d l f n : Int, ds = [pap r d l, .int f, .int n] ∧ POk r d l ∧ R (.int (nxt r d f n))
theorem ok_begin_behind (T : En K mg) : FnOk P w K mg base CX0 2 T.f_begin_behind T.fd_begin_behind ["paper", "free", "place"] (Con K p_begin_behind) := by
  refine fn_con T.F_begin_behind sc_begin_behind (fun ds R h => ?_) (fun cdv A outer s H E W ds R hr h => ?_)
  · obtain ⟨r, d, l, f, n, rfl, _⟩ := h
    rfl
  · obtain ⟨r, d, l, f, n, rfl, hp, hR⟩ := h
    obtain ⟨⟨h1, h2⟩, ⟨h3, h4⟩, h5, h6⟩ := id hp
    refine ess_one (es_ret ?_)
    refine ev_bin oz_add ?_
    refine ev_name 1 rfl ?_
    refine ev_bin oz_mod ?_
    refine ev_bin oz_sub ?_
    refine ev_call (ok_phase T) hr T.g_phase T.F_phase.kp T.b_phase ?_
    refine ea_cons ?_
    refine ev_name 0 rfl ?_
    refine ea_cons ?_
    refine ev_name 2 rfl ?_
    refine ea_nil ⟨_, _, _, _, rfl, by walk_at "pre", ?_⟩
    refine ev_name 1 rfl ?_
    refine ev_ix ?_
    refine ev_name 0 rfl ?_
    refine ev_int ?_
    refine ⟨_, rfl, ?_⟩
    refine ⟨by walk_at "zs", ?_⟩
    have e : f + (n * d % r - f) % r = nxt r d f n := by
      unfold nxt
      rw [Int.sub_emod, Int.emod_emod_of_dvd _ (Int.dvd_refl r), ← Int.sub_emod]
    show R (.int (f + (n * d % r - f) % r))
    rw [e]
    exact hR

-- LAYER Zc
-- FILL: ⟨_, _, rfl, by walk_at "zs", fun $1 $1a $1b => ?_⟩
def p_with_place : List PyData → (PyData → Prop) → Prop := fun ds R => ∃ (ps : List Int) (p : Int), ds = [.tuple (ps.map PyData.int), .int p] ∧ ps.length ≤ 1000 ∧ ∀ ms : List Int, ms.Perm (ps ++ [p]) → ms.Pairwise (· ≤ ·) → R (.tuple (ms.map PyData.int))
theorem ok_with_place (T : En K mg) : FnOk P w K mg base CX0 1 T.f_with_place T.fd_with_place ["places", "place"] (Con K p_with_place) := by
  refine fn_con T.F_with_place sc_with_place (fun ds R h => ?_) (fun cdv A outer s H E W ds R hr h => ?_)
  · obtain ⟨ps, p, rfl, _⟩ := h
    rfl
  · obtain ⟨ps, p, rfl, hl, hR⟩ := h
    refine ess_one (es_ret ?_)
    refine ev_tupleOf T.n_tuple ?_
    refine ev_el (el_sortedT T.n_sorted ?_)
    refine ev_tup ?_
    refine ea_star ?_
    refine ev_name 0 rfl ?_
    refine ea_cons ?_
    refine ev_name 1 rfl ?_
    refine ea_nil ⟨?_, ps ++ [p], by rw [List.map_append]; rfl, fun ms h1 h2 => hR ms h1 h2⟩
    rw [List.length_append, List.length_map]
    exact Nat.le_trans (show ps.length + 1 ≤ 2000 by omega) (by decide)

-- NEEDS best2
-- LAYER Zc
def p_sets_that_fit : List PyData → (List (NestedKey × PyData) → Prop) → Prop := fun ds R => ∃ (r d l z n : Int), ds = [pap r d l, .int z, .int n] ∧ POk r d l ∧ (1 ≤ z ∧ z ≤ 1000000) ∧ (0 ≤ n ∧ n ≤ 9) ∧ ∀ kvs, FouK r d l z n (Fit1 r d l z n) kvs → R kvs
theorem itD_get {kvs : List (NestedKey × PyData)} {i : Nat} {x : PyData} (h : (Z.itD kvs)[i]? = some x) : ∃ kv, kvs[i]? = some kv ∧ x = .tuple [kv.1.data, kv.2] := by
  unfold Z.itD at h
  rw [List.getElem?_map] at h
  obtain ⟨t, h6, h7⟩ := Option.map_eq_some_iff.mp h
  exact ⟨t, h6, h7.symm⟩
theorem itD_len {kvs : List (NestedKey × PyData)} : (Z.itD kvs).length = kvs.length := by
  unfold Z.itD
  rw [List.length_map]
theorem ok_sets_that_fit (T : En K mg) : FnOk P w K mg base CX0 3 T.f_sets_that_fit T.fd_sets_that_fit ["paper", "length", "number"] (ConD K p_sets_that_fit) := by
  refine fn_conD T.F_sets_that_fit sc_sets_that_fit (fun ds R h => ?_) (fun cdv A outer s H E W ds R hr h => ?_)
  · obtain ⟨r, d, l, z, n, rfl, _⟩ := h
    rfl
  · obtain ⟨r, d, l, z, n, rfl, hp, ⟨z1, z2⟩, ⟨n0, n9⟩, hR⟩ := h
    obtain ⟨⟨h1, h2⟩, ⟨h3, h4⟩, h5, h6⟩ := id hp
    have hr0 : 0 < r := by omega
    have hz0 : 0 ≤ z := by omega
    have hu := zu hr
    have szb : (6000 : Nat) < sizeLine := by decide
    have hnn : (n.toNat : Int) = n := by omega
    refine esd_cons (es_dcN 4 (own := [("place", 3)]) (gg_name 3) (fun _ _ _ _ _ => pg_name sc_sets_that_fit.nd rfl (.inl rfl)) (by omega) rfl sc_sets_that_fit.nd (blkOk_by (N := ["paper", "length", "number", "place", "layer", "found", "later", "key", "row", "places", "last", "end", "order", "new", "far"]) (sc := defScope s_sets_that_fit) (by decide +kernel)) rfl ?_ (by rfl))
    refine ei_range1 T.n_range ?_
    refine ev_name 2 rfl ?_
    refine ⟨by omega, by omega, ?_⟩
    refine ⟨by rw [rngD_len]; omega, fun i acc => LatK r d l z n 1 (fun Q p => Q = [] ∧ 0 ≤ p ∧ p < (i : Int)) acc ∧ ∀ k ∈ acc.map (·.1), ∃ p : Int, p < (i : Int) ∧ k = kL [p] p, ⟨LatK.nil fun Q p h => by have := h.2; omega, fun k h => by cases h⟩, fun i x acc hx ha _ => ?_, fun acc ha hlen => ?_⟩
    · have hi := (List.getElem?_eq_some_iff.mp hx).1
      rw [rngD_len] at hi
      rw [rngD_get hi] at hx
      cases hx
      have e0 : (0 : Int) + (i : Nat) = (i : Nat) := by omega
      rw [e0]
      refine ⟨[.int (i : Nat)], rfl, ?_⟩
      rintro _ ⟨s', H', C, cl, fp, rfl⟩ W' _
      refine ev_tup ?_
      refine ea_cons ?_
      refine ev_tup ?_
      refine ea_cons ?_
      refine ev_name 3 rfl ?_
      refine ea_nil ⟨by walk_at "sz", ?_⟩
      refine ea_cons ?_
      refine ev_name 3 rfl ?_
      refine ea_nil ⟨by walk_at "sz", ?_⟩
      rintro _ ⟨s', H', C, cl, fp, rfl⟩ W' _
      refine ev_tup ?_
      refine ea_cons ?_
      refine ev_bin oz_add ?_
      refine ev_call (ok_phase T) (hr.mono (by decide)) T.g_phase T.F_phase.kp T.b_phase ?_
      refine ea_cons ?_
      refine ev_name 0 rfl ?_
      refine ea_cons ?_
      refine ev_name 3 rfl ?_
      refine ea_nil ⟨_, _, _, _, rfl, by walk_at "pre", ?_⟩
      refine ev_name 1 rfl ?_
      refine ea_cons ?_
      refine ev_tup ?_
      refine ea_cons ?_
      refine ev_name 3 rfl ?_
      refine ea_nil ⟨by walk_at "sz", ?_⟩
      refine ea_nil ⟨by walk_at "sz", ?_⟩
      have e1 : endZ r d z 0 ([] ++ [((i : Nat) : Int)]) = (i : Nat) * d % r + z := by
        show nxt r d 0 _ + z = _
        rw [nxt_zero]
      have hno : Z.gN acc (kL [((i : Nat) : Int)] (i : Nat)) = none := gN_none.mpr fun hk => by
        obtain ⟨p, hp1, hp2⟩ := ha.2 _ hk
        have := (kL_inj hp2).2
        omega
      have hput := ha.1.put (Q := []) (p := (i : Nat)) (by simp) (fun x hx => by simp at hx; omega) rfl (show (0 : Int) ≤ l by omega) (.inl hno)
      rw [e1] at hput
      refine ⟨kL [((i : Nat) : Int)] (i : Nat), keyD_kL [((i : Nat) : Int)] (i : Nat), hput.imp fun Q p hc => ?_, fun k hk => ?_⟩
      · obtain ⟨rfl, hc1, hc2⟩ := hc
        by_cases hpi : p < (i : Int)
        · exact .inl ⟨rfl, hc1, hpi⟩
        · exact .inr ⟨rfl, by omega⟩
      · obtain ⟨kv, hkv, rfl⟩ := List.mem_map.mp hk
        rcases pN_mem hkv with hkv | rfl
        · obtain ⟨p, hp1, hp2⟩ := ha.2 _ (List.mem_map_of_mem hkv)
          exact ⟨p, by omega, hp2⟩
        · exact ⟨_, by omega, rfl⟩
    rw [rngD_len] at ha
    have lay1 : LayK r d l z n 1 acc := ⟨ha.1.all, ha.1.nod, fun q p _ hi hq _ => by
      have : q = [] := List.length_eq_zero_iff.mp (by omega)
      subst this
      have := hi p (by simp)
      exact ha.1.comp [] p ⟨rfl, this.1, by omega⟩⟩
    clear ha hlen
    refine esd_cons (es_dct 5 ?_ sc_sets_that_fit.nd)
    refine esd_cons (es_while (fun m ρ => ∃ (t : Nat) (layer found : List (NestedKey × PyData)) (b3 b6 b7 b8 b9 b10 b11 b12 b13 b14 : Sl), (1 ≤ t ∧ m = n.toNat + 1 - t) ∧ LayK r d l z n t layer ∧ FouK r d l z n (fun Q => Fit1 r d l z n Q ∧ Q.length < t) found ∧ ρ = [.im (pap r d l), .im (.int z), .im (.int n), b3, .dct layer, .dct found, b6, b7, b8, b9, b10, b11, b12, b13, b14]) n.toNat ?_ .never fun m ρ hP => ?_)
    · refine ⟨1, acc, [], _, _, _, _, _, _, _, _, _, _, ⟨Nat.le_refl _, by omega⟩, lay1, ⟨fun kv h => (by cases h), List.nodup_nil, fun Q hQ => ?_⟩, rfl⟩
      have := hQ.1.ne
      have := List.length_pos_iff.mpr this
      omega
    obtain ⟨t, layer, found, _, _, _, _, _, _, _, _, _, _, ⟨ht, rfl⟩, hlay, hfou, rfl⟩ := hP
    refine et_neNil 4 (.inl rfl) (by omega) ?_
    by_cases hne : layer = []
    · subst hne
      refine noF ?_
      exact esd_ret 5 rfl (hR found (FouK.end hr0 hz0 ht hlay hfou))
    rw [decide_eq_false hne]
    refine yesT ?_
    have htn := hlay.le n0 hne
    refine ess_weak [.im (pap r d l), .im (.int z), .im (.int n), .no, .dct layer, .dct found, .no, .no, .no, .no, .no, .no, .no, .no, .no] (by walk_at "wk") ?_
    refine ess_frzN 4 rfl ?_
    refine ess_cons (es_dct 6 ?_ sc_sets_that_fit.nd)
    refine ess_cons (es_for .never rfl ?_)
    refine ei_itemsN 4 rfl ?_
    refine ⟨fun i ρ => ∃ (found later : List (NestedKey × PyData)) (b3 b7 b8 b9 b10 b11 b12 b13 b14 : Sl), FouK r d l z n (fun Q => (Fit1 r d l z n Q ∧ Q.length < t) ∨ DoneF r d l z layer i Q) found ∧ LatK r d l z n (t + 1) (Done r d l z n layer i) later ∧ ρ = [.im (pap r d l), .im (.int z), .im (.int n), b3, .dcf layer, .dct found, .dct later, b7, b8, b9, b10, b11, b12, b13, b14], ?_, fun i x ρ hx hP => ?_, fun ρ hP => ?_⟩
    · refine ⟨found, [], _, _, _, _, _, _, _, _, _, hfou.imp fun Q hQ => ?_, LatK.nil fun Q p hc => ?_, rfl⟩
      · rcases hQ with hQ | ⟨a, kv, Q', ha, _⟩
        · exact hQ
        · exact absurd ha (Nat.not_lt_zero _)
      · obtain ⟨⟨a, kv, ha, _⟩, _⟩ := hc
        exact absurd ha (Nat.not_lt_zero _)
    · obtain ⟨found, later, _, _, _, _, _, _, _, _, _, hf, hlt, rfl⟩ := hP
      obtain ⟨kv, hkv, rfl⟩ := itD_get hx
      obtain ⟨q, p0, rfl, hn, hi, hql, hqe⟩ := hlay.all kv (List.mem_of_getElem? hkv)
      obtain ⟨Q, hQ⟩ : ∃ Q, Q = q ++ [p0] := ⟨_, rfl⟩
      rw [← hQ] at hkv hn hi ⊢
      have hQl : Q.length = t := by
        rw [hQ, List.length_append]
        exact hql
      have hval : ValOf r d z Q (kL (srt Q) p0, .tuple [.int (endZ r d z 0 Q), .tuple (Q.map PyData.int)]) := rfl
      have hQn := nodup_lenN (n := n.toNat) hn fun x hx => by have := hi x hx; omega
      rw [show (kL (srt Q) p0).data = .tuple [.tuple ((srt Q).map PyData.int), .int p0] from data_kL _ _]
      refine tg_tup rfl (tgs_name 7 (tgs_name 8 (tgs_nil ?_) sc_sets_that_fit.nd) sc_sets_that_fit.nd)
      refine ess_cons (es_asg ?_)
      refine ev_name 7 rfl ?_
      refine tg_tup rfl (tgs_name 9 (tgs_name 10 (tgs_nil ?_) sc_sets_that_fit.nd) sc_sets_that_fit.nd)
      refine ess_cons (es_asg ?_)
      refine ev_name 8 rfl ?_
      refine tg_tup rfl (tgs_name 11 (tgs_name 12 (tgs_nil ?_) sc_sets_that_fit.nd) sc_sets_that_fit.nd)
      refine ess_one (es_if ?_)
      refine et_cmp oz_le ?_
      refine ev_name 11 rfl ?_
      refine ev_ix ?_
      refine ev_name 0 rfl ?_
      refine ev_int ?_
      refine ⟨_, rfl, ?_⟩
      refine dB (fun he => ?_) fun he => ?_
      · have hfit : Fit1 r d l z n Q := ⟨fun e => (by rw [e] at hQl; simp at hQl; omega), hn, hi, he⟩
        have hfl := found_len n9 n0 hf
        refine ess_cons (es_putN 5 rfl (by omega) ?_)
        refine ev_name 12 rfl ?_
        refine ev_name 9 rfl ?_
        refine ⟨kT (srt Q), keyD_kT _, by omega, ?_⟩
        have hf2 := hf.put hfit
        refine ess_one (es_for .never rfl ?_)
        refine ei_range1 T.n_range ?_
        refine ev_name 2 rfl ?_
        refine ⟨by omega, by omega, ?_⟩
        refine ⟨fun j ρ => ∃ (later : List (NestedKey × PyData)) (b3 b7 b8 b10 b13 b14 : Sl), LatK r d l z n (t + 1) (fun Q' p' => Done r d l z n layer i Q' p' ∨ (Q' = Q ∧ p' ∉ Q ∧ 0 ≤ p' ∧ p' < (j : Int))) later ∧ ρ = [.im (pap r d l), .im (.int z), .im (.int n), b3, .dcf layer, .dct (Z.pN found (kT (srt Q)) (.tuple (Q.map PyData.int))), .dct later, b7, b8, .im (.tuple ((srt Q).map PyData.int)), b10, .im (.int (endZ r d z 0 Q)), .im (.tuple (Q.map PyData.int)), b13, b14], ⟨later, _, _, _, _, _, _, hlt.imp fun Q' p' hc => ?_, rfl⟩, fun j x ρ hx hP => ?_, fun ρ hP => ?_⟩
        · rcases hc with hc | ⟨_, _, c1, c2⟩
          · exact hc
          · omega
        · obtain ⟨later, _, _, _, _, _, _, hlt, rfl⟩ := hP
          have hj := (List.getElem?_eq_some_iff.mp hx).1
          rw [rngD_len] at hj
          rw [rngD_get hj] at hx
          cases hx
          have e0 : (0 : Int) + (j : Nat) = (j : Nat) := by omega
          rw [e0]
          obtain ⟨p, ep⟩ : ∃ p : Int, p = (j : Nat) := ⟨_, rfl⟩
          rw [← ep]
          have hp0 : 0 ≤ p := by omega
          have hpn : p < n := by omega
          have hll := rows_len n9 n0 hlt.all hlt.nod
          refine tg_name 3 ?_ sc_sets_that_fit.nd
          refine ess_one (es_if ?_)
          refine et_cmp oz_notInTI ?_
          refine ev_name 3 rfl ?_
          refine ev_name 9 rfl ?_
          refine ⟨_, _, rfl, rfl, ?_⟩
          refine dN (fun hm => ?_) fun hm => ?_
          · have hpQ : p ∉ Q := fun h => hm ((srt_perm Q).mem_iff.mpr h)
            have hn2 : (Q ++ [p]).Nodup := by
              rw [List.nodup_append]
              refine ⟨hn, by simp, fun a ha b hb => ?_⟩
              rw [List.mem_singleton] at hb
              subst hb
              exact fun e => hpQ (e ▸ ha)
            have hi2 : InR n (Q ++ [p]) := fun x hx => by
              rcases List.mem_append.mp hx with hx | hx
              · exact hi x hx
              · rw [List.mem_singleton] at hx
                subst hx
                exact ⟨hp0, hpn⟩
            refine ess_cons (es_set 13 ?_ sc_sets_that_fit.nd)
            refine ev_tup ?_
            refine ea_cons ?_
            refine ev_call (ok_with_place T) (hr.mono (by decide)) T.g_with_place T.F_with_place.kp T.b_with_place ?_
            refine ea_cons ?_
            refine ev_name 9 rfl ?_
            refine ea_cons ?_
            refine ev_name 3 rfl ?_
            refine ea_nil ⟨_, _, rfl, by rw [(srt_perm Q).length_eq]; omega, fun ms m1 m2 => ?_⟩
            have ems : ms = srt (Q ++ [p]) := srt_eq (m1.trans ((srt_perm Q).append_right _)) m2
            subst ems
            refine ea_cons ?_
            refine ev_name 3 rfl ?_
            refine ea_nil ⟨by walk_at "sz", ?_⟩
            refine ess_cons (es_set 14 (Ev.imp (R := fun y => y = PyData.int (endZ r d z 0 (Q ++ [p]))) ?_ fun y ey => ?_) sc_sets_that_fit.nd)
            · refine ev_bin oz_add ?_
              refine ev_call (ok_begin_behind T) hr T.g_begin_behind T.F_begin_behind.kp T.b_begin_behind ?_
              refine ea_cons ?_
              refine ev_name 0 rfl ?_
              refine ea_cons ?_
              refine ev_name 11 rfl ?_
              refine ea_cons ?_
              refine ev_name 3 rfl ?_
              refine ea_nil ⟨_, _, _, _, _, rfl, by walk_at "pre", ?_⟩
              refine ev_name 1 rfl ?_
              exact congrArg PyData.int endZ_snoc.symm
            subst ey
            have fin : ∀ later2, LatK r d l z n (t + 1) (fun Q' p' => (Done r d l z n layer i Q' p' ∨ (Q' = Q ∧ p' ∉ Q ∧ 0 ≤ p' ∧ p' < (j : Int))) ∨ (Q' = Q ∧ p' = p)) later2 → LatK r d l z n (t + 1) (fun Q' p' => Done r d l z n layer i Q' p' ∨ (Q' = Q ∧ p' ∉ Q ∧ 0 ≤ p' ∧ p' < ((j + 1 : Nat) : Int))) later2 := fun later2 h => h.imp fun Q' p' hc => by
              rcases hc with hc | ⟨c1, c2, c3, c4⟩
              · exact .inl (.inl hc)
              · by_cases c5 : p' < (j : Int)
                · exact .inl (.inr ⟨c1, c2, c3, c5⟩)
                · exact .inr ⟨c1, by omega⟩
            refine ess_one (es_if ?_)
            refine et_ew ?_
            refine ew_or ?_
            refine et_notInN 6 (.inl rfl) (by omega) ?_
            refine ev_name 13 rfl ?_
            refine ⟨kL (srt (Q ++ [p])) p, keyD_kL _ _, ?_⟩
            cases hg : Z.gN later (kL (srt (Q ++ [p])) p) with
            | none =>
              refine yesT ?_
              refine yesT ?_
              refine ess_one (es_putN 6 rfl (by omega) ?_)
              refine ev_tup ?_
              refine ea_cons ?_
              refine ev_name 14 rfl ?_
              refine ea_cons ?_
              refine ev_tup ?_
              refine ea_star ?_
              refine ev_name 12 rfl ?_
              refine ea_cons ?_
              refine ev_name 3 rfl ?_
              refine ea_nil ⟨by rw [List.length_append, List.length_map]; show Q.length + 1 ≤ _; omega, ?_⟩
              refine ea_nil ⟨by walk_at "sz", ?_⟩
              refine ev_name 13 rfl ?_
              refine ⟨kL (srt (Q ++ [p])) p, keyD_kL _ _, by omega, ?_⟩
              have hput := hlt.put hn2 hi2 (by omega) he (.inl hg)
              rw [List.map_append] at hput
              exact ⟨_, _, _, _, _, _, _, fin _ hput, rfl⟩
            | some v =>
              obtain ⟨q1, p1, e1, _⟩ := hlt.all _ (gN_mem hg)
              have e2 : v = .tuple [.int (endZ r d z 0 (q1 ++ [p1])), .tuple ((q1 ++ [p1]).map PyData.int)] := congrArg Prod.snd e1
              subst e2
              refine noF ?_
              refine ew_or1 ?_
              refine et_cmp oz_lt ?_
              refine ev_name 14 rfl ?_
              refine ev_ix ?_
              refine ev_ixN 6 (.inl rfl) (by omega) ?_
              refine ev_name 13 rfl ?_
              refine ⟨_, _, keyD_kL _ _, hg, ?_⟩
              refine ev_int ?_
              refine ⟨_, rfl, ?_⟩
              refine dB (fun hlt2 => ?_) fun hlt2 => ?_
              · skip
                refine ess_one (es_putN 6 rfl (by omega) ?_)
                refine ev_tup ?_
                refine ea_cons ?_
                refine ev_name 14 rfl ?_
                refine ea_cons ?_
                refine ev_tup ?_
                refine ea_star ?_
                refine ev_name 12 rfl ?_
                refine ea_cons ?_
                refine ev_name 3 rfl ?_
                refine ea_nil ⟨by rw [List.length_append, List.length_map]; show Q.length + 1 ≤ _; omega, ?_⟩
                refine ea_nil ⟨by walk_at "sz", ?_⟩
                refine ev_name 13 rfl ?_
                refine ⟨kL (srt (Q ++ [p])) p, keyD_kL _ _, by omega, ?_⟩
                have hput := hlt.put hn2 hi2 (by omega) he (.inr ⟨_, _, hg, hlt2⟩)
                rw [List.map_append] at hput
                exact ⟨_, _, _, _, _, _, _, fin _ hput, rfl⟩
              · exact ess_nil ⟨later, _, _, _, _, _, _, fin _ (hlt.skip hg (by omega)), rfl⟩
          · refine ess_nil ⟨later, _, _, _, _, _, _, hlt.imp fun Q' p' hc => ?_, rfl⟩
            rcases hc with hc | ⟨c1, c2, c3, c4⟩
            · exact .inl hc
            · refine .inr ⟨c1, c2, c3, ?_⟩
              have : p' ≠ p := fun e => c2 (e ▸ (srt_perm Q).mem_iff.mp hm)
              omega
        · obtain ⟨later, _, _, _, _, _, _, hlt, rfl⟩ := hP
          rw [rngD_len] at hlt
          refine ⟨_, later, _, _, _, _, _, _, _, _, _, hf2.imp fun Q' hc => ?_, hlt.imp fun Q' p' hc => ?_, rfl⟩
          · rcases hc with hc | ⟨a, kv, Q2, ha, hkv2, hv2, he2, hpm⟩
            · exact .inl (.inl hc)
            · by_cases hai : a < i
              · exact .inl (.inr ⟨a, kv, Q2, hai, hkv2, hv2, he2, hpm⟩)
              · have : a = i := by omega
                subst this
                rw [hkv] at hkv2
                cases hkv2
                rw [hv2.uniq hval] at hpm
                exact .inr hpm
          · obtain ⟨⟨a, kv, ha, hkv2, hv2⟩, he2, c1, c2, c3⟩ := hc
            by_cases hai : a < i
            · exact .inl ⟨⟨a, kv, hai, hkv2, hv2⟩, he2, c1, c2, c3⟩
            · have : a = i := by omega
              subst this
              rw [hkv] at hkv2
              cases hkv2
              have eQ := hv2.uniq hval
              subst eQ
              exact .inr ⟨rfl, c1, c2, by omega⟩
      · refine ess_nil ⟨found, later, _, _, _, _, _, _, _, _, _, hf.imp fun Q' hc => ?_, hlt.imp fun Q' p' hc => ?_, rfl⟩
        · rcases hc with hc | ⟨a, kv, Q2, ha, hkv2, hv2, he2, hpm⟩
          · exact .inl hc
          · by_cases hai : a < i
            · exact .inr ⟨a, kv, Q2, hai, hkv2, hv2, he2, hpm⟩
            · have : a = i := by omega
              subst this
              rw [hkv] at hkv2
              cases hkv2
              rw [hv2.uniq hval] at he2
              exact absurd he2 he
        · obtain ⟨⟨a, kv, ha, hkv2, hv2⟩, he2, c1, c2, c3⟩ := hc
          by_cases hai : a < i
          · exact ⟨⟨a, kv, hai, hkv2, hv2⟩, he2, c1, c2, c3⟩
          · have : a = i := by omega
            subst this
            rw [hkv] at hkv2
            cases hkv2
            rw [hv2.uniq hval] at he2
            exact absurd he2 he
    · obtain ⟨found, later, _, _, _, _, _, _, _, _, _, hf, hlt, rfl⟩ := hP
      rw [itD_len] at hf hlt
      refine ess_one (es_mvN 4 6 rfl ?_ sc_sets_that_fit.nd)
      exact ⟨n.toNat + 1 - (t + 1), by omega, t + 1, later, found, _, _, _, _, _, _, _, _, _, _, ⟨by omega, rfl⟩, hlay.next hr0 hz0 ht hlt, FouK.next hr0 hz0 ht hlay hf, rfl⟩

-- NEEDS best3
-- NEEDS turns
-- LAYER Zc
-- FILL: ⟨_, _, _, _, _, rfl, by walk_at "pre", by walk_at "zs", by walk_at "zs", ?_⟩
def p_best_plan : List PyData → (PyData → Prop) → Prop := fun ds R => ∃ (r d l z n : Int), ds = [pap r d l, .int z, .int n] ∧ POk r d l ∧ (1 ≤ z ∧ z ≤ 1000000) ∧ (0 ≤ n ∧ n ≤ 9) ∧ (allC r d l z n = false → R .none) ∧ (allC r d l z n = true → ∀ rs, BestP r d l z n rs → R (planD rs))
theorem eq_intsR {i j : Int} {b : Bool} {R : PyData → Prop} (e : decide (i = j) = b) (h : R (.bool b)) : rI1 (fun i j => .bool (decide (i = j))) (.int i) (.int j) R := by
  subst e
  exact h
theorem flat_ge : ∀ {rs : List (List Int)}, (∀ o ∈ rs, 0 < o.length) → rs.length ≤ rs.flatten.length
  | [], _ => Nat.le_refl _
  | o :: rs, h => by
    rw [List.flatten_cons, List.length_append, List.length_cons]
    have h1 := h o (by simp)
    have h2 := flat_ge (rs := rs) fun x hx => h x (List.mem_cons_of_mem _ hx)
    omega
theorem planD_len {r d l z n : Int} {rs : List (List Int)} (h0 : 0 ≤ n) (h : Rolls r d l z n rs) : rs.length ≤ n.toNat := by
  have h1 := nodup_lenN (n := n.toNat) h.nd fun x hx => by have := h.inr x hx; omega
  have h2 := flat_ge fun o ho => List.length_pos_iff.mpr (h.each o ho).1
  omega
theorem ok_best_plan (T : En K mg) : FnOk P w K mg base CX0 4 T.f_best_plan T.fd_best_plan ["paper", "length", "number"] (Con K p_best_plan) := by
  refine fn_con T.F_best_plan sc_best_plan (fun ds R h => ?_) (fun cdv A outer s H E W ds R hr h => ?_)
  · obtain ⟨r, d, l, z, n, rfl, _⟩ := h
    rfl
  · obtain ⟨r, d, l, z, n, rfl, hp, ⟨z1, z2⟩, ⟨n0, n9⟩, hN, hB⟩ := h
    obtain ⟨⟨h1, h2⟩, ⟨h3, h4⟩, h5, h6⟩ := id hp
    have hr0 : 0 < r := by omega
    have hz0 : 0 ≤ z := by omega
    have hu := zu hr
    have szb : (6000 : Nat) < sizeLine := by decide
    have hnn : (n.toNat : Int) = n := by omega
    refine ess_cons (es_if ?_)
    refine et_not (et_val ?_)
    refine ev_call (ok_all_can_be_cut T) hr T.g_all_can_be_cut T.F_all_can_be_cut.kp T.b_all_can_be_cut ?_
    refine ea_cons ?_
    refine ev_name 0 rfl ?_
    refine ea_cons ?_
    refine ev_name 1 rfl ?_
    refine ea_cons ?_
    refine ev_name 2 rfl ?_
    refine ea_nil ⟨_, _, _, _, _, rfl, by walk_at "pre", by walk_at "zs", by walk_at "zs", ?_⟩
    cases hall : allC r d l z n with
    | false =>
      refine yesT ?_
      refine ess_one (es_ret ?_)
      refine ev_none ?_
      exact hN hall
    | true =>
    refine noF (ess_nil ?_)
    have hR := hB hall
    have hfit : ∀ p : Int, 0 ≤ p → p < n → p * d % r + z ≤ l := fun p p0 p1 => allC_at hr0 hall p0 p1
    refine ess_cons (es_callN 3 (ok_sets_that_fit T) (hr.mono (by decide)) T.g_sets_that_fit T.F_sets_that_fit.kp T.b_sets_that_fit ?_ sc_best_plan.nd)
    refine ea_cons ?_
    refine ev_name 0 rfl ?_
    refine ea_cons ?_
    refine ev_name 1 rfl ?_
    refine ea_cons ?_
    refine ev_name 2 rfl ?_
    refine ea_nil ⟨_, _, _, _, _, rfl, hp, ⟨z1, z2⟩, ⟨n0, n9⟩, fun groups hg => ?_⟩
    refine ess_cons (es_dct1 4 (by omega) ?_ sc_best_plan.nd)
    refine ess_cut (fun ρ => ∃ (plans : List (NestedKey × PyData)) (v : PyData) (t : Nat) (C : List (List Int) → Prop) (b5 b6 b7 b8 b9 b10 b11 b12 : Sl), PlnK r d l z n t C plans ∧ Z.gN plans (kT (rngI n.toNat)) = some v ∧ ρ = [.im (pap r d l), .im (.int z), .im (.int n), .dcf groups, .dct plans, b5, b6, b7, b8, b9, b10, b11, b12]) (es_for .never rfl ?_) ?_
    · refine ei_range1 T.n_range ?_
      refine ev_name 2 rfl ?_
      refine ⟨by omega, by omega, ?_⟩
      refine ⟨fun t ρ => ∃ (plans : List (NestedKey × PyData)) (b5 b6 b7 b8 b9 b10 b11 b12 : Sl), PlnK r d l z n t (UpTo r d l z n t) plans ∧ ρ = [.im (pap r d l), .im (.int z), .im (.int n), .dcf groups, .dct plans, b5, b6, b7, b8, b9, b10, b11, b12], ⟨_, _, _, _, _, _, _, _, _, PlnK.start, rfl⟩, fun t x ρ hx hP => ?_, fun ρ hP => ?_⟩
      · obtain ⟨plans, _, _, _, _, _, _, _, _, hpl, rfl⟩ := hP
        have ht := (List.getElem?_eq_some_iff.mp hx).1
        rw [rngD_len] at ht
        refine tg_name 5 ?_ sc_best_plan.nd
        refine ess_weak [.im (pap r d l), .im (.int z), .im (.int n), .dcf groups, .dct plans, .no, .no, .no, .no, .no, .no, .no, .no] (by walk_at "wk") ?_
        refine ess_cons (es_if ?_)
        refine et_inN 4 (.inl rfl) (by omega) ?_
        refine ev_tupR1 rfl T.n_tuple T.n_range ?_
        refine ev_name 2 rfl ?_
        refine ⟨⟨by omega, by omega⟩, kT (rngI n.toNat), by rw [rngI_D]; exact keyD_kT _, ?_⟩
        cases hfull : Z.gN plans (kT (rngI n.toNat)) with
        | some v =>
          refine yesT ?_
          exact ess_one (es_break ⟨plans, v, t, _, _, _, _, _, _, _, _, _, hpl, hfull, rfl⟩)
        | none =>
        refine noF (ess_nil ?_)
        have hplen := plans_len n9 n0 hpl
        refine ess_cons (es_copyN 6 4 (.inl rfl) T.n_dict (by omega) (by omega) (plans_hash n9 n0 hpl) ?_ sc_best_plan.nd)
        refine ess_frzN 4 rfl ?_
        refine ess_cons (es_for .never rfl ?_)
        refine ei_itemsN 4 rfl ?_
        refine ⟨fun i ρ => ∃ (later : List (NestedKey × PyData)) (b7 b8 b9 b10 b11 b12 : Sl), (∀ k, (Z.gN plans k).isSome = true → (Z.gN later k).isSome = true) ∧ PlnK r d l z n (t + 1) (DoneP plans groups i 0) later ∧ ρ = [.im (pap r d l), .im (.int z), .im (.int n), .dcf groups, .dcf plans, .no, .dct later, b7, b8, b9, b10, b11, b12], ⟨plans, _, _, _, _, _, _, fun k h => h, hpl.up.imp fun rs hc => ?_, rfl⟩, fun i x ρ hx hP => ?_, fun ρ hP => ?_⟩
        · obtain ⟨a, b, rs0, o, hab, _⟩ := hc
          omega
        · obtain ⟨later, _, _, _, _, _, _, hsup, hlt, rfl⟩ := hP
          obtain ⟨kv, hkv, rfl⟩ := itD_get hx
          obtain ⟨rs, rfl, hrs, hrl, hrm⟩ := hpl.all kv (List.mem_of_getElem? hkv)
          have hrl9 := planD_len n0 hrs
          rw [show (kT (srt rs.flatten)).data = .tuple ((srt rs.flatten).map PyData.int) from data_kT _]
          refine tg_tup rfl (tgs_name 7 (tgs_name 8 (tgs_nil ?_) sc_best_plan.nd) sc_best_plan.nd)
          refine ess_one (es_for .never rfl ?_)
          refine ei_itemsN 3 rfl ?_
          refine ⟨fun j ρ => ∃ (later : List (NestedKey × PyData)) (b9 b10 b11 b12 : Sl), (∀ k, (Z.gN plans k).isSome = true → (Z.gN later k).isSome = true) ∧ PlnK r d l z n (t + 1) (DoneP plans groups i j) later ∧ ρ = [.im (pap r d l), .im (.int z), .im (.int n), .dcf groups, .dcf plans, .no, .dct later, .im (.tuple ((srt rs.flatten).map PyData.int)), .im (planD rs), b9, b10, b11, b12], ⟨later, _, _, _, _, hsup, hlt, rfl⟩, fun j x ρ hx hP => ?_, fun ρ hP => ?_⟩
          · obtain ⟨later, _, _, _, _, hsup, hlt, rfl⟩ := hP
            obtain ⟨kv, hgv, rfl⟩ := itD_get hx
            obtain ⟨o, rfl, ho⟩ := hg.all kv (List.mem_of_getElem? hgv)
            have hol := nodup_lenN (n := n.toNat) ho.nd fun x hx => by have := ho.inr x hx; omega
            have hfl := nodup_lenN (n := n.toNat) hrs.nd fun x hx => by have := hrs.inr x hx; omega
            rw [show (kT (srt o)).data = .tuple ((srt o).map PyData.int) from data_kT _]
            refine tg_tup rfl (tgs_name 9 (tgs_name 10 (tgs_nil ?_) sc_best_plan.nd) sc_best_plan.nd)
            obtain ⟨A, hA⟩ : ∃ A, A = rs.flatten ++ o := ⟨_, rfl⟩
            have hAl : A.length ≤ 18 := by rw [hA, List.length_append]; omega
            refine ess_cons (es_set 11 ?_ sc_best_plan.nd)
            refine ev_tupleOf T.n_tuple ?_
            refine ev_el (el_sortedT T.n_sorted ?_)
            refine ev_bin oz_add ?_
            refine ev_name 7 rfl ?_
            refine ev_name 9 rfl ?_
            refine ⟨by rw [List.length_map, List.length_map, (srt_perm _).length_eq, (srt_perm _).length_eq]; omega, srt rs.flatten ++ srt o, by rw [List.map_append], fun ms m1 m2 => ?_⟩
            have ems : ms = srt A := by rw [hA]; exact srt_eq (m1.trans ((srt_perm _).append (srt_perm _))) m2
            subst ems
            have hfin : ∀ later2, PlnK r d l z n (t + 1) (fun rs' => DoneP plans groups i j rs' ∨ (A.Nodup ∧ rs'.flatten.Perm A)) later2 → PlnK r d l z n (t + 1) (DoneP plans groups i (j + 1)) later2 := fun later2 h => h.imp fun rs' hc => by
              obtain ⟨a, b, rs1, o1, hab, e1, e2, hnd, hpm⟩ := hc
              by_cases hold : a < i ∧ b < groups.length ∨ a = i ∧ b < j
              · exact .inl ⟨a, b, rs1, o1, hold, e1, e2, hnd, hpm⟩
              · have ea : a = i := by omega
                have eb : b = j := by omega
                subst ea eb
                rw [hkv] at e1
                rw [hgv] at e2
                have e1 := congrArg Prod.snd (Option.some.inj e1)
                have e2 := congrArg Prod.snd (Option.some.inj e2)
                have e1 := planD_inj e1
                have e2 := ints_injL (PyData.tuple.inj e2)
                subst e1 e2
                exact .inr ⟨by rw [hA]; exact hnd, by rw [hA]; exact hpm⟩
            refine ess_one (es_if ?_)
            refine et_ew ?_
            refine ew_and ?_
            refine et_cmp oz_eq ?_
            refine Ev.imp (R := fun y => y = PyData.int ((srt A).length : Nat)) ?_ fun y ey => ?_
            · refine ev_len T.n_len ?_
              refine ev_name 11 rfl ?_
              exact congrArg (fun m : Nat => PyData.int m) (List.length_map ..)
            subst ey
            refine Ev.imp (R := fun y => y = PyData.int (((srt A).foldl Z.insI []).length : Nat)) ?_ fun y ey => ?_
            · refine ev_lenDc (own := [("place", 12)]) (gg_name 12) (fun _ _ _ _ _ => pg_name sc_best_plan.nd rfl (.inl rfl)) rfl sc_best_plan.nd (blkOk_by (N := ["paper", "length", "number", "groups", "plans", "turn", "later", "done", "plan", "places", "order", "both", "place"]) (sc := defScope s_best_plan) (by decide +kernel)) rfl T.n_len ?_
              refine ei_tup ?_
              refine ev_name 11 rfl ?_
              refine ⟨by rw [List.length_map, (srt_perm _).length_eq]; omega, fun i acc => acc = ((srt A).take i).foldl Z.insI [], rfl, fun i x acc hx ha _ => ?_, fun acc ha _ => ?_⟩
              · obtain ⟨p, hp1, rfl⟩ : ∃ p, (srt A)[i]? = some p ∧ x = .int p := by
                  rw [List.getElem?_map] at hx
                  obtain ⟨t, h6, h7⟩ := Option.map_eq_some_iff.mp hx
                  exact ⟨t, h6, h7.symm⟩
                subst ha
                refine ⟨[.int p], rfl, ?_⟩
                rintro _ ⟨s', H', C, cl, fp, rfl⟩ W' _
                refine ev_name 12 rfl ?_
                rintro _ ⟨s', H', C, cl, fp, rfl⟩ W' _
                refine ev_bool ?_
                refine ⟨p, rfl, rfl, ?_⟩
                show _ = ((srt A).take (i + 1)).foldl Z.insI []
                rw [List.take_add_one, hp1, List.foldl_append]
                rfl
              · rw [List.length_map, List.take_length] at ha
                rw [ha]
            subst ey
            refine eq_intsR (distinct_iff (srt A)) ?_
            refine dB (fun hnd => ?_) fun hnd => ?_
            · have hAn : A.Nodup := (srt_perm A).nodup_iff.mp hnd
              refine ew_and1 ?_
              refine et_notInN 6 (.inl rfl) (by omega) ?_
              refine ev_name 11 rfl ?_
              refine ⟨kT (srt A), keyD_kT _, ?_⟩
              cases hin : Z.gN later (kT (srt A)) with
              | some v => exact noF (ess_nil ⟨later, _, _, _, _, hsup, hfin _ (hlt.skip fun _ => by rw [hin]; rfl), rfl⟩)
              | none =>
                refine yesT ?_
                have hll := plans_len n9 n0 hlt
                refine ess_one (es_putN 6 rfl (by omega) ?_)
                refine ev_tup ?_
                refine ea_star ?_
                refine ev_name 8 rfl ?_
                refine ea_cons ?_
                refine ev_name 10 rfl ?_
                refine ea_nil ⟨by rw [List.length_append, List.length_map]; show rs.length + 1 ≤ _; omega, ?_⟩
                refine ev_name 11 rfl ?_
                refine ⟨kT (srt A), keyD_kT _, by omega, ?_⟩
                have hput := PlnK.put hpl hsup hlt hrs hrl ho (by rw [← hA]; exact hAn) (by rw [← hA]; exact hin)
                rw [← hA] at hput
                rw [show (rs.map fun o => PyData.tuple (o.map PyData.int)) ++ [.tuple (o.map PyData.int)] = (rs ++ [o]).map fun o => PyData.tuple (o.map PyData.int) by rw [List.map_append]; rfl]
                refine ⟨_, _, _, _, _, fun k hk => some_put (hsup k hk), hfin _ (hput.imp fun rs' hc => ?_), rfl⟩
                exact hc.elim .inl fun h => .inr h.2
            · exact noF (ess_nil ⟨later, _, _, _, _, hsup, hfin _ (hlt.skip fun h => absurd ((srt_perm A).nodup_iff.mpr h) hnd), rfl⟩)
          · obtain ⟨later, _, _, _, _, hsup, hlt, rfl⟩ := hP
            rw [itD_len] at hlt
            refine ⟨later, _, _, _, _, _, _, hsup, hlt.imp fun rs' hc => ?_, rfl⟩
            obtain ⟨a, b, rs1, o1, hab, hrest⟩ := hc
            exact ⟨a, b, rs1, o1, by omega, hrest⟩
        · obtain ⟨later, _, _, _, _, _, _, hsup, hlt, rfl⟩ := hP
          rw [itD_len] at hlt
          refine ess_one (es_mvN 4 6 rfl ?_ sc_best_plan.nd)
          exact ⟨later, _, _, _, _, _, _, _, _, PlnK.next hpl hg hsup hlt, rfl⟩
      · obtain ⟨plans, _, _, _, _, _, _, _, _, hpl, rfl⟩ := hP
        rw [rngD_len] at hpl
        obtain ⟨v, hv⟩ := hpl.full n0 hfit
        exact ⟨plans, v, _, _, _, _, _, _, _, _, _, _, hpl, hv, rfl⟩
    rintro _ ⟨plans, v, t, C, _, _, _, _, _, _, _, _, hpl, hv, rfl⟩
    obtain ⟨rs, rfl, hbest⟩ := hpl.best n0 hv
    refine ess_one (es_ret ?_)
    refine ev_ixN 4 (.inl rfl) (by omega) ?_
    refine ev_tupR1 rfl T.n_tuple T.n_range ?_
    refine ev_name 2 rfl ?_
    exact ⟨⟨by omega, by omega⟩, kT (rngI n.toNat), _, by rw [rngI_D]; exact keyD_kT _, hv, hR rs hbest⟩

-- NEEDS best3
-- NEEDS turns
-- FILL: ⟨_, _, _, _, _, rfl, by walk_at "pre", by walk_at "zs", by walk_at "zs", ?_⟩
def p_fewest_rolls : List PyData → (PyData → Prop) → Prop := fun ds R => ∃ (r d l z n : Int), ds = [pap r d l, .int z, .int n] ∧ POk r d l ∧ (1 ≤ z ∧ z ≤ 1000000) ∧ (0 ≤ n ∧ n ≤ 9) ∧ (allC r d l z n = false → R .none) ∧ (allC r d l z n = true → ∀ rs, BestP r d l z n rs → R (.int (rs.length : Nat)))
theorem ok_fewest_rolls (T : En K mg) : FnOk P w K mg base CX0 5 T.f_fewest_rolls T.fd_fewest_rolls ["paper", "length", "number"] (Con K p_fewest_rolls) := by
  refine fn_con T.F_fewest_rolls sc_fewest_rolls (fun ds R h => ?_) (fun cdv A outer s H E W ds R hr h => ?_)
  · obtain ⟨r, d, l, z, n, rfl, _⟩ := h
    rfl
  · obtain ⟨r, d, l, z, n, rfl, hp, hz, hn, hN, hB⟩ := h
    refine ess_cons (es_set 3 ?_ sc_fewest_rolls.nd)
    refine ev_call (ok_best_plan T) hr T.g_best_plan T.F_best_plan.kp T.b_best_plan ?_
    refine ea_cons ?_
    refine ev_name 0 rfl ?_
    refine ea_cons ?_
    refine ev_name 1 rfl ?_
    refine ea_cons ?_
    refine ev_name 2 rfl ?_
    refine ea_nil ⟨_, _, _, _, _, rfl, hp, hz, hn, fun h => ?_, fun h rs hb => ?_⟩
    · refine ess_one (es_ret ?_)
      refine ev_if ?_
      refine et_notN ?_
      refine ev_name 3 rfl ?_
      refine noF ?_
      refine ev_none ?_
      exact hN h
    · refine ess_one (es_ret ?_)
      refine ev_if ?_
      refine et_notN ?_
      refine ev_name 3 rfl ?_
      refine yesT ?_
      refine ev_len T.n_len ?_
      refine ev_name 3 rfl ?_
      show R (.int ((rs.map fun o => PyData.tuple (o.map PyData.int)).length : Nat))
      rw [List.length_map]
      exact hB h rs hb

-- NEEDS plans
-- FILL: ⟨_, _, _, _, _, rfl, by walk_at "pre", by walk_at "zs", ?_⟩
def p_end_of : List PyData → (PyData → Prop) → Prop := fun ds R => ∃ (r d l z : Int) (ps : List Int), ds = [pap r d l, .int z, .tuple (ps.map PyData.int)] ∧ POk r d l ∧ ps.length ≤ 100000 ∧ R (.int (endZ r d z 0 ps))
theorem ok_end_of (T : En K mg) : FnOk P w K mg base CX0 3 T.f_end_of T.fd_end_of ["paper", "length", "places"] (Con K p_end_of) := by
  refine fn_con T.F_end_of sc_end_of (fun ds R h => ?_) (fun cdv A outer s H E W ds R hr h => ?_)
  · obtain ⟨r, d, l, z, ps, rfl, _⟩ := h
    rfl
  · obtain ⟨r, d, l, z, ps, rfl, hp, hl, hR⟩ := h
    refine ess_cons (es_set 3 ?_ sc_end_of.nd)
    refine ev_int ?_
    refine ess_cons (es_for .never rfl ?_)
    refine ei_tup ?_
    refine ev_name 2 rfl ?_
    refine ⟨fun i ρ => ∃ (f : Int) (a : Sl), endZ r d z 0 ps = endZ r d z f (ps.drop i) ∧ ρ = [.im (pap r d l), .im (.int z), .im (.tuple (ps.map PyData.int)), .im (.int f), a], ⟨0, _, rfl, rfl⟩, fun i x ρ hx hP => ?_, fun ρ hP => ?_⟩
    · obtain ⟨f, a, q1, rfl⟩ := hP
      obtain ⟨p, hp1, rfl⟩ : ∃ p, ps[i]? = some p ∧ x = .int p := by
        rw [List.getElem?_map] at hx
        obtain ⟨t, h6, h7⟩ := Option.map_eq_some_iff.mp hx
        exact ⟨t, h6, h7.symm⟩
      have hi := (List.getElem?_eq_some_iff.mp hp1).1
      have ed : ps.drop i = p :: ps.drop (i + 1) := by
        rw [List.drop_eq_getElem_cons hi]
        congr 1
        exact (List.getElem?_eq_some_iff.mp hp1).2
      rw [ed, endZ] at q1
      refine tg_name 4 ?_ sc_end_of.nd
      refine ess_one (es_set 3 ?_ sc_end_of.nd)
      refine ev_bin oz_add ?_
      refine ev_call (ok_begin_behind T) hr T.g_begin_behind T.F_begin_behind.kp T.b_begin_behind ?_
      refine ea_cons ?_
      refine ev_name 0 rfl ?_
      refine ea_cons ?_
      refine ev_name 3 rfl ?_
      refine ea_cons ?_
      refine ev_name 4 rfl ?_
      refine ea_nil ⟨_, _, _, _, _, rfl, by walk_at "pre", ?_⟩
      refine ev_name 1 rfl ?_
      exact ⟨_, _, q1, rfl⟩
    · obtain ⟨f, a, q1, rfl⟩ := hP
      rw [List.length_map, List.drop_length, endZ] at q1
      refine ess_one (es_ret ?_)
      refine ev_name 3 rfl ?_
      rw [q1] at hR
      exact hR

-- NEEDS plans
def p_is_plan : List PyData → (PyData → Prop) → Prop := fun ds R => ∃ (r d l z n : Int) (v : PyData), ds = [pap r d l, .int z, .int n, v] ∧ POk r d l ∧ 0 ≤ n ∧ n ≤ 100000 ∧ An 50 1000 v ∧ R (.bool (planB r d l z n v))
theorem ok_is_plan (T : En K mg) : FnOk P w K mg base CX0 4 T.f_is_plan T.fd_is_plan ["paper", "length", "number", "value"] (Con K p_is_plan) := by
  refine fn_con T.F_is_plan sc_is_plan (fun ds R h => ?_) (fun cdv A outer s H E W ds R hr h => ?_)
  · obtain ⟨r, d, l, z, n, v, rfl, _⟩ := h
    rfl
  · obtain ⟨r, d, l, z, n, v, rfl, hp, n0, n1, hv, hR⟩ := h
    refine ess_cons (es_if ?_)
    refine et_not (et_val ?_)
    refine ev_isTup T.n_isinstance T.n_tuple ?_
    refine ev_name 3 rfl ?_
    cases ht : isTupD v with
    | false =>
      have e : planB r d l z n v = false := by cases v <;> first | rfl | cases ht
      rw [e] at hR
      refine yesT ?_
      refine ess_one (es_ret ?_)
      refine ev_bool ?_
      exact hR
    | true =>
      obtain ⟨rs, rfl⟩ : ∃ rs, v = .tuple rs := by cases v <;> first | exact ⟨_, rfl⟩ | cases ht
      refine noF (ess_nil ?_)
      refine ess_cons (es_setL 4 (el_lst (ea_nil ⟨by walk_at "sz", ?_⟩)) sc_is_plan.nd)
      refine ess_cons (es_for .never rfl ?_)
      refine ei_tup ?_
      refine ev_name 3 rfl ?_
      refine ⟨fun i ρ => ∃ (acc : List Int) (xs : List PyData) (a b : Sl), seenA r d l z n [] rs = seenA r d l z n acc (rs.drop i) ∧ acc.length ≤ i * 1000 ∧ xs = acc.map PyData.int ∧ ρ = [.im (pap r d l), .im (.int z), .im (.int n), .im (.tuple rs), .own xs, a, b], ⟨[], _, _, _, rfl, Nat.zero_le _, rfl, rfl⟩, fun i x ρ hx hP => ?_, fun ρ hP => ?_⟩
      · obtain ⟨acc, _, a, b, q1, q2, rfl, rfl⟩ := hP
        have hi := (List.getElem?_eq_some_iff.mp hx).1
        have hxa : An 49 1000 x := hv.2 x (List.mem_of_getElem? hx)
        have hrl : rs.length ≤ 1000 := hv.1
        have ed : rs.drop i = x :: rs.drop (i + 1) := by
          rw [List.drop_eq_getElem_cons hi]
          congr 1
          exact (List.getElem?_eq_some_iff.mp hx).2
        rw [ed, seenA] at q1
        have hbad : rollB r d l z n x = none → R (.bool false) := fun h => by
          rw [h] at q1
          have e : planB r d l z n (.tuple rs) = false := by
            rw [planB_t, q1]
          rw [e] at hR
          exact hR
        refine tg_name 5 ?_ sc_is_plan.nd
        refine ess_cons (es_if ?_)
        refine et_ew (ew_or ?_)
        refine et_not (et_val ?_)
        refine ev_isTup T.n_isinstance T.n_tuple ?_
        refine ev_name 5 rfl ?_
        cases ht2 : isTupD x with
        | false =>
          refine yesT (yesT ?_)
          refine ess_one (es_ret ?_)
          refine ev_bool ?_
          exact hbad (by cases x <;> first | rfl | cases ht2)
        | true =>
          obtain ⟨us, rfl⟩ : ∃ us, x = .tuple us := by cases x <;> first | exact ⟨_, rfl⟩ | cases ht2
          refine noF ?_
          refine ew_or1 ?_
          refine et_cmp (oz_eqD (zu hr)) ?_
          refine ev_name 5 rfl ?_
          refine ev_tup ?_
          refine ea_nil ⟨by walk_at "sz", ?_⟩
          refine ⟨(hxa.sim (by decide)).shaped (by decide), by decide, ?_⟩
          rw [eqv_nilTD]
          have hul : us.length ≤ 1000 := hxa.1
          refine dB (fun he => ?_) fun he => ess_nil ?_
          · refine ess_one (es_ret ?_)
            refine ev_bool ?_
            refine hbad ?_
            rw [rollB_t, if_pos he]
          refine ess_cons (es_if ?_)
          refine et_ew (ew_or ?_)
          refine et_not (et_val ?_)
          refine ev_all rfl T.n_all ?_
          refine ev_el (el_lc (own := [("place", 6)]) (gg_name 6) (fun _ _ _ _ _ => pg_name sc_is_plan.nd rfl (.inl rfl)) rfl sc_is_plan.nd (blkOk_by (N := ["paper", "length", "number", "value", "seen", "roll", "place"]) (sc := defScope s_is_plan) (by decide +kernel)) rfl ?_)
          refine ei_tup ?_
          refine ev_name 5 rfl ?_
          refine ⟨Nat.le_trans hul (by decide), fun j acc => acc = ((us.take j).map fun x => within x 0 (n - 1)).map PyData.bool, rfl, fun j y acc hy ha _ => ⟨[y], rfl, ?_⟩, fun acc ha hlen => ?_⟩
          · subst ha
            rintro _ ⟨s', H', C, cl, fp, rfl⟩ W' _
            refine ev_call (ok_is_integer T) (hr.mono (by decide)) T.g_is_integer T.F_is_integer.kp T.b_is_integer ?_
            refine ea_cons ?_
            refine ev_name 6 rfl ?_
            refine ea_cons ?_
            refine ev_int ?_
            refine ea_cons ?_
            refine ev_bin oz_sub ?_
            refine ev_name 2 rfl ?_
            refine ev_int ?_
            refine ea_nil ⟨_, _, _, rfl, ?_⟩
            show _ = ((us.take (j + 1)).map fun x => within x 0 (n - 1)).map PyData.bool
            rw [List.take_add_one, hy, List.map_append, List.map_append]
            rfl
          subst ha
          rw [List.take_length]
          refine ⟨_, rfl, ?_⟩
          have eall : (us.map fun x => within x 0 (n - 1)).all id = us.all (fun x => within x 0 (n - 1)) := by
            rw [List.all_map]
            rfl
          rw [eall]
          cases hall : us.all (fun x => within x 0 (n - 1)) with
          | false =>
            refine yesT (yesT ?_)
            refine ess_one (es_ret ?_)
            refine ev_bool ?_
            refine hbad ?_
            rw [rollB_t, if_neg he, hall]
            rfl
          | true =>
            refine noF ?_
            refine ew_or1 ?_
            have hus := within_int hall
            refine et_cmp oz_gt ?_
            refine ev_call (ok_end_of T) hr T.g_end_of T.F_end_of.kp T.b_end_of ?_
            refine ea_cons ?_
            refine ev_name 0 rfl ?_
            refine ea_cons ?_
            refine ev_name 1 rfl ?_
            refine ea_cons ?_
            refine ev_name 5 rfl ?_
            refine ea_nil ⟨r, d, l, z, us.map valI, by rw [← hus], hp, by rw [List.length_map]; omega, ?_⟩
            refine ev_ix ?_
            refine ev_name 0 rfl ?_
            refine ev_int ?_
            refine ⟨_, rfl, ?_⟩
            refine dB (fun hq => ?_) fun hq => ess_nil ?_
            · refine ess_one (es_ret ?_)
              refine ev_bool ?_
              refine hbad ?_
              rw [rollB_t, if_neg he, if_pos hall, if_pos hq]
            have hroll : rollB r d l z n (.tuple us) = some (us.map valI) := by
              rw [rollB_t, if_neg he, if_pos hall, if_neg hq]
            rw [hroll] at q1
            refine ess_one (es_extendT 4 rfl ?_)
            refine ev_name 5 rfl ?_
            have hi2 : (i + 1) * 1000 = i * 1000 + 1000 := Nat.succ_mul i 1000
            have hi3 : i * 1000 ≤ 1000 * 1000 := Nat.mul_le_mul_right 1000 (by omega)
            refine ⟨by rw [List.length_map]; exact Nat.le_trans (show acc.length + us.length ≤ 2000000 by omega) (by decide), ?_⟩
            refine ⟨acc ++ us.map valI, _, _, _, q1, ?_, ?_, rfl⟩
            · rw [List.length_append, List.length_map]
              omega
            · rw [List.map_append, ← hus]
      · obtain ⟨acc, _, a, b, q1, q2, rfl, rfl⟩ := hP
        have hrl : rs.length ≤ 1000 := hv.1
        rw [List.drop_length, seenA] at q1
        have e : planB r d l z n (.tuple rs) = decide (acc.Perm (rngI n.toNat)) := by
          rw [planB_t, q1]
        rw [e] at hR
        refine ess_frz 4 rfl ?_
        refine ess_one (es_ret ?_)
        refine ev_cmp (oz_eqD (zu hr)) ?_
        refine ev_el (el_sorted T.n_sorted ?_)
        refine ev_name 4 rfl ?_
        refine ⟨acc, rfl, fun ms h1 h2 => ?_⟩
        refine ev_el (el_listR1 rfl T.n_list T.n_range ?_)
        refine ev_name 2 rfl ?_
        refine ⟨⟨n0, by omega⟩, ?_⟩
        rw [rngI_D]
        have hms : ms.length ≤ 1000000 := by
          rw [h1.length_eq]
          have : rs.length * 1000 ≤ 1000 * 1000 := Nat.mul_le_mul_right 1000 hrl
          omega
        have hrn : (rngI n.toNat).length ≤ 1000000 := by
          unfold rngI
          rw [List.length_map, List.length_range]
          omega
        refine ⟨(sim_ints (n := 0) hms).shaped (by decide), (sim_ints (n := 0) hrn).shaped (by decide), ?_⟩
        rw [eqv_ints, sorted_is h1 h2]
        exact hR

-- FILL: ⟨_, rfl, by walk_at "zs", by walk_at "zs", fun $1 $1a $1b => ?_⟩
/-- a draw: any number below -/
def p__law_draw : List PyData → (PyData → Prop) → Prop := fun ds R => ∃ m : Int, ds = [.int m] ∧ 0 < m ∧ m ≤ 10 ^ 15 ∧ ∀ n : Int, 0 ≤ n → n < m → R (.int n)
theorem ok__law_draw (T : En K mg) : FnOk P w K mg base CX0 1 T.f__law_draw T.fd__law_draw ["tape", "many"] (ConT K p__law_draw) := by
  refine fn_conT T.F__law_draw sc__law_draw (fun ds R h => ?_) (fun cdv A outer s H E W ds R hr h => ?_)
  · obtain ⟨m, rfl, _⟩ := h
    rfl
  · obtain ⟨m, rfl, h0, h1, hR⟩ := h
    have md : ∀ x : Int, 0 ≤ x % 2305843009213693951 ∧ x % 2305843009213693951 < 2305843009213693951 := fun x => ⟨Int.emod_nonneg _ (by decide), Int.emod_lt_of_pos _ (by decide)⟩
    refine ess_cons (es_set 2 ?_ sc__law_draw.nd)
    refine ev_int ?_
    refine ess_cut (fun r => r = [.tape, .im (.int m), .im (.int 2305843009213693951), r.getD 3 .no, .no]) (es_if ?_) fun r hr3 => ?_
    · refine et_cmp oz_lt ?_
      refine ev_tape2 0 rfl fun c c0 => ?_
      refine ev_name 1 rfl ?_
      refine dB (fun h2 => ?_) fun h2 => ?_
      · refine ess_cons (es_set 3 ?_ sc__law_draw.nd)
        refine ev_int ?_
        refine ess_cut (fun r => ∃ z : Int, r = [.tape, .im (.int m), .im (.int 2305843009213693951), .im (.int z), .no]) (es_if ?_) fun r hz => ?_
        · refine et_cmp oz_gt ?_
          refine ev_len T.n_len ?_
          refine ev_tape0 0 rfl ?_
          refine ev_int ?_
          refine dB (fun h3 => ?_) fun h3 => ?_
          · rw [List.length_map] at h3
            refine ess_one (es_set 3 ?_ sc__law_draw.nd)
            refine ev_ix ?_
            refine ev_tape0 0 rfl ?_
            refine ev_bin oz_mod ?_
            refine ev_tape1 0 rfl fun z z0 => ?_
            refine ev_len T.n_len ?_
            refine ev_tape0 0 rfl ?_
            have hl : (0 : Int) < ((W.ns.2.map PyData.int).length : Nat) := by rw [List.length_map]; omega
            refine ⟨hl, ?_⟩
            obtain ⟨x, hx, y, rfl⟩ := pick (ds := W.ns.2.map PyData.int) (n := z % ((W.ns.2.map PyData.int).length : Nat)) (Pr := fun d => ∃ y : Int, d = .int y) (Int.emod_nonneg _ (by omega)) (Int.emod_lt_of_pos _ hl) (fun d hd => by
              obtain ⟨y, _, rfl⟩ := List.mem_map.mp hd
              exact ⟨y, rfl⟩)
            exact ⟨_, hx, y, rfl⟩
          · exact ess_nil ⟨0, rfl⟩
        · obtain ⟨z, rfl⟩ := hz
          refine ess_cut (fun r => ∃ z : Int, 0 ≤ z ∧ r = [.tape, .im (.int m), .im (.int 2305843009213693951), .im (.int z), .no]) (es_if ?_) fun r hz => ?_
          · have big : ∀ z : Int, Ess (Bx P w K mg base ["tape", "many", "prime", "cell", "found"] "_law_draw" (defScope s__law_draw) T.f__law_draw cdv A outer s H E) W (defBody s__law_draw |>.getD 1 (.Pass ⟨0, 0, 0, 0⟩) |> fun st => match st with
                | .If _ b _ _ => (match b.getD 2 (.Pass ⟨0, 0, 0, 0⟩) with | .If _ b _ _ => b | _ => []) | _ => []) [.tape, .im (.int m), .im (.int 2305843009213693951), .im (.int z), .no]
                { nx := fun r => ∃ z : Int, 0 ≤ z ∧ r = [.tape, .im (.int m), .im (.int 2305843009213693951), .im (.int z), .no], rt := R } := fun z => by
              refine ess_cons (es_set 3 ?_ sc__law_draw.nd)
              refine ev_bin oz_mod ?_
              refine ev_bin oz_add ?_
              refine ev_name 3 rfl ?_
              refine ev_bin oz_mul ?_
              refine ev_int ?_
              refine ev_tape1 0 rfl fun i i0 => ?_
              refine ⟨by walk_at "zs", ?_⟩
              refine ev_name 2 rfl ?_
              refine ⟨(show (0 : Int) < 2305843009213693951 by decide), ?_⟩
              obtain ⟨a0, a1⟩ := md (z + 1000003 * i)
              refine ess_cons (es_set 3 ?_ sc__law_draw.nd)
              refine ev_bin oz_mod ?_
              refine ev_bin oz_add ?_
              refine ev_bin oz_add ?_
              refine ev_bin oz_mul ?_
              refine ev_name 3 rfl ?_
              refine ev_name 3 rfl ?_
              refine ⟨mull (by omega) (by omega), ?_⟩
              refine ev_bin oz_mul ?_
              refine ev_int ?_
              refine ev_name 3 rfl ?_
              refine ⟨mull (by omega) (by omega), ?_⟩
              refine ev_int ?_
              refine ev_name 2 rfl ?_
              refine ⟨(show (0 : Int) < 2305843009213693951 by decide), ?_⟩
              refine ess_one (es_set 3 ?_ sc__law_draw.nd)
              refine ev_bin oz_mod ?_
              refine ev_bin oz_add ?_
              refine ev_bin oz_mul ?_
              refine ev_name 3 rfl ?_
              refine ev_name 3 rfl ?_
              refine ⟨mull (Int.le_trans (by decide) (md _).1) (Int.le_trans (Int.le_of_lt (md _).2) (by decide)), ?_⟩
              refine ev_int ?_
              refine ev_name 2 rfl ?_
              refine ⟨(show (0 : Int) < 2305843009213693951 by decide), ?_⟩
              exact ⟨_, (md _).1, rfl⟩
            refine et_ew (ew_or ?_)
            refine et_cmp oz_ge ?_
            refine ev_tape1 0 rfl fun i i0 => ?_
            refine ev_len T.n_len ?_
            refine ev_tape0 0 rfl ?_
            refine ⟨fun _ => ⟨fun _ => big z, fun h => by cases h⟩, fun _ => ?_⟩
            refine ew_or1 ?_
            refine et_cmp oz_lt ?_
            refine ev_name 3 rfl ?_
            refine ev_powc (m := 1000000000000000000) ?_
            refine dB (fun _ => big z) fun h4 => ?_
            exact ess_nil ⟨z, by omega, rfl⟩
          · obtain ⟨z, z0, rfl⟩ := hz
            refine ess_cons (es_tape 0 (.inl rfl) rfl ?_)
            refine ev_bin oz_add ?_
            refine ev_tape1 0 rfl fun i i0 => ?_
            refine ev_int ?_
            refine ⟨by omega, ?_⟩
            refine ess_one (es_tape 0 (.inr rfl) rfl ?_)
            refine ev_name 3 rfl ?_
            exact ⟨z0, rfl⟩
      · exact ess_nil rfl
    · rw [hr3]
      refine ess_cons (es_set 4 ?_ sc__law_draw.nd)
      refine ev_bin oz_mod ?_
      refine ev_tape2 0 rfl fun c c0 => ?_
      refine ev_name 1 rfl ?_
      refine ⟨h0, ?_⟩
      refine ess_cons (es_tape 0 (.inr rfl) rfl ?_)
      refine ev_bin oz_div ?_
      refine ev_tape2 0 rfl fun c2 c20 => ?_
      refine ev_name 1 rfl ?_
      refine ⟨divs h0 (by omega), ?_⟩
      refine ⟨Int.ediv_nonneg c20 (by omega), ?_⟩
      refine ess_one (es_ret ?_)
      refine ev_name 4 rfl ?_
      exact hR _ (Int.emod_nonneg _ (by omega)) (Int.emod_lt_of_pos _ h0)

-- FILL: ⟨_, rfl, by walk_at "sim", ?_⟩
-- NEEDS base
-- NEEDS sim
/-- the law's deep likeness, asked of equal data -/
def p__law_like (n : Nat) : List PyData → (PyData → Prop) → Prop := fun ds R => ∃ d, ds = [d, d] ∧ Sim n d ∧ R (.bool true)
theorem like_seq (T : En K mg) {n : Nat} (ih : ∀ m, n = m + 1 → FnOk P w K mg base CX0 n T.f__law_like T.fd__law_like ["one", "two"] (Con K (p__law_like m))) {cdv : Value} {A : Around} {outer : List Env} {s : Shared} {H : Hp} {E : XK} {W : Wd} {R : PyData → Prop}
    (hr : Room n (Bx P w K mg base ["one", "two", "k"] "_law_like" (defScope s__law_like) T.f__law_like cdv A outer s H E).A) {d : PyData} {ds : List PyData} (hd : d = .list ds ∨ d = .tuple ds) (hs : Sim n d) (hR : R (.bool true)) :
    Ess (Bx P w K mg base ["one", "two", "k"] "_law_like" (defScope s__law_like) T.f__law_like cdv A outer s H E) W (match (defBody s__law_like).getD 0 (.Pass ⟨0, 0, 0, 0⟩) with | .If _ b _ _ => b | _ => []) [.im d, .im d, .no] { nx := fun _ => False, rt := R } := by
  have hl1 : isListD d = isListD d := rfl
  have ixd : ∀ {i : Nat} {x : PyData} {Q : PyData → Prop}, ds[i]? = some x → Q x → rIxZ d (.int (0 + (i : Nat))) Q := fun {i x Q} e q => by
    have e2 : atI ds (0 + (i : Nat)) = some x := by rw [Int.zero_add]; exact atI_nat e
    rcases hd with rfl | rfl
    · exact ⟨x, e2, q⟩
    · exact ⟨x, e2, q⟩
  obtain ⟨m, rfl, hsz, hin⟩ : ∃ m, n = m + 1 ∧ ds.length ≤ 1000000 ∧ ∀ x ∈ ds, Sim m x := by
    rcases hd with rfl | rfl
    · cases n with
      | zero => exact hs.elim
      | succ m => exact ⟨m, rfl, hs.1, hs.2⟩
    · cases n with
      | zero => exact hs.elim
      | succ m => exact ⟨m, rfl, hs.1, hs.2⟩
  have lenD : ∀ {Q : PyData → Prop}, Q (.int (ds.length : Int)) → rLen d Q := fun q => by
    rcases hd with rfl | rfl
    · exact q
    · exact q
  refine ess_cons (es_if ?_)
  refine et_ew (ew_or ?_)
  refine et_cmp oz_neB ?_
  refine ev_isList T.n_isinstance T.n_list ?_
  refine ev_name 0 rfl ?_
  refine ev_isList T.n_isinstance T.n_list ?_
  refine ev_name 1 rfl ?_
  refine dN (fun z => absurd rfl z) fun _ => ?_
  refine ew_or1 ?_
  refine et_cmp oz_neB ?_
  refine ev_isTup T.n_isinstance T.n_tuple ?_
  refine ev_name 0 rfl ?_
  refine ev_isTup T.n_isinstance T.n_tuple ?_
  refine ev_name 1 rfl ?_
  refine dN (fun z => absurd rfl z) fun _ => ?_
  refine ess_nil ?_
  refine ess_cons (es_if ?_)
  refine et_cmp oz_ne ?_
  refine ev_len T.n_len ?_
  refine ev_name 0 rfl ?_
  refine lenD ?_
  refine ev_len T.n_len ?_
  refine ev_name 1 rfl ?_
  refine lenD ?_
  refine dN (fun z => absurd rfl z) fun _ => ?_
  refine ess_nil ?_
  refine ess_one (es_ret ?_)
  refine ev_cmp (oz_eqD (zu hr)) ?_
  refine ev_el (el_lcI (own := [("k", 2)]) (gg_name 2) (fun _ _ _ _ _ => pg_name sc__law_like.nd rfl (.inl rfl)) rfl sc__law_like.nd (blkOk_by (N := ["one", "two", "k"]) (sc := defScope s__law_like) (by decide +kernel)) rfl ?_)
  refine ei_range1 T.n_range ?_
  refine ev_len T.n_len ?_
  refine ev_name 0 rfl ?_
  refine lenD ?_
  refine ⟨by omega, by omega, ?_⟩
  rw [show ((ds.length : Nat) : Int).toNat = ds.length from Int.toNat_natCast _]
  refine ⟨by rw [rngD_len]; exact Nat.le_trans hsz (by decide), fun _ acc => acc = [], rfl, fun i x acc hx ha hl => ⟨[x], rfl, ?_⟩, fun acc ha _ => ?_⟩
  · have hi : i < ds.length := by
      have := (List.getElem?_eq_some_iff.mp hx).1
      rwa [rngD_len] at this
    rw [rngD_get hi] at hx
    cases hx
    have hx2 := List.getElem?_eq_getElem hi
    have hin2 := hin _ (List.getElem_mem hi)
    rintro _ ⟨s', H', C, cl, fp, rfl⟩ W' _
    refine et_not (et_val ?_)
    refine ev_call (ih m rfl) hr T.g__law_like T.F__law_like.kp T.b__law_like ?_
    refine ea_cons ?_
    refine ev_ix ?_
    refine ev_name 0 rfl ?_
    refine ev_name 2 rfl ?_
    refine ixd hx2 ?_
    refine ea_cons ?_
    refine ev_ix ?_
    refine ev_name 1 rfl ?_
    refine ev_name 2 rfl ?_
    refine ixd hx2 ?_
    refine ea_nil ⟨_, rfl, hin2, ?_⟩
    exact ⟨fun z => (by cases z), fun _ => ha⟩
  · subst ha
    refine ev_el (el_lst (ea_nil ⟨by walk_at "sz", ?_⟩))
    exact ⟨by decide, by decide, hR⟩
theorem like_ok (T : En K mg) : ∀ n : Nat, FnOk P w K mg base CX0 (n + 1) T.f__law_like T.fd__law_like ["one", "two"] (Con K (p__law_like n))
  | n => by
    refine fn_con T.F__law_like sc__law_like (fun ds R h => ?_) (fun cdv A outer s H E W ds R hr h => ?_)
    · obtain ⟨d, rfl, _⟩ := h
      rfl
    · obtain ⟨d, rfl, hs, hR⟩ := h
      have seq : ∀ ds, (d = .list ds ∨ d = .tuple ds) → _ := fun ds hd => like_seq (W := W) T (fun m e => by subst e; exact like_ok T m) hr hd hs hR
      refine ess_cons (es_if ?_)
      refine et_val ?_
      refine ev_isiLT T.n_isinstance T.n_list T.n_tuple ?_
      refine ev_name 0 rfl ?_
      have flat : isLT d = false → PyData.eqv d d = true := fun _ => hs.self
      have sh : isLT d = false → SeqAt.shaped d = true := fun e => by
        unfold SeqAt.shaped
        rw [Bool.and_eq_true]
        refine ⟨hs.lay.1, decide_eq_true ?_⟩
        cases d with
        | list _ => cases e
        | tuple _ => cases e
        | dict _ => exact (sim_dict hs).elim
        | none => simp [PyData.depth]
        | bool _ => simp [PyData.depth]
        | int _ => simp [PyData.depth]
        | str _ => simp [PyData.depth]
      refine ⟨fun h1 => ?_, fun h1 => ?_⟩
      · cases d with
        | list ds => exact (seq ds (.inl rfl)).imp (fun _ q => q.elim) (fun _ q => q) (fun _ q => q) (fun _ q => q)
        | tuple ds => exact (seq ds (.inr rfl)).imp (fun _ q => q.elim) (fun _ q => q) (fun _ q => q) (fun _ q => q)
        | none => cases h1
        | bool _ => cases h1
        | int _ => cases h1
        | str _ => cases h1
        | dict _ => cases h1
      · refine ess_nil ?_
        refine ess_cons (es_if ?_)
        refine et_val ?_
        refine ev_isiLT T.n_isinstance T.n_list T.n_tuple ?_
        refine ev_name 1 rfl ?_
        refine ⟨fun h2 => absurd (h1.symm.trans h2) (by simp), fun _ => ?_⟩
        refine ess_nil ?_
        refine ess_one (es_ret ?_)
        refine ev_and ?_
        refine ev_cmp oz_eqB ?_
        refine ev_isBool T.n_isinstance T.n_bool ?_
        refine ev_name 0 rfl ?_
        refine ev_isBool T.n_isinstance T.n_bool ?_
        refine ev_name 1 rfl ?_
        refine dB (fun _ => ?_) fun z => absurd rfl z
        refine ev_one ?_
        refine ev_cmp (oz_eqD (zu hr)) ?_
        refine ev_name 0 rfl ?_
        refine ev_name 1 rfl ?_
        refine ⟨sh h1, sh h1, ?_⟩
        rw [hs.self]
        exact hR
theorem ok__law_like (T : En K mg) : FnOk P w K mg base CX0 6 T.f__law_like T.fd__law_like ["one", "two"] (Con K (p__law_like 5)) := like_ok T 5

-- FILL: ⟨_, _, rfl, by decide, by decide, fun $1 $2 $3 $1a $1b $2a $2b $3a $3b => ?_⟩
-- NEEDS base
/-- a drawn paper -/
def p__law_numbers : List PyData → (PyData → Prop) → Prop := fun ds R => ∃ m f : Int, ds = [.int m, .int f] ∧ (8 ≤ m ∧ m ≤ 200) ∧ (1 ≤ f ∧ f ≤ 10000) ∧ ∀ r d l : Int, 1 ≤ r → r ≤ m → 0 ≤ d → d < r → 1 ≤ l → l ≤ f → R (pap r d l)
theorem ok__law_numbers (T : En K mg) : FnOk P w K mg base CX0 2 T.f__law_numbers T.fd__law_numbers ["tape", "most", "far"] (ConT K p__law_numbers) := by
  refine fn_conT T.F__law_numbers sc__law_numbers (fun ds R h => ?_) (fun cdv A outer s H E W ds R hr h => ?_)
  · obtain ⟨m, f, rfl, _⟩ := h
    rfl
  · obtain ⟨m, f, rfl, ⟨m0, m1⟩, ⟨f0, f1⟩, hR⟩ := h
    refine ess_cons (es_set 3 ?_ sc__law_numbers.nd)
    refine ev_bin oz_add ?_
    refine ev_int ?_
    refine ev_callT 0 rfl (ok__law_draw T) hr T.g__law_draw T.F__law_draw.kp T.b__law_draw ?_
    refine ea_cons ?_
    refine ev_ix ?_
    refine ev_el (el_lst ?_)
    refine ea_cons ?_
    refine ev_name 1 rfl ?_
    refine ea_cons ?_
    refine ev_int ?_
    refine ea_cons ?_
    refine ev_name 1 rfl ?_
    refine ea_nil ⟨by walk_at "sz", ?_⟩
    refine ev_callT 0 rfl (ok__law_draw T) hr T.g__law_draw T.F__law_draw.kp T.b__law_draw ?_
    refine ea_cons ?_
    refine ev_int ?_
    refine ea_nil ⟨3, rfl, by decide, by decide, fun n n0 n1 => ?_⟩
    obtain ⟨x, hx, y, rfl, y0, y1⟩ := pick (ds := [.int m, .int 8, .int m]) (Pr := fun d => ∃ y : Int, d = .int y ∧ 8 ≤ y ∧ y ≤ m) n0 n1 (by
      intro d hd
      simp only [List.mem_cons, List.not_mem_nil, or_false] at hd
      rcases hd with rfl | rfl | rfl
      · exact ⟨m, rfl, m0, Int.le_refl _⟩
      · exact ⟨8, rfl, by omega, m0⟩
      · exact ⟨m, rfl, m0, Int.le_refl _⟩)
    refine ⟨_, hx, ?_⟩
    refine ea_nil ⟨y, rfl, by omega, by omega, fun r r0 r1 => ?_⟩
    refine ess_cons (es_set 4 ?_ sc__law_numbers.nd)
    refine ev_el (el_lst ?_)
    refine ea_cons ?_
    refine ev_int ?_
    refine ea_cons ?_
    refine ev_bin oz_div ?_
    refine ev_name 3 rfl ?_
    refine ev_int ?_
    refine ⟨divs (by decide) (by decide), ?_⟩
    refine ea_cons ?_
    refine ev_bin oz_div ?_
    refine ev_name 3 rfl ?_
    refine ev_int ?_
    refine ⟨divs (by decide) (by decide), ?_⟩
    refine ea_cons ?_
    refine ev_callT 0 rfl (ok__law_draw T) hr T.g__law_draw T.F__law_draw.kp T.b__law_draw ?_
    refine ea_cons ?_
    refine ev_name 3 rfl ?_
    refine ea_nil ⟨_, rfl, by omega, by omega, fun d1 d10 d11 => ?_⟩
    refine ea_cons ?_
    refine ev_bin oz_sub ?_
    refine ev_name 3 rfl ?_
    refine ev_int ?_
    refine ea_cons ?_
    refine ev_callT 0 rfl (ok__law_draw T) hr T.g__law_draw T.F__law_draw.kp T.b__law_draw ?_
    refine ea_cons ?_
    refine ev_name 3 rfl ?_
    refine ea_nil ⟨_, rfl, by omega, by omega, fun d2 d20 d21 => ?_⟩
    refine ea_nil ⟨by walk_at "sz", ?_⟩
    refine ess_one (es_ret ?_)
    refine ev_tup ?_
    refine ea_cons ?_
    refine ev_name 3 rfl ?_
    refine ea_cons ?_
    refine ev_ix ?_
    refine ev_name 4 rfl ?_
    refine ev_callT 0 rfl (ok__law_draw T) hr T.g__law_draw T.F__law_draw.kp T.b__law_draw ?_
    refine ea_cons ?_
    refine ev_int ?_
    refine ea_nil ⟨6, rfl, by decide, by decide, fun n n0 n1 => ?_⟩
    obtain ⟨x, hx, d, rfl, d0, d1⟩ := pick (ds := [.int 0, .int ((1 + r) / 2), .int ((1 + r) / 3), .int d1, .int ((1 + r) - 1), .int d2]) (Pr := fun e => ∃ d : Int, e = .int d ∧ 0 ≤ d ∧ d < 1 + r) n0 n1 (by
      intro e he
      simp only [List.mem_cons, List.not_mem_nil, or_false] at he
      rcases he with rfl | rfl | rfl | rfl | rfl | rfl
      · exact ⟨_, rfl, by omega, by omega⟩
      · exact ⟨_, rfl, by omega, by omega⟩
      · exact ⟨_, rfl, by omega, by omega⟩
      · exact ⟨_, rfl, by omega, by omega⟩
      · exact ⟨_, rfl, by omega, by omega⟩
      · exact ⟨_, rfl, by omega, by omega⟩)
    refine ⟨_, hx, ?_⟩
    refine ea_cons ?_
    refine ev_bin oz_add ?_
    refine ev_int ?_
    refine ev_callT 0 rfl (ok__law_draw T) hr T.g__law_draw T.F__law_draw.kp T.b__law_draw ?_
    refine ea_cons ?_
    refine ev_name 2 rfl ?_
    refine ea_nil ⟨f, rfl, by omega, by omega, fun l l0 l1 => ?_⟩
    refine ea_nil ⟨by walk_at "sz", ?_⟩
    exact hR (1 + r) d (1 + l) (by omega) (by omega) d0 d1 (by omega) (by omega)

-- FILL: ⟨_, _, _, _, rfl, by walk_at "pre", ?_⟩
-- NEEDS base
def p__law_phase : List PyData → (PyData → Prop) → Prop := fun ds R => ∃ r d l n, ds = [pap r d l, .int n] ∧ POk r d l ∧ R (.int (n * d % r))
theorem ok__law_phase (T : En K mg) : FnOk P w K mg base CX0 1 T.f__law_phase T.fd__law_phase ["kind", "place"] (Con K p__law_phase) := by
  refine fn_con T.F__law_phase sc__law_phase (fun ds R h => ?_) (fun cdv A outer s H E W ds R hr h => ?_)
  · obtain ⟨r, d, l, n, rfl, _⟩ := h
    rfl
  · obtain ⟨r, d, l, n, rfl, ⟨⟨h1, h2⟩, ⟨h3, h4⟩, h5⟩, hR⟩ := h
    refine ess_one (es_ret ?_)
    refine ev_bin oz_mod ?_
    refine ev_bin oz_mul ?_
    refine ev_name 1 rfl ?_
    refine ev_ix ?_
    refine ev_name 0 rfl ?_
    refine ev_int ?_
    refine ⟨_, rfl, ?_⟩
    refine ⟨by walk_at "zs", ?_⟩
    refine ev_ix ?_
    refine ev_name 0 rfl ?_
    refine ev_int ?_
    refine ⟨_, rfl, ?_⟩
    exact ⟨by walk_at "zs", hR⟩

-- NEEDS base
-- NEEDS next
-- FILL: ⟨_, _, _, _, _, rfl, by walk_at "pre", ?_⟩
def p__law_next : List PyData → (PyData → Prop) → Prop := fun ds R => ∃ r d l f n : Int, ds = [pap r d l, .int f, .int n] ∧ POk r d l ∧ R (.int (nxt r d f n))
theorem ok__law_next (T : En K mg) : FnOk P w K mg base CX0 2 T.f__law_next T.fd__law_next ["kind", "free", "place"] (Con K p__law_next) := by
  refine fn_con T.F__law_next sc__law_next (fun ds R h => ?_) (fun cdv A outer s H E W ds R hr h => ?_)
  · obtain ⟨r, d, l, f, n, rfl, _⟩ := h
    rfl
  · obtain ⟨r, d, l, f, n, rfl, hp, hR⟩ := h
    obtain ⟨⟨h1, h2⟩, ⟨h3, h4⟩, h5, h6⟩ := id hp
    have hs := nxt_spec (d := d) (f := f) (n := n) (show 0 < r by omega)
    refine ess_cons (es_set 3 ?_ sc__law_next.nd)
    refine ev_name 1 rfl ?_
    refine ess_cons (es_while (fun m ρ => ∃ x : Int, f ≤ x ∧ x + (m : Int) = nxt r d f n ∧ ρ = [.im (pap r d l), .im (.int f), .im (.int n), .im (.int x)]) (nxt r d f n - f).toNat ⟨f, by omega, by omega, rfl⟩ .never fun m ρ hP => ?_)
    obtain ⟨x, x1, x2, rfl⟩ := hP
    refine et_cmp oz_ne ?_
    refine ev_bin oz_mod ?_
    refine ev_name 3 rfl ?_
    refine ev_ix ?_
    refine ev_name 0 rfl ?_
    refine ev_int ?_
    refine ⟨_, rfl, ?_⟩
    refine ⟨by walk_at "zs", ?_⟩
    refine ev_call (ok__law_phase T) hr T.g__law_phase T.F__law_phase.kp T.b__law_phase ?_
    refine ea_cons ?_
    refine ev_name 0 rfl ?_
    refine ea_cons ?_
    refine ev_name 2 rfl ?_
    refine ea_nil ⟨_, _, _, _, rfl, by walk_at "pre", ?_⟩
    refine dN (fun hz => ?_) fun hz => ?_
    · refine ess_one (es_set 3 ?_ sc__law_next.nd)
      refine ev_bin oz_add ?_
      refine ev_name 3 rfl ?_
      refine ev_int ?_
      have hm : m ≠ 0 := by
        rintro rfl
        apply hz
        have : x = nxt r d f n := by omega
        rw [this]
        exact hs.2.2
      exact ⟨m - 1, by omega, x + 1, by omega, by omega, rfl⟩
    · refine ess_one (es_ret ?_)
      refine ev_name 3 rfl ?_
      have := nxt_min (show 0 < r by omega) x1 hz
      have e : x = nxt r d f n := by omega
      rw [e]
      exact hR

-- NEEDS most
-- FILL: ⟨_, _, _, _, _, _, rfl, by first | exact .inl rfl | exact .inr rfl, by walk_at "pre", by walk_at "zs", ?_⟩
def p__law_begins : List PyData → (PyData → Prop) → Prop := fun ds R => ∃ (r d l z : Int) (ps : List Int) (sq : PyData), ds = [pap r d l, .int z, sq] ∧ (sq = .tuple (ps.map PyData.int) ∨ sq = .list (ps.map PyData.int)) ∧ POk r d l ∧ ps.length ≤ 100000 ∧ R (optL (bgs r d l z 0 [] ps))
theorem ok__law_begins (T : En K mg) : FnOk P w K mg base CX0 3 T.f__law_begins T.fd__law_begins ["kind", "size", "places"] (Con K p__law_begins) := by
  refine fn_con T.F__law_begins sc__law_begins (fun ds R h => ?_) (fun cdv A outer s H E W ds R hr h => ?_)
  · obtain ⟨r, d, l, z, ps, sq, rfl, _⟩ := h
    rfl
  · obtain ⟨r, d, l, z, ps, sq, rfl, hsq, hp, hl, hR⟩ := h
    obtain ⟨⟨h1, h2⟩, ⟨h3, h4⟩, h5, h6⟩ := id hp
    refine ess_cons (es_parL 3 4 ?_ rfl sc__law_begins.nd)
    refine ess_cons (es_for .never rfl ?_)
    refine ei_seq ?_
    refine ev_name 2 rfl ?_
    refine ⟨_, hsq, ?_⟩
    refine ⟨fun i ρ => ∃ (f : Int) (acc : List Int) (xs : List PyData) (a b : Sl), bgs r d l z 0 [] ps = bgs r d l z f acc (ps.drop i) ∧ acc.length ≤ i ∧ xs = acc.map PyData.int ∧ ρ = [.im (pap r d l), .im (.int z), .im sq, .own xs, .im (.int f), a, b], ⟨0, [], _, _, _, rfl, Nat.le_refl _, rfl, rfl⟩, fun i x ρ hx hP => ?_, fun ρ hP => ?_⟩
    · obtain ⟨f, acc, _, a, b, q1, q2, rfl, rfl⟩ := hP
      obtain ⟨p, hp1, rfl⟩ : ∃ p, ps[i]? = some p ∧ x = .int p := by
        rw [List.getElem?_map] at hx
        obtain ⟨t, h6, h7⟩ := Option.map_eq_some_iff.mp hx
        exact ⟨t, h6, h7.symm⟩
      have hi := (List.getElem?_eq_some_iff.mp hp1).1
      have ed : ps.drop i = p :: ps.drop (i + 1) := by
        rw [List.drop_eq_getElem_cons hi]
        congr 1
        exact (List.getElem?_eq_some_iff.mp hp1).2
      rw [ed] at q1
      simp only [bgs] at q1
      refine tg_name 5 ?_ sc__law_begins.nd
      refine ess_cons (es_set 6 ?_ sc__law_begins.nd)
      refine ev_call (ok__law_next T) hr T.g__law_next T.F__law_next.kp T.b__law_next ?_
      refine ea_cons ?_
      refine ev_name 0 rfl ?_
      refine ea_cons ?_
      refine ev_name 4 rfl ?_
      refine ea_cons ?_
      refine ev_name 5 rfl ?_
      refine ea_nil ⟨_, _, _, _, _, rfl, by walk_at "pre", ?_⟩
      refine ess_cons (es_set 4 ?_ sc__law_begins.nd)
      refine ev_bin oz_add ?_
      refine ev_name 6 rfl ?_
      refine ev_name 1 rfl ?_
      refine ess_cons (es_if ?_)
      refine et_cmp oz_gt ?_
      refine ev_name 4 rfl ?_
      refine ev_ix ?_
      refine ev_name 0 rfl ?_
      refine ev_int ?_
      refine ⟨_, rfl, ?_⟩
      refine dB (fun hz => ?_) fun hz => ?_
      · refine ess_one (es_ret ?_)
        refine ev_none ?_
        rw [q1, if_pos hz] at hR
        exact hR
      · refine ess_nil ?_
        rw [if_neg hz] at q1
        refine ess_one (es_append 3 rfl ?_)
        refine ev_name 6 rfl ?_
        refine ⟨by rw [List.length_map]; exact Nat.lt_of_le_of_lt (show acc.length ≤ 100000 by omega) (by decide), ?_⟩
        refine ⟨_, acc ++ [nxt r d f p], _, _, _, q1, ?_, ?_, rfl⟩
        · rw [List.length_append]
          exact Nat.add_le_add_right q2 1
        · rw [List.map_append]
          rfl
    · obtain ⟨f, acc, _, a, b, q1, q2, rfl, rfl⟩ := hP
      rw [List.length_map, List.drop_length] at q1
      refine ess_frz 3 rfl ?_
      refine ess_one (es_ret ?_)
      refine ev_name 3 rfl ?_
      rw [q1] at hR
      exact hR

-- NEEDS cuts
/-! orders as data -/
def ordD (rows : List (List Int)) : List PyData := rows.map fun o => .tuple (o.map PyData.int)
def moreO (n : Int) (row : List Int) (j : Nat) : List (List Int) := (((rngI n.toNat).take j).filter fun p => !decide (p ∈ row)).map fun p => row ++ [p]
theorem moreO_full {n : Int} {row : List Int} : moreO n row n.toNat = ((rngI n.toNat).filter fun p => !decide (p ∈ row)).map fun p => row ++ [p] := by
  unfold moreO
  rw [List.take_of_length_le (by rw [rngI_len]; exact Nat.le_refl _)]
theorem rngI_take {n j : Nat} (h : j < n) : (rngI n).take (j + 1) = (rngI n).take j ++ [0 + (j : Int)] := by
  rw [List.take_succ]
  unfold rngI
  simp [h]
theorem moreO_succ {n : Int} {row : List Int} {j : Nat} (h : j < n.toNat) : moreO n row (j + 1) = moreO n row j ++ if 0 + (j : Int) ∈ row then [] else [row ++ [0 + (j : Int)]] := by
  unfold moreO
  rw [rngI_take h, List.filter_append, List.map_append]
  congr 1
  by_cases q : 0 + (j : Int) ∈ row
  · rw [if_pos q, List.filter_cons, if_neg (by simpa using q)]
    rfl
  · rw [if_neg q, List.filter_cons, if_pos (by simpa using q)]
    rfl
def partO (n : Int) (rows : List (List Int)) (i : Nat) : List (List Int) := (rows.take i).flatMap fun row => moreO n row n.toNat
theorem partO_succ {n : Int} {rows : List (List Int)} {i : Nat} {row : List Int} (h : rows[i]? = some row) : partO n rows (i + 1) = partO n rows i ++ moreO n row n.toNat := by
  unfold partO
  rw [List.take_succ, h, List.flatMap_append]
  simp
theorem partO_full {n : Int} {t : Nat} : partO n (ordZ n t) (ordZ n t).length = ordZ n (t + 1) := by
  unfold partO
  rw [List.take_of_length_le (Nat.le_refl _), ordZ]
  congr 1
  funext row
  exact moreO_full
theorem flatMap_take_le {n : Int} : ∀ (rows : List (List Int)) (i : Nat), (partO n rows i).length ≤ (rows.flatMap fun row => moreO n row n.toNat).length := by
  intro rows i
  unfold partO
  conv => rhs; rw [← List.take_append_drop i rows, List.flatMap_append, List.length_append]
  omega
theorem partO_len {n : Int} (h0 : 0 ≤ n) (h5 : n ≤ 5) {t i : Nat} (ht : t < 5) : (partO n (ordZ n t) i).length ≤ 3125 := by
  have h1 := flatMap_take_le (n := n) (ordZ n t) i
  have h2 : ((ordZ n t).flatMap fun row => moreO n row n.toNat) = ordZ n (t + 1) := by
    have := partO_full (n := n) (t := t)
    unfold partO at this
    rw [List.take_of_length_le (Nat.le_refl _)] at this
    exact this
  have h3 := ordZ_len h0 h5 (t + 1)
  have h4 : 5 ^ (t + 1) ≤ 5 ^ 5 := Nat.pow_le_pow_right (by omega) (by omega)
  rw [h2] at h1
  have h5 : 5 ^ 5 = 3125 := by decide
  omega
theorem moreO_len {n : Int} {row : List Int} {j : Nat} (h5 : n ≤ 5) : (moreO n row j).length ≤ 5 := by
  unfold moreO
  rw [List.length_map]
  have h1 := List.length_filter_le (fun p => !decide (p ∈ row)) ((rngI n.toNat).take j)
  have h2 : ((rngI n.toNat).take j).length ≤ (rngI n.toNat).length := by rw [List.length_take]; omega
  rw [rngI_len] at h2
  omega
theorem ordD_app {a b : List (List Int)} : ordD (a ++ b) = ordD a ++ ordD b := by
  unfold ordD
  rw [List.map_append]
theorem ordD_len {a : List (List Int)} : (ordD a).length = a.length := by
  unfold ordD
  rw [List.length_map]
theorem ordD_get {a : List (List Int)} {i : Nat} {x : PyData} (h : (ordD a)[i]? = some x) : ∃ row, a[i]? = some row ∧ x = .tuple (row.map PyData.int) := by
  unfold ordD at h
  rw [List.getElem?_map] at h
  cases q : a[i]? with
  | none => rw [q] at h; cases h
  | some row =>
    rw [q] at h
    exact ⟨row, rfl, (Option.some.inj h).symm⟩
def p__law_orders : List PyData → (PyData → Prop) → Prop := fun ds R => ∃ n : Int, ds = [.int n] ∧ 0 ≤ n ∧ n ≤ 5 ∧ R (.list (ordD (ordZ n n.toNat)))
theorem ok__law_orders (T : En K mg) : FnOk P w K mg base CX0 1 T.f__law_orders T.fd__law_orders ["many"] (Con K p__law_orders) := by
  refine fn_con T.F__law_orders sc__law_orders (fun ds R h => ?_) (fun cdv A outer s H E W ds R hr h => ?_)
  · obtain ⟨n, rfl, _⟩ := h
    rfl
  · obtain ⟨n, rfl, n0, n5, hR⟩ := h
    have szb : (6000 : Nat) < sizeLine := by decide
    refine ess_cons (es_set 1 ?_ sc__law_orders.nd)
    refine ev_el (el_lst ?_)
    refine ea_cons ?_
    refine ev_tup ?_
    refine ea_nil ⟨by walk_at "sz", ?_⟩
    refine ea_nil ⟨by walk_at "sz", ?_⟩
    refine ess_cons (es_for .never rfl ?_)
    refine ei_range1 T.n_range ?_
    refine ev_name 0 rfl ?_
    refine ⟨by omega, by omega, ?_⟩
    refine ⟨fun t ρ => ∃ a b c : Sl, ρ = [.im (.int n), .im (.list (ordD (ordZ n t))), a, b, c, .no], ⟨_, _, _, rfl⟩, fun t x ρ hx hP => ?_, fun ρ hP => ?_⟩
    · obtain ⟨_, _, _, rfl⟩ := hP
      have ht := (List.getElem?_eq_some_iff.mp hx).1
      rw [rngD_len] at ht
      refine tg_name 2 ?_ sc__law_orders.nd
      refine ess_weak [.im (.int n), .im (.list (ordD (ordZ n t))), .no, .no, .no, .no] (by walk_at "wk") ?_
      refine ess_cons (es_set 3 ?_ sc__law_orders.nd)
      refine ev_el (el_lst ?_)
      refine ea_nil ⟨by walk_at "sz", ?_⟩
      refine ess_cons (es_for .never rfl ?_)
      refine ei_list ?_
      refine ev_name 1 rfl ?_
      refine ⟨fun i ρ => ∃ c : Sl, ρ = [.im (.int n), .im (.list (ordD (ordZ n t))), .no, .im (.list (ordD (partO n (ordZ n t) i))), c, .no], ⟨_, rfl⟩, fun i x ρ hx hP => ?_, fun ρ hP => ?_⟩
      · obtain ⟨_, rfl⟩ := hP
        obtain ⟨row, hrow, rfl⟩ := ordD_get hx
        obtain ⟨r1, r2, r3⟩ := (ordZ_mem n0 t row).mp (List.mem_of_getElem? hrow)
        refine tg_name 4 ?_ sc__law_orders.nd
        refine ess_one (es_set 3 ?_ sc__law_orders.nd)
        refine ev_bin oz_add ?_
        refine ev_name 3 rfl ?_
        refine ev_el (el_lcI (own := [("place", 5)]) (gg_name 5) (fun _ _ _ _ _ => pg_name sc__law_orders.nd rfl (.inl rfl)) rfl sc__law_orders.nd (blkOk_by (N := ["many", "found", "turn", "longer", "row", "place"]) (sc := defScope s__law_orders) (by decide +kernel)) rfl ?_)
        refine ei_range1 T.n_range ?_
        refine ev_name 0 rfl ?_
        refine ⟨by omega, by omega, ?_⟩
        refine ⟨by rw [rngD_len]; exact Nat.le_trans (show n.toNat ≤ 10000 by omega) (by decide), fun j acc => acc = ordD (moreO n row j), rfl, fun j x acc hx ha _ => ⟨[x], rfl, ?_⟩, fun acc ha hlen => ?_⟩
        · have hj := (List.getElem?_eq_some_iff.mp hx).1
          rw [rngD_len] at hj
          rw [rngD_get hj] at hx
          cases hx
          subst ha
          rintro _ ⟨s', H', C, cl, fp, rfl⟩ W' _
          refine et_cmp oz_notInTI ?_
          refine ev_name 5 rfl ?_
          refine ev_name 4 rfl ?_
          refine ⟨_, _, rfl, rfl, ?_⟩
          refine dN (fun hq => ?_) fun hq => ?_
          · rintro _ ⟨s', H', C, cl, fp, rfl⟩ W' _
            refine ev_bin oz_add ?_
            refine ev_name 4 rfl ?_
            refine ev_tup ?_
            refine ea_cons ?_
            refine ev_name 5 rfl ?_
            refine ea_nil ⟨by walk_at "sz", ?_⟩
            refine ⟨?_, ?_⟩
            · rw [List.length_map]
              show row.length + 1 ≤ _
              omega
            · show ordD (moreO n row j) ++ [PyData.tuple (row.map PyData.int ++ [PyData.int (0 + (j : Nat))])] = ordD (moreO n row (j + 1))
              rw [moreO_succ hj, if_neg hq, ordD_app]
              unfold ordD
              rw [List.map_cons, List.map_append]
              rfl
          · show ordD (moreO n row j) = ordD (moreO n row (j + 1))
            rw [moreO_succ hj, if_pos hq, List.append_nil]
        · subst ha
          rw [rngD_len]
          have l1 := partO_len (i := i) n0 n5 (t := t) (by omega)
          have l2 := moreO_len (row := row) (j := n.toNat) n5
          refine ⟨?_, ?_⟩
          · rw [ordD_len, ordD_len]
            omega
          · refine ⟨.im (.tuple (row.map PyData.int)), ?_⟩
            rw [partO_succ hrow, ordD_app]
            rfl
      · obtain ⟨_, rfl⟩ := hP
        rw [ordD_len, partO_full]
        refine ess_one (es_set 1 ?_ sc__law_orders.nd)
        refine ev_name 3 rfl ?_
        exact ⟨_, _, _, rfl⟩
    · obtain ⟨_, _, _, rfl⟩ := hP
      rw [rngD_len]
      refine ess_one (es_ret ?_)
      refine ev_name 1 rfl ?_
      exact hR

-- NEEDS cuts
-- NEEDS runs
theorem bgs_none {r d l z p : Int} {ro : List Int} (hr : 0 < r) (hz : 0 ≤ z) (hl : 0 ≤ l) : isNn (optL (bgs r d l z 0 [] (ro ++ [p]))) = decide (l < endZ r d z 0 (ro ++ [p])) := by
  have h := isNone_z (d := d) (p := p) (ro := ro) hr hz hl
  have h2 := bgs_end (d := d) hr hz 0 [] (ro ++ [p]) hl
  cases q : bgs r d l z 0 [] (ro ++ [p]) with
  | none =>
    rw [q] at h2
    rw [← h2]
    rfl
  | some acc =>
    rw [q] at h2
    rw [← h2]
    rfl
theorem take_snoc {o : List Int} {i : Nat} {p : Int} (h : o[i]? = some p) : o.take (i + 1) = o.take i ++ [p] := by
  rw [List.take_succ, h]
  rfl
def p__law_cut : List PyData → (PyData → Prop) → Prop := fun ds R => ∃ (r d l z : Int) (o : List Int), ds = [pap r d l, .int z, .tuple (o.map PyData.int)] ∧ POk r d l ∧ 1 ≤ z ∧ o.length ≤ 1000 ∧ R (.int (cutN r d l z o : Nat))
theorem ok__law_cut (T : En K mg) : FnOk P w K mg base CX0 4 T.f__law_cut T.fd__law_cut ["kind", "size", "order"] (Con K p__law_cut) := by
  refine fn_con T.F__law_cut sc__law_cut (fun ds R h => ?_) (fun cdv A outer s H E W ds R hr h => ?_)
  · obtain ⟨r, d, l, z, o, rfl, _⟩ := h
    rfl
  · obtain ⟨r, d, l, z, o, rfl, hp, z1, o1, hR⟩ := h
    obtain ⟨⟨h1, h2⟩, ⟨h3, h4⟩, h5, h6⟩ := id hp
    have szb : (6000 : Nat) < sizeLine := by decide
    refine ess_cons (es_asg ?_)
    refine ev_tup ?_
    refine ea_cons ?_
    refine ev_int ?_
    refine ea_cons ?_
    refine ev_tup ?_
    refine ea_nil ⟨by walk_at "sz", ?_⟩
    refine ea_nil ⟨by walk_at "sz", ?_⟩
    refine tg_tup rfl (tgs_name 3 (tgs_name 4 (tgs_nil ?_) sc__law_cut.nd) sc__law_cut.nd)
    refine ess_cons (es_for .never rfl ?_)
    refine ei_tup ?_
    refine ev_name 2 rfl ?_
    refine ⟨fun i ρ => ∃ (a : Sl) (rs : List (List Int)) (ro : List Int), cutZ r d l z (o.take i) ([], []) = (rs, ro) ∧ rs.length ≤ i ∧ ro.length ≤ i ∧ ρ = [.im (pap r d l), .im (.int z), .im (.tuple (o.map PyData.int)), .im (.int (cN (rs, ro) : Nat)), .im (.tuple (ro.map PyData.int)), a], ⟨_, [], [], rfl, Nat.le_refl _, Nat.le_refl _, rfl⟩, fun i x ρ hx hP => ?_, fun ρ hP => ?_⟩
    · obtain ⟨_, rs, ro, hc, l1, l2, rfl⟩ := hP
      obtain ⟨p, hop, rfl⟩ : ∃ p, o[i]? = some p ∧ x = .int p := by
        rw [List.getElem?_map] at hx
        cases q : o[i]? with
        | none => rw [q] at hx; cases hx
        | some p =>
          rw [q] at hx
          exact ⟨p, rfl, (Option.some.inj hx).symm⟩
      have hi := (List.getElem?_eq_some_iff.mp hop).1
      have hc2 : cutZ r d l z (o.take (i + 1)) ([], []) = cutZ r d l z [p] (rs, ro) := by rw [take_snoc hop, cutZ_app, hc]
      rw [cutZ_one] at hc2
      refine tg_name 5 ?_ sc__law_cut.nd
      refine ess_cons (es_if ?_)
      refine et_ew (ew_or ?_)
      refine et_cmp (oz_eqD (zu hr)) ?_
      refine ev_name 4 rfl ?_
      refine ev_tup ?_
      refine ea_nil ⟨by walk_at "sz", ?_⟩
      refine ⟨(sim_intsT (n := 0) (by omega)).shaped (by decide), by decide, ?_⟩
      have e : PyData.eqv (.tuple (ro.map PyData.int)) (.tuple []) = decide (ro = []) := by
        have := eqv_intsT (ns := ro) (ms := [])
        exact this
      rw [e]
      refine dB (fun hq => ?_) fun hq => ?_
      · subst hq
        rw [if_pos rfl] at hc2
        refine yesT ?_
        refine ess_one (es_par 3 4 ?_ rfl sc__law_cut.nd)
        refine ea_cons ?_
        refine ev_bin oz_add ?_
        refine ev_name 3 rfl ?_
        refine ev_int ?_
        refine ea_cons ?_
        refine ev_tup ?_
        refine ea_nil ⟨by walk_at "sz", ?_⟩
        refine ea_nil ?_
        refine ess_one (es_set 4 ?_ sc__law_cut.nd)
        refine ev_bin oz_add ?_
        refine ev_name 4 rfl ?_
        refine ev_tup ?_
        refine ea_cons ?_
        refine ev_name 5 rfl ?_
        refine ea_nil ⟨by walk_at "sz", ?_⟩
        refine ⟨by show 0 + 1 ≤ _; omega, ?_⟩
        exact ⟨_, rs, [p], hc2, by omega, by show 1 ≤ _; omega, rfl⟩
      · rw [if_neg hq] at hc2
        refine ew_or1 ?_
        refine et_isN ?_
        refine ev_call (ok__law_begins T) hr T.g__law_begins T.F__law_begins.kp T.b__law_begins ?_
        refine ea_cons ?_
        refine ev_name 0 rfl ?_
        refine ea_cons ?_
        refine ev_name 1 rfl ?_
        refine ea_cons ?_
        refine ev_bin oz_add ?_
        refine ev_name 4 rfl ?_
        refine ev_tup ?_
        refine ea_cons ?_
        refine ev_name 5 rfl ?_
        refine ea_nil ⟨by walk_at "sz", ?_⟩
        refine ⟨?_, ?_⟩
        · rw [List.length_map]
          show ro.length + 1 ≤ _
          omega
        refine ea_nil ⟨_, _, _, _, ro ++ [p], _, rfl, .inl (by rw [List.map_append]; rfl), hp, by rw [List.length_append]; show ro.length + 1 ≤ _; omega, ?_⟩
        have hbn := bgs_none (r := r) (d := d) (l := l) (z := z) (p := p) (ro := ro) (by omega) (by omega) (by omega)
        dsimp only
        rw [hbn]
        have ec : cN (rs, ro) = rs.length + 1 := by
          show rs.length + (if ro = [] then 0 else 1) = _
          rw [if_neg hq]
        refine dB (fun hl => ?_) fun hl => ?_
        · rw [if_pos hl] at hc2
          refine ess_one (es_par 3 4 ?_ rfl sc__law_cut.nd)
          refine ea_cons ?_
          refine ev_bin oz_add ?_
          refine ev_name 3 rfl ?_
          refine ev_int ?_
          refine ea_cons ?_
          refine ev_tup ?_
          refine ea_nil ⟨by walk_at "sz", ?_⟩
          refine ea_nil ?_
          refine ess_one (es_set 4 ?_ sc__law_cut.nd)
          refine ev_bin oz_add ?_
          refine ev_name 4 rfl ?_
          refine ev_tup ?_
          refine ea_cons ?_
          refine ev_name 5 rfl ?_
          refine ea_nil ⟨by walk_at "sz", ?_⟩
          refine ⟨by show 0 + 1 ≤ _; omega, ?_⟩
          have e1 : cN (rs ++ [ro], [p]) = cN (rs, ro) + 1 := by
            rw [ec]
            show (rs ++ [ro]).length + 1 = _
            rw [List.length_append]
            rfl
          refine ⟨.im (.int p), rs ++ [ro], [p], hc2, by rw [List.length_append]; show rs.length + 1 ≤ _; omega, by show 1 ≤ _; omega, ?_⟩
          rw [e1]
          rfl
        · rw [if_neg hl] at hc2
          refine ess_nil ?_
          refine ess_one (es_set 4 ?_ sc__law_cut.nd)
          refine ev_bin oz_add ?_
          refine ev_name 4 rfl ?_
          refine ev_tup ?_
          refine ea_cons ?_
          refine ev_name 5 rfl ?_
          refine ea_nil ⟨by walk_at "sz", ?_⟩
          refine ⟨?_, ?_⟩
          · rw [List.length_map]
            show ro.length + 1 ≤ _
            omega
          have e1 : cN (rs, ro ++ [p]) = cN (rs, ro) := by
            rw [ec]
            show rs.length + (if ro ++ [p] = [] then 0 else 1) = _
            rw [if_neg (by simp)]
          refine ⟨.im (.int p), rs, ro ++ [p], hc2, by omega, by rw [List.length_append]; show ro.length + 1 ≤ _; omega, ?_⟩
          rw [e1, List.map_append]
          rfl
    · obtain ⟨_, rs, ro, hc, l1, l2, rfl⟩ := hP
      rw [List.length_map, List.take_of_length_le (Nat.le_refl _)] at hc
      refine ess_one (es_ret ?_)
      refine ev_name 3 rfl ?_
      unfold cutN at hR
      rw [hc] at hR
      exact hR

-- NEEDS cuts
-- NEEDS sim
-- NEEDS anyd
-- NEEDS counts
-- NEEDS rows
theorem len_flat {rs : List (List Int)} {o : List Int} (h : o ∈ rs) : o.length ≤ rs.flatten.length := by
  obtain ⟨a, b, rfl⟩ := List.append_of_mem h
  rw [List.flatten_append, List.flatten_cons, List.length_append, List.length_append]
  omega
theorem an_plan {r d l z n : Int} {rs : List (List Int)} (h9 : n ≤ 9) (h : BestP r d l z n rs) : An 50 1000 (planD rs) := by
  have h1 := h.perm.length_eq
  rw [rngI_len] at h1
  have h2 := flat_ge fun o ho => List.length_pos_iff.mpr (h.each o ho).1
  refine ⟨by rw [List.length_map]; omega, fun x hx => ?_⟩
  obtain ⟨o, ho, rfl⟩ := List.mem_map.mp hx
  have h3 := len_flat ho
  refine ⟨by rw [List.length_map]; omega, fun y hy => ?_⟩
  obtain ⟨i, _, rfl⟩ := List.mem_map.mp hy
  exact an_int
theorem allP_allC {r d l z n : Int} (hr : 0 < r) (h0 : 0 ≤ n) : allP r d l z n.toNat = allC r d l z n := by
  have key : allP r d l z n.toNat = true ↔ allC r d l z n = true := by
    constructor
    · intro h
      unfold allP at h
      rw [List.all_eq_true] at h
      refine allC_mem fun p p0 p1 => ?_
      have := of_decide_eq_true (h p.toNat (List.mem_range.mpr (by omega)))
      have e : ((p.toNat : Nat) : Int) = p := by omega
      rw [e] at this
      exact this
    · intro h
      unfold allP
      rw [List.all_eq_true]
      intro p hp
      have := List.mem_range.mp hp
      exact decide_eq_true (allC_at hr h (by omega) (by omega))
  cases q1 : allP r d l z n.toNat <;> cases q2 : allC r d l z n <;> rw [q1, q2] at key <;> simp at key ⊢
theorem best_nil {r d l z : Int} {rs : List (List Int)} (h : BestP r d l z 0 rs) : rs = [] := by
  have h1 := h.perm.length_eq
  have h2 := flat_ge fun o ho => List.length_pos_iff.mpr (h.each o ho).1
  rw [rngI_len] at h1
  exact List.length_eq_zero_iff.mp (by omega)
theorem all_0 : allC 64 32 1050 250 0 = true := by decide +kernel
theorem ok_law (T : En K mg) {f : Addr} {fd : FuncData} (F : Fun K "law" "law" s_law f fd) : FnOk P w K mg base CX0 7 f fd ["script"] (spLaw K) := by
  refine fn_law 1 F sc_law T.n_list rfl rfl rfl (.inl rfl) (.inl rfl) rfl (by decide) fun cdv A outer s H E W hr hns => ?_
  refine ess_cons (es_for .never rfl ?_)
  refine ei_range1 T.n_range ?_
  refine ev_int ?_
  refine ⟨by omega, by omega, ?_⟩
  refine ⟨fun i ρ => ∃ a b c d e f g : Sl, ρ = [.no, .tape, a, b, c, d, e, f, g, .no, .no, .no], ⟨_, _, _, _, _, _, _, rfl⟩, fun i x ρ hx hP => ?_, fun ρ hP => ?_⟩
  · obtain ⟨_, _, _, _, _, _, _, rfl⟩ := hP
    refine tg_name 2 ?_ sc_law.nd
    refine ess_weak [.no, .tape, .no, .no, .no, .no, .no, .no, .no, .no, .no, .no] (by walk_at "wk") ?_
    refine ess_cons (es_set 3 ?_ sc_law.nd)
    refine ev_callT 1 rfl (ok__law_numbers T) (hr.mono (by decide)) T.g__law_numbers T.F__law_numbers.kp T.b__law_numbers ?_
    refine ea_cons ?_
    refine ev_int ?_
    refine ea_cons ?_
    refine ev_int ?_
    refine ea_nil ⟨_, _, rfl, by decide, by decide, fun r d l ra rb da db la lb => ?_⟩
    have hp : POk r d l := ⟨⟨ra, by omega⟩, ⟨da, db⟩, la, by omega⟩
    have hr0 : 0 < r := by omega
    refine ess_cons (es_asg ?_)
    refine ev_tup ?_
    refine ea_cons ?_
    refine ev_max2 rfl T.n_max ?_
    refine ev_int ?_
    refine ev_bin oz_div ?_
    refine ev_ix ?_
    refine ev_name 3 rfl ?_
    refine ev_int ?_
    refine ⟨_, rfl, ?_⟩
    refine ev_bin oz_add ?_
    refine ev_int ?_
    refine ev_callT 1 rfl (ok__law_draw T) (hr.mono (by decide)) T.g__law_draw T.F__law_draw.kp T.b__law_draw ?_
    refine ea_cons ?_
    refine ev_int ?_
    refine ea_nil ⟨_, rfl, by walk_at "zs", by walk_at "zs", fun y ya yb => ?_⟩
    refine ⟨divs (by omega) (by omega), ?_⟩
    intro m ma mb mc
    refine ea_cons ?_
    refine ev_callT 1 rfl (ok__law_draw T) (hr.mono (by decide)) T.g__law_draw T.F__law_draw.kp T.b__law_draw ?_
    refine ea_cons ?_
    refine ev_int ?_
    refine ea_nil ⟨_, rfl, by walk_at "zs", by walk_at "zs", fun n na nb => ?_⟩
    refine ea_nil ⟨by walk_at "sz", ?_⟩
    refine tg_tup rfl (tgs_name 4 (tgs_name 5 (tgs_nil ?_) sc_law.nd) sc_law.nd)
    refine ess_cut (fun ρ => ∃ z : Int, 1 ≤ z ∧ z ≤ l ∧ ρ = [.no, .tape, .no, .im (pap r d l), .im (.int z), .im (.int n), .no, .no, .no, .no, .no, .no]) (es_if ?_) ?_
    · refine et_cmp oz_gt ?_
      refine ev_name 4 rfl ?_
      refine ev_ix ?_
      refine ev_name 3 rfl ?_
      refine ev_int ?_
      refine ⟨_, rfl, ?_⟩
      refine dB (fun hq => ?_) fun hq => ess_nil ⟨m, by omega, by omega, rfl⟩
      refine ess_one (es_set 4 ?_ sc_law.nd)
      refine ev_ix ?_
      refine ev_name 3 rfl ?_
      refine ev_int ?_
      refine ⟨_, rfl, ?_⟩
      exact ⟨l, la, Int.le_refl _, rfl⟩
    rintro _ ⟨z, z1, z2, rfl⟩
    have hz0 : 0 ≤ z := by omega
    cases hac : allC r d l z n with
    | false =>
      refine ess_cons (es_par 6 7 ?_ rfl sc_law.nd)
      refine ea_cons ?_
      refine ev_call (ok_fewest_rolls T) (hr.mono (by decide)) T.g_fewest_rolls T.F_fewest_rolls.kp T.b_fewest_rolls ?_
      refine ea_cons ?_
      refine ev_name 3 rfl ?_
      refine ea_cons ?_
      refine ev_name 4 rfl ?_
      refine ea_cons ?_
      refine ev_name 5 rfl ?_
      refine ea_nil ⟨_, _, _, _, _, rfl, hp, ⟨z1, by omega⟩, ⟨by omega, by omega⟩, fun _ => ?_, fun h => (by rw [hac] at h; cases h)⟩
      refine ea_cons ?_
      refine ev_call (ok_best_plan T) (hr.mono (by decide)) T.g_best_plan T.F_best_plan.kp T.b_best_plan ?_
      refine ea_cons ?_
      refine ev_name 3 rfl ?_
      refine ea_cons ?_
      refine ev_name 4 rfl ?_
      refine ea_cons ?_
      refine ev_name 5 rfl ?_
      refine ea_nil ⟨_, _, _, _, _, rfl, hp, ⟨z1, by omega⟩, ⟨by omega, by omega⟩, fun _ => ?_, fun h => (by rw [hac] at h; cases h)⟩
      refine ea_nil ?_
      refine ess_one (es_if ?_)
      refine et_cmp (oz_neD (zu hr)) ?_
      refine ev_el (el_lcI (own := [("place", 9)]) (gg_name 9) (fun _ _ _ _ _ => pg_name sc_law.nd rfl (.inl rfl)) rfl sc_law.nd (blkOk_by (N := ["script", "tape", "turn", "kind", "size", "number", "told", "plan", "due", "place", "order", "roll"]) (sc := defScope s_law) (by decide +kernel)) rfl ?_)
      refine ei_range1 T.n_range ?_
      refine ev_name 5 rfl ?_
      refine ⟨by omega, by omega, ?_⟩
      refine ⟨by rw [rngD_len]; exact Nat.le_trans (show n.toNat ≤ 10000 by omega) (by decide), fun i acc => ∃ ns : List Int, acc = ns.map PyData.int ∧ ns.length ≤ i ∧ decide (ns = []) = allP r d l z i, ⟨[], rfl, Nat.le_refl _, rfl⟩, fun i x acc hx ha _ => ⟨[x], rfl, ?_⟩, fun acc ha hlen => ?_⟩
      · have hi := (List.getElem?_eq_some_iff.mp hx).1
        rw [rngD_len] at hi
        rw [rngD_get hi] at hx
        cases hx
        obtain ⟨ns, rfl, hn, he⟩ := ha
        have e0 : (0 : Int) + (i : Nat) = (i : Nat) := by omega
        rw [e0]
        rintro _ ⟨s', H', C, cl, fp, rfl⟩ W' _
        refine et_cmp oz_gt ?_
        refine ev_bin oz_add ?_
        refine ev_call (ok__law_phase T) (hr.mono (by decide)) T.g__law_phase T.F__law_phase.kp T.b__law_phase ?_
        refine ea_cons ?_
        refine ev_name 3 rfl ?_
        refine ea_cons ?_
        refine ev_name 9 rfl ?_
        refine ea_nil ⟨_, _, _, _, rfl, by walk_at "pre", ?_⟩
        refine ev_name 4 rfl ?_
        refine ev_ix ?_
        refine ev_name 3 rfl ?_
        refine ev_int ?_
        refine ⟨_, rfl, ?_⟩
        refine dB (fun hz => ?_) fun hz => ?_
        · rintro _ ⟨s', H', C, cl, fp, rfl⟩ W' _
          refine ev_name 9 rfl ?_
          refine ⟨ns ++ [(i : Int)], by rw [List.map_append]; rfl, by rw [List.length_append]; exact Nat.add_le_add_right hn 1, ?_⟩
          rw [allP_succ, decide_eq_false (show ¬ ((i : Nat) : Int) * d % r + z ≤ l by omega), Bool.and_false]
          simp
        · refine ⟨ns, rfl, Nat.le_succ_of_le hn, ?_⟩
          rw [allP_succ, decide_eq_true (show ((i : Nat) : Int) * d % r + z ≤ l by omega), Bool.and_true, he]
      obtain ⟨ns, rfl, hn, he⟩ := ha
      rw [rngD_len] at he hn
      rw [allP_allC hr0 (by omega), hac] at he
      refine ev_el (el_lst ?_)
      refine ea_nil ⟨by walk_at "sz", ?_⟩
      refine ⟨(sim_ints (n := 0) (by omega)).shaped (by decide), by decide, ?_⟩
      have e : PyData.eqv (.list (ns.map PyData.int)) (.list []) = false := by
        rw [← he]
        exact eqv_ints (ns := ns) (ms := [])
      rw [e]
      refine yesT ?_
      refine ess_one (es_if ?_)
      refine et_ew (ew_or ?_)
      refine et_notN ?_
      refine ev_name 6 rfl ?_
      refine noF ?_
      refine ew_or1 ?_
      refine et_notN ?_
      refine ev_name 7 rfl ?_
      exact noF (ess_nil ⟨_, _, _, _, _, _, _, rfl⟩)
    | true =>
      have hfit : ∀ p : Int, 0 ≤ p → p < n → p * d % r + z ≤ l := fun p p0 p1 => allC_at hr0 hac p0 p1
      refine ess_cons (es_par 6 7 ?_ rfl sc_law.nd)
      refine ea_cons ?_
      refine ev_call (ok_fewest_rolls T) (hr.mono (by decide)) T.g_fewest_rolls T.F_fewest_rolls.kp T.b_fewest_rolls ?_
      refine ea_cons ?_
      refine ev_name 3 rfl ?_
      refine ea_cons ?_
      refine ev_name 4 rfl ?_
      refine ea_cons ?_
      refine ev_name 5 rfl ?_
      refine ea_nil ⟨_, _, _, _, _, rfl, hp, ⟨z1, by omega⟩, ⟨by omega, by omega⟩, fun h => (by rw [hac] at h; cases h), fun _ rs hb => ?_⟩
      refine ea_cons ?_
      refine ev_call (ok_best_plan T) (hr.mono (by decide)) T.g_best_plan T.F_best_plan.kp T.b_best_plan ?_
      refine ea_cons ?_
      refine ev_name 3 rfl ?_
      refine ea_cons ?_
      refine ev_name 4 rfl ?_
      refine ea_cons ?_
      refine ev_name 5 rfl ?_
      refine ea_nil ⟨_, _, _, _, _, rfl, hp, ⟨z1, by omega⟩, ⟨by omega, by omega⟩, fun h => (by rw [hac] at h; cases h), fun _ rs2 hb2 => ?_⟩
      refine ea_nil ?_
      have hpd : planD rs2 = .tuple (ordD rs2) := rfl
      have hll := hb.len hb2
      refine ess_one (es_if ?_)
      refine et_cmp (oz_neD (zu hr)) ?_
      refine ev_el (el_lcI (own := [("place", 9)]) (gg_name 9) (fun _ _ _ _ _ => pg_name sc_law.nd rfl (.inl rfl)) rfl sc_law.nd (blkOk_by (N := ["script", "tape", "turn", "kind", "size", "number", "told", "plan", "due", "place", "order", "roll"]) (sc := defScope s_law) (by decide +kernel)) rfl ?_)
      refine ei_range1 T.n_range ?_
      refine ev_name 5 rfl ?_
      refine ⟨by omega, by omega, ?_⟩
      refine ⟨by rw [rngD_len]; exact Nat.le_trans (show n.toNat ≤ 10000 by omega) (by decide), fun i acc => acc = [], rfl, fun i x acc hx ha _ => ⟨[x], rfl, ?_⟩, fun acc ha hlen => ?_⟩
      · have hi := (List.getElem?_eq_some_iff.mp hx).1
        rw [rngD_len] at hi
        rw [rngD_get hi] at hx
        cases hx
        subst ha
        have e0 : (0 : Int) + (i : Nat) = (i : Nat) := by omega
        rw [e0]
        have hfi := hfit (i : Nat) (by omega) (by omega)
        rintro _ ⟨s', H', C, cl, fp, rfl⟩ W' _
        refine et_cmp oz_gt ?_
        refine ev_bin oz_add ?_
        refine ev_call (ok__law_phase T) (hr.mono (by decide)) T.g__law_phase T.F__law_phase.kp T.b__law_phase ?_
        refine ea_cons ?_
        refine ev_name 3 rfl ?_
        refine ea_cons ?_
        refine ev_name 9 rfl ?_
        refine ea_nil ⟨_, _, _, _, rfl, by walk_at "pre", ?_⟩
        refine ev_name 4 rfl ?_
        refine ev_ix ?_
        refine ev_name 3 rfl ?_
        refine ev_int ?_
        refine ⟨_, rfl, ?_⟩
        refine dB (fun hz => ?_) fun hz => rfl
        exfalso
        omega
      subst ha
      refine ev_el (el_lst ?_)
      refine ea_nil ⟨by walk_at "sz", ?_⟩
      refine ⟨by decide, by decide, ?_⟩
      refine noF ?_
      refine ess_cons (es_set 8 ?_ sc_law.nd)
      refine ev_minL rfl T.n_min ?_
      refine ev_el (el_lc (own := [("order", 10)]) (gg_name 10) (fun _ _ _ _ _ => pg_name sc_law.nd rfl (.inl rfl)) rfl sc_law.nd (blkOk_by (N := ["script", "tape", "turn", "kind", "size", "number", "told", "plan", "due", "place", "order", "roll"]) (sc := defScope s_law) (by decide +kernel)) rfl ?_)
      refine ei_list ?_
      refine ev_call (ok__law_orders T) (hr.mono (by decide)) T.g__law_orders T.F__law_orders.kp T.b__law_orders ?_
      refine ea_cons ?_
      refine ev_name 5 rfl ?_
      refine ea_nil ⟨n, rfl, by omega, by omega, ?_⟩
      have hol := ordZ_len (n := n) (by omega) (by omega) n.toNat
      have hpow : 5 ^ n.toNat ≤ 5 ^ 5 := Nat.pow_le_pow_right (by omega) (by omega)
      have e5 : 5 ^ 5 = 3125 := by decide
      refine ⟨by rw [ordD_len]; exact Nat.le_trans (show _ ≤ 10000 by omega) (by decide), fun i acc => acc = (((ordZ n n.toNat).take i).map fun o => (cutN r d l z o : Int)).map PyData.int, rfl, fun i x acc hx ha _ => ⟨[x], rfl, ?_⟩, fun acc ha hlen => ?_⟩
      · obtain ⟨o, ho, rfl⟩ := ordD_get hx
        obtain ⟨o1, o2, o3⟩ := (ordZ_mem (by omega) _ o).mp (List.mem_of_getElem? ho)
        subst ha
        rintro _ ⟨s', H', C, cl, fp, rfl⟩ W' _
        refine ev_call (ok__law_cut T) (hr.mono (by decide)) T.g__law_cut T.F__law_cut.kp T.b__law_cut ?_
        refine ea_cons ?_
        refine ev_name 3 rfl ?_
        refine ea_cons ?_
        refine ev_name 4 rfl ?_
        refine ea_cons ?_
        refine ev_name 10 rfl ?_
        refine ea_nil ⟨_, _, _, _, _, rfl, hp, z1, by omega, ?_⟩
        show _ = (((ordZ n n.toNat).take (i + 1)).map fun o => (cutN r d l z o : Int)).map PyData.int
        rw [List.take_succ, ho, List.map_append, List.map_append]
        rfl
      subst ha
      rw [ordD_len, List.take_of_length_le (Nat.le_refl _)]
      have hmem : rs.flatten ∈ ordZ n n.toNat := (ordZ_all (by omega)).mpr hb.perm
      refine ⟨_, rfl, ?_, fun m hm hle => ?_⟩
      · rw [List.length_map]
        exact List.length_pos_of_mem hmem
      have hm2 : m = (rs.length : Int) := by
        have t1 := hle _ (List.mem_map_of_mem hmem)
        have t2 := hb.cut_ge hr0 hz0
        obtain ⟨o, ho, rfl⟩ := List.mem_map.mp hm
        have hpo := (ordZ_all (by omega)).mp ho
        have t3 := hb.cut_le hpo fun p hp => by
          obtain ⟨p0, p1⟩ := rngI_inr (by omega) p (hpo.mem_iff.mp hp)
          show nxt r d 0 p + z ≤ l
          rw [nxt_zero]
          exact hfit p p0 p1
        have t1 : (cutN r d l z o : Int) ≤ (cutN r d l z rs.flatten : Int) := t1
        omega
      subst hm2
      refine ess_cons (es_if ?_)
      refine et_ew (ew_or ?_)
      refine et_not (et_val ?_)
      refine ev_call (ok__law_like T) hr T.g__law_like T.F__law_like.kp T.b__law_like ?_
      refine ea_cons ?_
      refine ev_name 6 rfl ?_
      refine ea_cons ?_
      refine ev_name 8 rfl ?_
      refine ea_nil ⟨_, rfl, sim_int, ?_⟩
      refine noF ?_
      refine ew_or ?_
      refine et_notTrue ?_
      refine ev_call (ok_is_plan T) (hr.mono (by decide)) T.g_is_plan T.F_is_plan.kp T.b_is_plan ?_
      refine ea_cons ?_
      refine ev_name 3 rfl ?_
      refine ea_cons ?_
      refine ev_name 4 rfl ?_
      refine ea_cons ?_
      refine ev_name 5 rfl ?_
      refine ea_cons ?_
      refine ev_name 7 rfl ?_
      refine ea_nil ⟨_, _, _, _, _, _, rfl, hp, by omega, by omega, an_plan (by omega) hb2, ?_⟩
      rw [hb2.plan na]
      refine noF ?_
      refine ew_or1 ?_
      refine et_cmp oz_ne ?_
      refine ev_len T.n_len ?_
      refine ev_name 7 rfl ?_
      rw [hpd]
      unfold Z.rLen
      refine ev_name 8 rfl ?_
      refine dN (fun hq => ?_) fun _ => ess_nil ?_
      · exfalso
        rw [ordD_len] at hq
        exact hq (by rw [hll])
      refine ess_one (es_if ?_)
      refine et_cmp (oz_neD (zu hr)) ?_
      refine ev_el (el_lcI (own := [("roll", 11)]) (gg_name 11) (fun _ _ _ _ _ => pg_name sc_law.nd rfl (.inl rfl)) rfl sc_law.nd (blkOk_by (N := ["script", "tape", "turn", "kind", "size", "number", "told", "plan", "due", "place", "order", "roll"]) (sc := defScope s_law) (by decide +kernel)) rfl ?_)
      refine ei_tup ?_
      refine ev_name 7 rfl ?_
      have hfl := hb2.perm.length_eq
      rw [rngI_len] at hfl
      have hfg := flat_ge fun o ho => List.length_pos_iff.mpr (hb2.each o ho).1
      refine ⟨by rw [ordD_len]; exact Nat.le_trans (show _ ≤ 10000 by omega) (by decide), fun i acc => acc = [], rfl, fun i x acc hx ha _ => ⟨[x], rfl, ?_⟩, fun acc ha hlen => ?_⟩
      · subst ha
        obtain ⟨o, ho, rfl⟩ := ordD_get hx
        have hom := List.mem_of_getElem? ho
        have hol := len_flat hom
        have hbg : bgs r d l z 0 [] o = some (bgz r d z 0 o) := by
          rw [bgs_z hr0 hz0 0 [] o (by omega), if_neg (by have := (hb2.each o hom).2; omega)]
          rfl
        rintro _ ⟨s', H', C, cl, fp, rfl⟩ W' _
        refine et_isN ?_
        refine ev_call (ok__law_begins T) (hr.mono (by decide)) T.g__law_begins T.F__law_begins.kp T.b__law_begins ?_
        refine ea_cons ?_
        refine ev_name 3 rfl ?_
        refine ea_cons ?_
        refine ev_name 4 rfl ?_
        refine ea_cons ?_
        refine ev_name 11 rfl ?_
        refine ea_nil ⟨_, _, _, _, _, _, rfl, .inl rfl, hp, by omega, ?_⟩
        rw [hbg]
        exact noF rfl
      subst ha
      refine ev_el (el_lst ?_)
      refine ea_nil ⟨by walk_at "sz", ?_⟩
      refine ⟨by decide, by decide, ?_⟩
      exact noF (ess_nil ⟨_, _, _, _, _, _, _, rfl⟩)
  · obtain ⟨_, _, _, _, _, _, _, rfl⟩ := hP
    have hp : POk 64 32 1050 := ⟨⟨by decide, by decide⟩, ⟨by decide, by decide⟩, by decide, by decide⟩
    refine ess_one (es_ret ?_)
    refine ev_and ?_
    refine ev_cmp oz_eq ?_
    refine ev_call (ok_fewest_rolls T) (hr.mono (by decide)) T.g_fewest_rolls T.F_fewest_rolls.kp T.b_fewest_rolls ?_
    refine ea_cons ?_
    refine ev_tup ?_
    refine ea_cons ?_
    refine ev_int ?_
    refine ea_cons ?_
    refine ev_int ?_
    refine ea_cons ?_
    refine ev_int ?_
    refine ea_nil ⟨by walk_at "sz", ?_⟩
    refine ea_cons ?_
    refine ev_int ?_
    refine ea_cons ?_
    refine ev_int ?_
    refine ea_nil ⟨_, _, _, _, _, rfl, hp, ⟨by decide, by decide⟩, ⟨by decide, by decide⟩, fun h => (by rw [all_0] at h; cases h), fun _ rs hb => ?_⟩
    have e := best_nil hb
    subst e
    refine ev_int ?_
    refine dB (fun _ => ?_) fun hq => absurd rfl hq
    refine ev_one ?_
    refine ev_cmp (oz_eqD (zu hr)) ?_
    refine ev_call (ok_best_plan T) (hr.mono (by decide)) T.g_best_plan T.F_best_plan.kp T.b_best_plan ?_
    refine ea_cons ?_
    refine ev_tup ?_
    refine ea_cons ?_
    refine ev_int ?_
    refine ea_cons ?_
    refine ev_int ?_
    refine ea_cons ?_
    refine ev_int ?_
    refine ea_nil ⟨by walk_at "sz", ?_⟩
    refine ea_cons ?_
    refine ev_int ?_
    refine ea_cons ?_
    refine ev_int ?_
    refine ea_nil ⟨_, _, _, _, _, rfl, hp, ⟨by decide, by decide⟩, ⟨by decide, by decide⟩, fun h => (by rw [all_0] at h; cases h), fun _ rs hb => ?_⟩
    have e := best_nil hb
    subst e
    refine ev_tup ?_
    refine ea_nil ⟨by walk_at "sz", ?_⟩
    exact ⟨by decide, by decide, rfl⟩

end
theorem all_mk {l : PySem.W.OpenLaw} {w : World} {K : PySem.W.Frag} {h : Heap} {mg : Str → Option Value} {fa : Addr} (X : K.In h) (G : h.Ns mainGlobals mg) (hfa : mg "law" = some (.ref fa))
    {f0 : Addr} {od0 an0 : Option Addr} {sl0 : Array (Option Value)} {oc0 kV0 dc0 pm0 cd0 ct0 : Value}
    (a0 : PySem.W.nsIn K mainGlobals "is_integer" = some (some (.ref f0))) (l0 : K.lookup f0 = some ⟨oc0, od0, .func (PySem.W.fnOf "is_integer" "is_integer" (defArgs s_is_integer) (defBody s_is_integer) (defScope s_is_integer) .none kV0 dc0 pm0 an0 cd0 ct0), sl0⟩) (c0 : PySem.W.codeIn K cd0 "is_integer" = true) (k0 : PySem.W.keepIn K (.ref f0) = true)
    {f1 : Addr} {od1 an1 : Option Addr} {sl1 : Array (Option Value)} {oc1 kV1 dc1 pm1 cd1 ct1 : Value}
    (a1 : PySem.W.nsIn K mainGlobals "phase" = some (some (.ref f1))) (l1 : K.lookup f1 = some ⟨oc1, od1, .func (PySem.W.fnOf "phase" "phase" (defArgs s_phase) (defBody s_phase) (defScope s_phase) .none kV1 dc1 pm1 an1 cd1 ct1), sl1⟩) (c1 : PySem.W.codeIn K cd1 "phase" = true) (k1 : PySem.W.keepIn K (.ref f1) = true)
    {f2 : Addr} {od2 an2 : Option Addr} {sl2 : Array (Option Value)} {oc2 kV2 dc2 pm2 cd2 ct2 : Value}
    (a2 : PySem.W.nsIn K mainGlobals "can_cut" = some (some (.ref f2))) (l2 : K.lookup f2 = some ⟨oc2, od2, .func (PySem.W.fnOf "can_cut" "can_cut" (defArgs s_can_cut) (defBody s_can_cut) (defScope s_can_cut) .none kV2 dc2 pm2 an2 cd2 ct2), sl2⟩) (c2 : PySem.W.codeIn K cd2 "can_cut" = true) (k2 : PySem.W.keepIn K (.ref f2) = true)
    {f3 : Addr} {od3 an3 : Option Addr} {sl3 : Array (Option Value)} {oc3 kV3 dc3 pm3 cd3 ct3 : Value}
    (a3 : PySem.W.nsIn K mainGlobals "all_can_be_cut" = some (some (.ref f3))) (l3 : K.lookup f3 = some ⟨oc3, od3, .func (PySem.W.fnOf "all_can_be_cut" "all_can_be_cut" (defArgs s_all_can_be_cut) (defBody s_all_can_be_cut) (defScope s_all_can_be_cut) .none kV3 dc3 pm3 an3 cd3 ct3), sl3⟩) (c3 : PySem.W.codeIn K cd3 "all_can_be_cut" = true) (k3 : PySem.W.keepIn K (.ref f3) = true)
    {f4 : Addr} {od4 an4 : Option Addr} {sl4 : Array (Option Value)} {oc4 kV4 dc4 pm4 cd4 ct4 : Value}
    (a4 : PySem.W.nsIn K mainGlobals "begin_behind" = some (some (.ref f4))) (l4 : K.lookup f4 = some ⟨oc4, od4, .func (PySem.W.fnOf "begin_behind" "begin_behind" (defArgs s_begin_behind) (defBody s_begin_behind) (defScope s_begin_behind) .none kV4 dc4 pm4 an4 cd4 ct4), sl4⟩) (c4 : PySem.W.codeIn K cd4 "begin_behind" = true) (k4 : PySem.W.keepIn K (.ref f4) = true)
    {f5 : Addr} {od5 an5 : Option Addr} {sl5 : Array (Option Value)} {oc5 kV5 dc5 pm5 cd5 ct5 : Value}
    (a5 : PySem.W.nsIn K mainGlobals "with_place" = some (some (.ref f5))) (l5 : K.lookup f5 = some ⟨oc5, od5, .func (PySem.W.fnOf "with_place" "with_place" (defArgs s_with_place) (defBody s_with_place) (defScope s_with_place) .none kV5 dc5 pm5 an5 cd5 ct5), sl5⟩) (c5 : PySem.W.codeIn K cd5 "with_place" = true) (k5 : PySem.W.keepIn K (.ref f5) = true)
    {f6 : Addr} {od6 an6 : Option Addr} {sl6 : Array (Option Value)} {oc6 kV6 dc6 pm6 cd6 ct6 : Value}
    (a6 : PySem.W.nsIn K mainGlobals "sets_that_fit" = some (some (.ref f6))) (l6 : K.lookup f6 = some ⟨oc6, od6, .func (PySem.W.fnOf "sets_that_fit" "sets_that_fit" (defArgs s_sets_that_fit) (defBody s_sets_that_fit) (defScope s_sets_that_fit) .none kV6 dc6 pm6 an6 cd6 ct6), sl6⟩) (c6 : PySem.W.codeIn K cd6 "sets_that_fit" = true) (k6 : PySem.W.keepIn K (.ref f6) = true)
    {f7 : Addr} {od7 an7 : Option Addr} {sl7 : Array (Option Value)} {oc7 kV7 dc7 pm7 cd7 ct7 : Value}
    (a7 : PySem.W.nsIn K mainGlobals "best_plan" = some (some (.ref f7))) (l7 : K.lookup f7 = some ⟨oc7, od7, .func (PySem.W.fnOf "best_plan" "best_plan" (defArgs s_best_plan) (defBody s_best_plan) (defScope s_best_plan) .none kV7 dc7 pm7 an7 cd7 ct7), sl7⟩) (c7 : PySem.W.codeIn K cd7 "best_plan" = true) (k7 : PySem.W.keepIn K (.ref f7) = true)
    {f8 : Addr} {od8 an8 : Option Addr} {sl8 : Array (Option Value)} {oc8 kV8 dc8 pm8 cd8 ct8 : Value}
    (a8 : PySem.W.nsIn K mainGlobals "fewest_rolls" = some (some (.ref f8))) (l8 : K.lookup f8 = some ⟨oc8, od8, .func (PySem.W.fnOf "fewest_rolls" "fewest_rolls" (defArgs s_fewest_rolls) (defBody s_fewest_rolls) (defScope s_fewest_rolls) .none kV8 dc8 pm8 an8 cd8 ct8), sl8⟩) (c8 : PySem.W.codeIn K cd8 "fewest_rolls" = true) (k8 : PySem.W.keepIn K (.ref f8) = true)
    {f9 : Addr} {od9 an9 : Option Addr} {sl9 : Array (Option Value)} {oc9 kV9 dc9 pm9 cd9 ct9 : Value}
    (a9 : PySem.W.nsIn K mainGlobals "end_of" = some (some (.ref f9))) (l9 : K.lookup f9 = some ⟨oc9, od9, .func (PySem.W.fnOf "end_of" "end_of" (defArgs s_end_of) (defBody s_end_of) (defScope s_end_of) .none kV9 dc9 pm9 an9 cd9 ct9), sl9⟩) (c9 : PySem.W.codeIn K cd9 "end_of" = true) (k9 : PySem.W.keepIn K (.ref f9) = true)
    {f10 : Addr} {od10 an10 : Option Addr} {sl10 : Array (Option Value)} {oc10 kV10 dc10 pm10 cd10 ct10 : Value}
    (a10 : PySem.W.nsIn K mainGlobals "is_plan" = some (some (.ref f10))) (l10 : K.lookup f10 = some ⟨oc10, od10, .func (PySem.W.fnOf "is_plan" "is_plan" (defArgs s_is_plan) (defBody s_is_plan) (defScope s_is_plan) .none kV10 dc10 pm10 an10 cd10 ct10), sl10⟩) (c10 : PySem.W.codeIn K cd10 "is_plan" = true) (k10 : PySem.W.keepIn K (.ref f10) = true)
    {f11 : Addr} {od11 an11 : Option Addr} {sl11 : Array (Option Value)} {oc11 kV11 dc11 pm11 cd11 ct11 : Value}
    (a11 : PySem.W.nsIn K mainGlobals "_law_draw" = some (some (.ref f11))) (l11 : K.lookup f11 = some ⟨oc11, od11, .func (PySem.W.fnOf "_law_draw" "_law_draw" (defArgs s__law_draw) (defBody s__law_draw) (defScope s__law_draw) .none kV11 dc11 pm11 an11 cd11 ct11), sl11⟩) (c11 : PySem.W.codeIn K cd11 "_law_draw" = true) (k11 : PySem.W.keepIn K (.ref f11) = true)
    {f12 : Addr} {od12 an12 : Option Addr} {sl12 : Array (Option Value)} {oc12 kV12 dc12 pm12 cd12 ct12 : Value}
    (a12 : PySem.W.nsIn K mainGlobals "_law_like" = some (some (.ref f12))) (l12 : K.lookup f12 = some ⟨oc12, od12, .func (PySem.W.fnOf "_law_like" "_law_like" (defArgs s__law_like) (defBody s__law_like) (defScope s__law_like) .none kV12 dc12 pm12 an12 cd12 ct12), sl12⟩) (c12 : PySem.W.codeIn K cd12 "_law_like" = true) (k12 : PySem.W.keepIn K (.ref f12) = true)
    {f13 : Addr} {od13 an13 : Option Addr} {sl13 : Array (Option Value)} {oc13 kV13 dc13 pm13 cd13 ct13 : Value}
    (a13 : PySem.W.nsIn K mainGlobals "_law_numbers" = some (some (.ref f13))) (l13 : K.lookup f13 = some ⟨oc13, od13, .func (PySem.W.fnOf "_law_numbers" "_law_numbers" (defArgs s__law_numbers) (defBody s__law_numbers) (defScope s__law_numbers) .none kV13 dc13 pm13 an13 cd13 ct13), sl13⟩) (c13 : PySem.W.codeIn K cd13 "_law_numbers" = true) (k13 : PySem.W.keepIn K (.ref f13) = true)
    {f14 : Addr} {od14 an14 : Option Addr} {sl14 : Array (Option Value)} {oc14 kV14 dc14 pm14 cd14 ct14 : Value}
    (a14 : PySem.W.nsIn K mainGlobals "_law_phase" = some (some (.ref f14))) (l14 : K.lookup f14 = some ⟨oc14, od14, .func (PySem.W.fnOf "_law_phase" "_law_phase" (defArgs s__law_phase) (defBody s__law_phase) (defScope s__law_phase) .none kV14 dc14 pm14 an14 cd14 ct14), sl14⟩) (c14 : PySem.W.codeIn K cd14 "_law_phase" = true) (k14 : PySem.W.keepIn K (.ref f14) = true)
    {f15 : Addr} {od15 an15 : Option Addr} {sl15 : Array (Option Value)} {oc15 kV15 dc15 pm15 cd15 ct15 : Value}
    (a15 : PySem.W.nsIn K mainGlobals "_law_next" = some (some (.ref f15))) (l15 : K.lookup f15 = some ⟨oc15, od15, .func (PySem.W.fnOf "_law_next" "_law_next" (defArgs s__law_next) (defBody s__law_next) (defScope s__law_next) .none kV15 dc15 pm15 an15 cd15 ct15), sl15⟩) (c15 : PySem.W.codeIn K cd15 "_law_next" = true) (k15 : PySem.W.keepIn K (.ref f15) = true)
    {f16 : Addr} {od16 an16 : Option Addr} {sl16 : Array (Option Value)} {oc16 kV16 dc16 pm16 cd16 ct16 : Value}
    (a16 : PySem.W.nsIn K mainGlobals "_law_begins" = some (some (.ref f16))) (l16 : K.lookup f16 = some ⟨oc16, od16, .func (PySem.W.fnOf "_law_begins" "_law_begins" (defArgs s__law_begins) (defBody s__law_begins) (defScope s__law_begins) .none kV16 dc16 pm16 an16 cd16 ct16), sl16⟩) (c16 : PySem.W.codeIn K cd16 "_law_begins" = true) (k16 : PySem.W.keepIn K (.ref f16) = true)
    {f17 : Addr} {od17 an17 : Option Addr} {sl17 : Array (Option Value)} {oc17 kV17 dc17 pm17 cd17 ct17 : Value}
    (a17 : PySem.W.nsIn K mainGlobals "_law_orders" = some (some (.ref f17))) (l17 : K.lookup f17 = some ⟨oc17, od17, .func (PySem.W.fnOf "_law_orders" "_law_orders" (defArgs s__law_orders) (defBody s__law_orders) (defScope s__law_orders) .none kV17 dc17 pm17 an17 cd17 ct17), sl17⟩) (c17 : PySem.W.codeIn K cd17 "_law_orders" = true) (k17 : PySem.W.keepIn K (.ref f17) = true)
    {f18 : Addr} {od18 an18 : Option Addr} {sl18 : Array (Option Value)} {oc18 kV18 dc18 pm18 cd18 ct18 : Value}
    (a18 : PySem.W.nsIn K mainGlobals "_law_cut" = some (some (.ref f18))) (l18 : K.lookup f18 = some ⟨oc18, od18, .func (PySem.W.fnOf "_law_cut" "_law_cut" (defArgs s__law_cut) (defBody s__law_cut) (defScope s__law_cut) .none kV18 dc18 pm18 an18 cd18 ct18), sl18⟩) (c18 : PySem.W.codeIn K cd18 "_law_cut" = true) (k18 : PySem.W.keepIn K (.ref f18) = true)
    {f19 : Addr} {od19 an19 : Option Addr} {sl19 : Array (Option Value)} {oc19 kV19 dc19 pm19 cd19 ct19 : Value}
    (a19 : PySem.W.nsIn K mainGlobals "law" = some (some (.ref f19))) (l19 : K.lookup f19 = some ⟨oc19, od19, .func (PySem.W.fnOf "law" "law" (defArgs s_law) (defBody s_law) (defScope s_law) .none kV19 dc19 pm19 an19 cd19 ct19), sl19⟩) (c19 : PySem.W.codeIn K cd19 "law" = true) (k19 : PySem.W.keepIn K (.ref f19) = true)
    (z0 : PySem.W.nsIn K mainGlobals "all" = some none)
    (z1 : PySem.W.nsIn K mainGlobals "bool" = some none)
    (z2 : PySem.W.nsIn K mainGlobals "dict" = some none)
    (z3 : PySem.W.nsIn K mainGlobals "int" = some none)
    (z4 : PySem.W.nsIn K mainGlobals "isinstance" = some none)
    (z5 : PySem.W.nsIn K mainGlobals "len" = some none)
    (z6 : PySem.W.nsIn K mainGlobals "list" = some none)
    (z7 : PySem.W.nsIn K mainGlobals "max" = some none)
    (z8 : PySem.W.nsIn K mainGlobals "min" = some none)
    (z9 : PySem.W.nsIn K mainGlobals "range" = some none)
    (z10 : PySem.W.nsIn K mainGlobals "sorted" = some none)
    (z11 : PySem.W.nsIn K mainGlobals "tuple" = some none)
    : ∃ fd : FuncData, (∀ (s : Shared) (v : Value), BindsTo s fd ⟨[v], []⟩ [("script", v)]) ∧ ∀ base : Heap, K.In base → base.Ns mainGlobals mg → FnOk l.prog w K mg base CX0 7 fa fd ["script"] (spLaw K) := by
  have e := hfa.symm.trans (PySem.W.mg_of X G a19)
  cases e
  have F0 := fun_mk (st := s_is_integer) l0 c0 k0
  have b0 := F0.binds (ps := ["value", "low", "high"]) fun _ _ _ _ _ _ us hl => match us, hl with | [_, _, _], _ => rfl
  have F1 := fun_mk (st := s_phase) l1 c1 k1
  have b1 := F1.binds (ps := ["paper", "place"]) fun _ _ _ _ _ _ us hl => match us, hl with | [_, _], _ => rfl
  have F2 := fun_mk (st := s_can_cut) l2 c2 k2
  have b2 := F2.binds (ps := ["paper", "length", "place"]) fun _ _ _ _ _ _ us hl => match us, hl with | [_, _, _], _ => rfl
  have F3 := fun_mk (st := s_all_can_be_cut) l3 c3 k3
  have b3 := F3.binds (ps := ["paper", "length", "number"]) fun _ _ _ _ _ _ us hl => match us, hl with | [_, _, _], _ => rfl
  have F4 := fun_mk (st := s_begin_behind) l4 c4 k4
  have b4 := F4.binds (ps := ["paper", "free", "place"]) fun _ _ _ _ _ _ us hl => match us, hl with | [_, _, _], _ => rfl
  have F5 := fun_mk (st := s_with_place) l5 c5 k5
  have b5 := F5.binds (ps := ["places", "place"]) fun _ _ _ _ _ _ us hl => match us, hl with | [_, _], _ => rfl
  have F6 := fun_mk (st := s_sets_that_fit) l6 c6 k6
  have b6 := F6.binds (ps := ["paper", "length", "number"]) fun _ _ _ _ _ _ us hl => match us, hl with | [_, _, _], _ => rfl
  have F7 := fun_mk (st := s_best_plan) l7 c7 k7
  have b7 := F7.binds (ps := ["paper", "length", "number"]) fun _ _ _ _ _ _ us hl => match us, hl with | [_, _, _], _ => rfl
  have F8 := fun_mk (st := s_fewest_rolls) l8 c8 k8
  have b8 := F8.binds (ps := ["paper", "length", "number"]) fun _ _ _ _ _ _ us hl => match us, hl with | [_, _, _], _ => rfl
  have F9 := fun_mk (st := s_end_of) l9 c9 k9
  have b9 := F9.binds (ps := ["paper", "length", "places"]) fun _ _ _ _ _ _ us hl => match us, hl with | [_, _, _], _ => rfl
  have F10 := fun_mk (st := s_is_plan) l10 c10 k10
  have b10 := F10.binds (ps := ["paper", "length", "number", "value"]) fun _ _ _ _ _ _ us hl => match us, hl with | [_, _, _, _], _ => rfl
  have F11 := fun_mk (st := s__law_draw) l11 c11 k11
  have b11 := F11.binds (ps := ["tape", "many"]) fun _ _ _ _ _ _ us hl => match us, hl with | [_, _], _ => rfl
  have F12 := fun_mk (st := s__law_like) l12 c12 k12
  have b12 := F12.binds (ps := ["one", "two"]) fun _ _ _ _ _ _ us hl => match us, hl with | [_, _], _ => rfl
  have F13 := fun_mk (st := s__law_numbers) l13 c13 k13
  have b13 := F13.binds (ps := ["tape", "most", "far"]) fun _ _ _ _ _ _ us hl => match us, hl with | [_, _, _], _ => rfl
  have F14 := fun_mk (st := s__law_phase) l14 c14 k14
  have b14 := F14.binds (ps := ["kind", "place"]) fun _ _ _ _ _ _ us hl => match us, hl with | [_, _], _ => rfl
  have F15 := fun_mk (st := s__law_next) l15 c15 k15
  have b15 := F15.binds (ps := ["kind", "free", "place"]) fun _ _ _ _ _ _ us hl => match us, hl with | [_, _, _], _ => rfl
  have F16 := fun_mk (st := s__law_begins) l16 c16 k16
  have b16 := F16.binds (ps := ["kind", "size", "places"]) fun _ _ _ _ _ _ us hl => match us, hl with | [_, _, _], _ => rfl
  have F17 := fun_mk (st := s__law_orders) l17 c17 k17
  have b17 := F17.binds (ps := ["many"]) fun _ _ _ _ _ _ us hl => match us, hl with | [_], _ => rfl
  have F18 := fun_mk (st := s__law_cut) l18 c18 k18
  have b18 := F18.binds (ps := ["kind", "size", "order"]) fun _ _ _ _ _ _ us hl => match us, hl with | [_, _, _], _ => rfl
  have F19 := fun_mk (st := s_law) l19 c19 k19
  have T : En K mg := ⟨f0, _, F0, b0, PySem.W.mg_of X G a0, f1, _, F1, b1, PySem.W.mg_of X G a1, f2, _, F2, b2, PySem.W.mg_of X G a2, f3, _, F3, b3, PySem.W.mg_of X G a3, f4, _, F4, b4, PySem.W.mg_of X G a4, f5, _, F5, b5, PySem.W.mg_of X G a5, f6, _, F6, b6, PySem.W.mg_of X G a6, f7, _, F7, b7, PySem.W.mg_of X G a7, f8, _, F8, b8, PySem.W.mg_of X G a8, f9, _, F9, b9, PySem.W.mg_of X G a9, f10, _, F10, b10, PySem.W.mg_of X G a10, f11, _, F11, b11, PySem.W.mg_of X G a11, f12, _, F12, b12, PySem.W.mg_of X G a12, f13, _, F13, b13, PySem.W.mg_of X G a13, f14, _, F14, b14, PySem.W.mg_of X G a14, f15, _, F15, b15, PySem.W.mg_of X G a15, f16, _, F16, b16, PySem.W.mg_of X G a16, f17, _, F17, b17, PySem.W.mg_of X G a17, f18, _, F18, b18, PySem.W.mg_of X G a18, PySem.W.mg_none_of X G z0, PySem.W.mg_none_of X G z1, PySem.W.mg_none_of X G z2, PySem.W.mg_none_of X G z3, PySem.W.mg_none_of X G z4, PySem.W.mg_none_of X G z5, PySem.W.mg_none_of X G z6, PySem.W.mg_none_of X G z7, PySem.W.mg_none_of X G z8, PySem.W.mg_none_of X G z9, PySem.W.mg_none_of X G z10, PySem.W.mg_none_of X G z11⟩
  exact ⟨PySem.W.fnOf "law" "law" (defArgs s_law) (defBody s_law) (defScope s_law) .none kV19 dc19 pm19 an19 cd19 ct19, fun s v => .of_eq rfl, fun base _ _ => ok_law T F19⟩
end Law
open PySem PySem.W PyProof.Rows
set_option maxRecDepth 100000 in
set_option maxHeartbeats 0 in
theorem PySem.Challenge.cw_wallrolls_k08_whole_fewest_rolls_of_all_holds : PySem.Challenge.rw_wallrolls_k08_whole_fewest_rolls_of_all.Holds := by
  w_on; o_law; k_head; (case hw => w_witness2)
  k_fill
  refine L2.walk_of (l := PySem.Challenge.rw_wallrolls_k08_whole_fewest_rolls_of_all) (n := 63) (k := 7) (x := "script") (CX := fun _ => L2.CX0) (sp := fun w => Z.spLaw _) rfl (by decide) rfl ⟨rfl, by decide, by decide⟩ (fun w h Y => PySem.W.kIn_of Y) ?F (fun _ _ a ns hl _ hS => ⟨a, ns, rfl, hS, hl, fun _ => rfl⟩) (fun _ _ _ _ _ h => h)
  case F =>
    intro w mg fa h KX G hmg
    refine' Law.all_mk KX G hmg ?a0 ?l0 ?c0 ?k0 ?a1 ?l1 ?c1 ?k1 ?a2 ?l2 ?c2 ?k2 ?a3 ?l3 ?c3 ?k3 ?a4 ?l4 ?c4 ?k4 ?a5 ?l5 ?c5 ?k5 ?a6 ?l6 ?c6 ?k6 ?a7 ?l7 ?c7 ?k7 ?a8 ?l8 ?c8 ?k8 ?a9 ?l9 ?c9 ?k9 ?a10 ?l10 ?c10 ?k10 ?a11 ?l11 ?c11 ?k11 ?a12 ?l12 ?c12 ?k12 ?a13 ?l13 ?c13 ?k13 ?a14 ?l14 ?c14 ?k14 ?a15 ?l15 ?c15 ?k15 ?a16 ?l16 ?c16 ?k16 ?a17 ?l17 ?c17 ?k17 ?a18 ?l18 ?c18 ?k18 ?a19 ?l19 ?c19 ?k19 ?z0 ?z1 ?z2 ?z3 ?z4 ?z5 ?z6 ?z7 ?z8 ?z9 ?z10 ?z11
    (case a0 => k_is)
    (case l0 => k_is)
    (case c0 => k_is)
    (case k0 => k_is)
    (case a1 => k_is)
    (case l1 => k_is)
    (case c1 => k_is)
    (case k1 => k_is)
    (case a2 => k_is)
    (case l2 => k_is)
    (case c2 => k_is)
    (case k2 => k_is)
    (case a3 => k_is)
    (case l3 => k_is)
    (case c3 => k_is)
    (case k3 => k_is)
    (case a4 => k_is)
    (case l4 => k_is)
    (case c4 => k_is)
    (case k4 => k_is)
    (case a5 => k_is)
    (case l5 => k_is)
    (case c5 => k_is)
    (case k5 => k_is)
    (case a6 => k_is)
    (case l6 => k_is)
    (case c6 => k_is)
    (case k6 => k_is)
    (case a7 => k_is)
    (case l7 => k_is)
    (case c7 => k_is)
    (case k7 => k_is)
    (case a8 => k_is)
    (case l8 => k_is)
    (case c8 => k_is)
    (case k8 => k_is)
    (case a9 => k_is)
    (case l9 => k_is)
    (case c9 => k_is)
    (case k9 => k_is)
    (case a10 => k_is)
    (case l10 => k_is)
    (case c10 => k_is)
    (case k10 => k_is)
    (case a11 => k_is)
    (case l11 => k_is)
    (case c11 => k_is)
    (case k11 => k_is)
    (case a12 => k_is)
    (case l12 => k_is)
    (case c12 => k_is)
    (case k12 => k_is)
    (case a13 => k_is)
    (case l13 => k_is)
    (case c13 => k_is)
    (case k13 => k_is)
    (case a14 => k_is)
    (case l14 => k_is)
    (case c14 => k_is)
    (case k14 => k_is)
    (case a15 => k_is)
    (case l15 => k_is)
    (case c15 => k_is)
    (case k15 => k_is)
    (case a16 => k_is)
    (case l16 => k_is)
    (case c16 => k_is)
    (case k16 => k_is)
    (case a17 => k_is)
    (case l17 => k_is)
    (case c17 => k_is)
    (case k17 => k_is)
    (case a18 => k_is)
    (case l18 => k_is)
    (case c18 => k_is)
    (case k18 => k_is)
    (case a19 => k_is)
    (case l19 => k_is)
    (case c19 => k_is)
    (case k19 => k_is)
    (case z0 => k_is)
    (case z1 => k_is)
    (case z2 => k_is)
    (case z3 => k_is)
    (case z4 => k_is)
    (case z5 => k_is)
    (case z6 => k_is)
    (case z7 => k_is)
    (case z8 => k_is)
    (case z9 => k_is)
    (case z10 => k_is)
    (case z11 => k_is)
#print axioms PySem.Challenge.cw_wallrolls_k08_whole_fewest_rolls_of_all_holds
