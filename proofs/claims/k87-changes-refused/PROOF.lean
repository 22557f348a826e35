import PyProof.Rows.All
import Wide.All
import OpenK.AllK
import Wide.FinOn
import HandS.ForMost
import HandS.ForExc
import HandS.Flow
import HandS.Deep
import HandS.TupAny
import HandS.TupMul
import HandS.Style
import HandS.Zip
import HandS.IsInst
import PyProof.P3In
import PyProof.ListOps
import PyProof.Rows.ListMulArg
import KE.GoesMore
import HandS.ExcOwn
import HandS.Dict
import HandS.DictTup
import HandS.SortRule
import HandS.ListItems
import HandS.Conv
import HandS.ExcValue
import HandS.ExcIs
import KE.KeyNested
import PyProof.DictRoadsH
import HandS.CallRecv
import HandS.SortInts
import HandS.SortRule
import HandS.TupSets
import KE.KDictDisplayH
import HandS.ClsMeth
import KE.DataMinMax
import KE.KIndexOf
import HandS.TupLen
import HandS.HotCalls
import HandS.Lambda
import HandS.EndTab
import KE.KNestM
import PySem.Challenge.RW_floorfits_k87_changes_refused
set_option Elab.async false
set_option linter.all false
set_option maxRecDepth 100000
/-! DL0: the data layer: values as PyData, slots as data, owned objects. -/
namespace DL
open PySem L2

abbrev D := PyData
abbrev Env := List (Option D)
inductive R (α : Type) where
  | ok (a : α)
  | err (c : Str)
  | bad
def R.bind {α β : Type} (r : R α) (g : α → R β) : R β := match r with
  | .ok a => g a
  | .err c => .err c
  | .bad => .bad
theorem R.bind_ok {α β : Type} (a : α) (g : α → R β) : (R.ok a).bind g = g a := rfl
theorem R.bind_err {α β : Type} (c : Str) (g : α → R β) : (R.err c : R α).bind g = .err c := rfl
theorem R.bind_bad {α β : Type} (g : α → R β) : (R.bad : R α).bind g = .bad := rfl
def R.of {α : Type} (o : Option α) : R α := match o with
  | some a => .ok a
  | none => .bad
theorem R.of_some {α : Type} (a : α) : R.of (some a) = .ok a := rfl

/-! ### heaps -/
theorem same_refl (H : Hp) : Same H H := fun _ _ h => h
theorem same_trans {A B C : Hp} (h : Same A B) (k : Same B C) : Same A C := fun a o e => k a o (h a o e)
theorem same_seqL {K : PySem.W.Frag} {H H' : Hp} {a : Addr} {xs : List V} (e : Same H H') (h : SqL K H a xs) : SqL K H' a xs := by
  rcases h with (h | ⟨o, h⟩) | h
  · exact .inl (.inl (e a _ h))
  · exact .inl (.inr ⟨o, e a _ h⟩)
  · exact .inr h
theorem same_seqT {K : PySem.W.Frag} {H H' : Hp} {a : Addr} {xs : List V} (e : Same H H') (h : SqT K H a xs) : SqT K H' a xs := by
  rcases h with (h | ⟨o, h⟩) | h
  · exact .inl (.inl (e a _ h))
  · exact .inl (.inr ⟨o, e a _ h⟩)
  · exact .inr h
/-- the entries of a dict whose keys are texts, as data -/
def sdL (l : List (Str × PyData)) : List (PyData × PyData) := (.none, .none) :: l.map fun p => (.str p.1, p.2)
def sdD (l : List (Str × PyData)) : PyData := .dict (sdL l)
def sdK (l : List (Str × PyData)) (vs : List V) : List (Key × V) := (l.zip vs).map fun p => (Sum.inr p.1.1, p.2)
mutual
/-- data of any depth: as the hand layer's Dp, and dicts whose keys are texts -/
inductive Dp (K : PySem.W.Frag) (H : Hp) : V → PyData → Prop
  | non : Dp K H .non .none
  | bl (b : Bool) : Dp K H (.bl b) (.bool b)
  | int (i : Int) : Dp K H (.int i) (.int i)
  | str (x : Str) : Dp K H (.str x) (.str x)
  | lst {a : Addr} {xs : List V} {ds : List PyData} : SqL K H a xs → DpAll K H xs ds → Dp K H (.ref a) (.list ds)
  | tup {a : Addr} {xs : List V} {ds : List PyData} : SqT K H a xs → DpAll K H xs ds → Dp K H (.ref a) (.tuple ds)
  | sd {a : Addr} {vs : List V} {l : List (Str × PyData)} {kvs : List (PyData × PyData)} : kvs = sdL l → (l.map (·.1)).Nodup → H a = some (.dK (sdK l vs)) → DpAll K H vs (l.map (·.2)) → Dp K H (.ref a) (.dict kvs)
inductive DpAll (K : PySem.W.Frag) (H : Hp) : List V → List PyData → Prop
  | nil : DpAll K H [] []
  | cons {v : V} {vs : List V} {d : PyData} {ds : List PyData} : Dp K H v d → DpAll K H vs ds → DpAll K H (v :: vs) (d :: ds)
end
mutual
theorem dp_mono' {K : PySem.W.Frag} {F F' : Hp} (s : Same F F') : ∀ {d : PyData} {v : V}, Dp K F v d → Dp K F' v d
  | _, _, .non => .non
  | _, _, .bl b => .bl b
  | _, _, .int i => .int i
  | _, _, .str x => .str x
  | _, _, .lst h1 h2 => .lst (same_seqL s h1) (dpAll_mono' s h2)
  | _, _, .tup h1 h2 => .tup (same_seqT s h1) (dpAll_mono' s h2)
  | _, _, .sd h1 h2 h3 h4 => .sd h1 h2 (s _ _ h3) (dpAll_mono' s h4)
theorem dpAll_mono' {K : PySem.W.Frag} {F F' : Hp} (s : Same F F') : ∀ {ds : List PyData} {vs : List V}, DpAll K F vs ds → DpAll K F' vs ds
  | _, _, .nil => .nil
  | _, _, .cons h1 h2 => .cons (dp_mono' s h1) (dpAll_mono' s h2)
end
theorem dp_mono {K : PySem.W.Frag} {F F' : Hp} (s : Same F F') (d : PyData) (v : V) (h : Dp K F v d) : Dp K F' v d := dp_mono' s h
theorem dpAll_mono {K : PySem.W.Frag} {F F' : Hp} (s : Same F F') (ds : List PyData) (vs : List V) (h : DpAll K F vs ds) : DpAll K F' vs ds := dpAll_mono' s h
/-! to the hand layer's -/
mutual
theorem Dp.old {K : PySem.W.Frag} {H : Hp} : ∀ {d : PyData} {v : V}, d.canLay0 = true → Dp K H v d → L2.Dp K H v d
  | _, _, _, .non => .non
  | _, _, _, .bl b => .bl b
  | _, _, _, .int i => .int i
  | _, _, _, .str x => .str x
  | _, _, n, .lst h1 h2 => .lst h1 (DpAll.old (by simpa [PyData.canLay0] using n) h2)
  | _, _, n, .tup h1 h2 => .tup h1 (DpAll.old (by simpa [PyData.canLay0] using n) h2)
  | _, _, n, .sd _ _ _ _ => by simp [PyData.canLay0] at n
theorem DpAll.old {K : PySem.W.Frag} {H : Hp} : ∀ {ds : List PyData} {vs : List V}, PyData.canLayAll0 ds = true → DpAll K H vs ds → L2.DpAll K H vs ds
  | _, _, _, .nil => .nil
  | _, _, n, .cons h1 h2 => by
    simp only [PyData.canLayAll0, Bool.and_eq_true] at n
    exact .cons (Dp.old n.1 h1) (DpAll.old n.2 h2)
end
theorem Dp.oldS {K : PySem.W.Frag} {H : Hp} {d : PyData} {v : V} (n : SeqAt.shaped d = true) (h : Dp K H v d) : L2.Dp K H v d := h.old (SeqAt.canLay_of_shaped n)
mutual
theorem Dp.new {K : PySem.W.Frag} {H : Hp} : ∀ {d : PyData} {v : V}, L2.Dp K H v d → Dp K H v d
  | _, _, .non => .non
  | _, _, .bl b => .bl b
  | _, _, .int i => .int i
  | _, _, .str x => .str x
  | _, _, .lst h1 h2 => .lst h1 (DpAll.new h2)
  | _, _, .tup h1 h2 => .tup h1 (DpAll.new h2)
theorem DpAll.new {K : PySem.W.Frag} {H : Hp} : ∀ {ds : List PyData} {vs : List V}, L2.DpAll K H vs ds → DpAll K H vs ds
  | _, _, .nil => .nil
  | _, _, .cons h1 h2 => .cons (Dp.new h1) (DpAll.new h2)
end
theorem dpAll_len {K : PySem.W.Frag} {F : Hp} : ∀ {ds : List PyData} {vs : List V}, DpAll K F vs ds → vs.length = ds.length
  | [], _, h => by cases h; rfl
  | d :: ds, _, h => by
    cases h with
    | cons h1 h2 => simp [dpAll_len h2]
theorem dpAll_get {K : PySem.W.Frag} {F : Hp} : ∀ {ds : List PyData} {vs : List V} {i : Nat} {d : D}, DpAll K F vs ds → ds[i]? = some d → ∃ v, vs[i]? = some v ∧ Dp K F v d
  | [], _, _, _, h, e => by simp at e
  | d :: ds, _, i, x, h, e => by
    cases h with
    | cons h1 h2 =>
      cases i with
      | zero => simp at e; subst e; exact ⟨_, rfl, h1⟩
      | succ i => exact dpAll_get (i := i) h2 (by simpa using e)
theorem dpAll_get' {K : PySem.W.Frag} {F : Hp} : ∀ {ds : List PyData} {vs : List V} {i : Nat} {v : V}, DpAll K F vs ds → vs[i]? = some v → ∃ d, ds[i]? = some d ∧ Dp K F v d
  | [], _, _, _, h, e => by cases h; simp at e
  | d :: ds, _, i, x, h, e => by
    cases h with
    | cons h1 h2 =>
      cases i with
      | zero => simp at e; subst e; exact ⟨_, rfl, h1⟩
      | succ i => exact dpAll_get' (i := i) h2 (by simpa using e)
theorem dpAll_app {K : PySem.W.Frag} {F : Hp} : ∀ {ds es : List PyData} {vs ws : List V}, DpAll K F vs ds → DpAll K F ws es → DpAll K F (vs ++ ws) (ds ++ es)
  | [], _, _, _, h, k => by cases h; exact k
  | d :: ds, _, _, _, h, k => by
    cases h with
    | cons h1 h2 => exact .cons h1 (dpAll_app h2 k)
theorem dpAll_take {K : PySem.W.Frag} {F : Hp} : ∀ {ds : List PyData} {vs : List V} (n : Nat), DpAll K F vs ds → DpAll K F (vs.take n) (ds.take n)
  | _, _, 0, _ => by simpa using DpAll.nil
  | [], _, n + 1, h => by cases h; exact .nil
  | d :: ds, _, n + 1, h => by
    cases h with
    | cons h1 h2 => exact .cons h1 (dpAll_take n h2)
theorem dpAll_drop {K : PySem.W.Frag} {F : Hp} : ∀ {ds : List PyData} {vs : List V} (n : Nat), DpAll K F vs ds → DpAll K F (vs.drop n) (ds.drop n)
  | _, _, 0, h => by simpa using h
  | [], _, n + 1, h => by cases h; exact .nil
  | d :: ds, _, n + 1, h => by
    cases h with
    | cons h1 h2 => exact dpAll_drop n h2
theorem dpAll_set {K : PySem.W.Frag} {F : Hp} : ∀ {ds : List PyData} {vs : List V} (n : Nat) {v : V} {d : D}, DpAll K F vs ds → Dp K F v d → DpAll K F (vs.set n v) (ds.set n d)
  | [], _, n, _, _, h, _ => by cases h; exact .nil
  | d :: ds, _, 0, _, _, h, k => by
    cases h with
    | cons h1 h2 => exact .cons k h2
  | d :: ds, _, n + 1, _, _, h, k => by
    cases h with
    | cons h1 h2 => exact .cons h1 (dpAll_set n h2 k)
theorem dpAll_rep {K : PySem.W.Frag} {F : Hp} {ds : List PyData} {vs : List V} (h : DpAll K F vs ds) : ∀ k : Nat, DpAll K F (List.replicate k vs).flatten (List.replicate k ds).flatten
  | 0 => .nil
  | k + 1 => by
    rw [List.replicate_succ, List.replicate_succ, List.flatten_cons, List.flatten_cons]
    exact dpAll_app h (dpAll_rep h k)
theorem dpAll_rev {K : PySem.W.Frag} {F : Hp} : ∀ {ds : List PyData} {vs : List V}, DpAll K F vs ds → DpAll K F vs.reverse ds.reverse
  | [], _, h => by cases h; exact .nil
  | d :: ds, _, h => by
    cases h with
    | cons h1 h2 => simp only [List.reverse_cons]; exact dpAll_app (dpAll_rev h2) (.cons h1 .nil)
theorem dpAll_ints {K : PySem.W.Frag} {F : Hp} : ∀ {ns : List Int} {vs : List V}, DpAll K F vs (ns.map PyData.int) → vs = ns.map V.int
  | [], _, h => by cases h; rfl
  | n :: ns, _, h => by
    cases h with
    | cons h1 h2 => cases h1; rw [dpAll_ints h2]; rfl
theorem dpAll_intsI {K : PySem.W.Frag} {F : Hp} : ∀ (ns : List Int), DpAll K F (ns.map V.int) (ns.map PyData.int)
  | [] => .nil
  | n :: ns => .cons (.int n) (dpAll_intsI ns)
theorem dpAll_bls {K : PySem.W.Frag} {F : Hp} : ∀ {ns : List Bool} {vs : List V}, DpAll K F vs (ns.map PyData.bool) → vs = ns.map V.bl
  | [], _, h => by cases h; rfl
  | n :: ns, _, h => by
    cases h with
    | cons h1 h2 => cases h1; rw [dpAll_bls h2]; rfl

def okD : D → R D
  | .dict ((.none, y) :: l) => .ok (.dict ((.none, y) :: l))
  | .dict _ => .bad
  | d => .ok d
theorem okD_ne (d : D) (c : Str) : okD d ≠ .err c := by
  unfold okD
  split <;> exact fun h => nomatch h
/-- a dict of whole numbers -/
def IntDic (kvs : List (Int × Int)) : D := .dict (kvs.map fun p => (.int p.1, .int p.2))
def kvO (kvs : List (Int × Int)) : HO := .dK (kvs.map fun p => (Sum.inl p.1, V.int p.2))
/-- cells that may change (memo dicts), objects that are known -/
class Mem where
  is : Addr → Prop
  good : Hp → Addr → HO → Prop
  mono : ∀ {F F' : Hp} {a : Addr} {o : HO}, good F a o → Same F F' → good F' a o
  drop : ∀ {F W : Hp} {a : Addr} {o : HO}, (∀ a, F a = W a ∨ ∃ xs, W a = some (.lst xs)) → good W a o → good F a o
  lk : D → Addr → Prop
@[reducible] def Mem.triv : Mem := ⟨fun _ => False, fun _ _ _ => True, fun _ _ => trivial, fun _ _ => trivial, fun _ _ => False⟩
section
variable [Mem]
def SameM (H H' : Hp) : Prop := ∀ a o, ¬ Mem.is a → H a = some o → H' a = some o
theorem sameM_of {H H' : Hp} (s : Same H H') : SameM H H' := fun a o _ e => s a o e
theorem sameM_trans {A B C : Hp} (h : SameM A B) (k : SameM B C) : SameM A C := fun a o n e => k a o n (h a o n e)
structure Wf (F H : Hp) : Prop where
  s : Same F H
  m : ∀ a, Mem.is a → F a = none ∧ ∃ o, H a = some o ∧ Mem.good F a o
theorem Wf.no {F H : Hp} (w : Wf F H) {p : Addr} (h : H p = none) : ¬ Mem.is p := fun z => by
  obtain ⟨_, o, e, _⟩ := w.m p z
  rw [h] at e
  cases e
/-- F frozen within H grows to F' within H' -/
structure Grow (F H F' H' : Hp) : Prop where
  ff : Same F F'
  hh : SameM H H'
  fh : Wf F' H'
  nw : ∀ a, F' a ≠ none → H a ≠ none → F a ≠ none
theorem Grow.refl {F H : Hp} (s : Wf F H) : Grow F H F H := ⟨same_refl _, fun _ _ _ h => h, s, fun _ h _ => h⟩
theorem same_ne {A B : Hp} (s : Same A B) {a : Addr} (h : A a ≠ none) : B a ≠ none := by
  cases e : A a with
  | none => exact absurd e h
  | some o => rw [s a o e]; simp
theorem sameM_ne {A F B : Hp} (s : SameM A B) (w : Wf F B) {a : Addr} (h : A a ≠ none) : B a ≠ none := by
  by_cases z : Mem.is a
  · obtain ⟨_, o, e, _⟩ := w.m a z
    rw [e]; simp
  · cases e : A a with
    | none => exact absurd e h
    | some o => rw [s a o z e]; simp
theorem Grow.trans {F H F1 H1 F2 H2 : Hp} (g : Grow F H F1 H1) (k : Grow F1 H1 F2 H2) : Grow F H F2 H2 :=
  ⟨same_trans g.ff k.ff, sameM_trans g.hh k.hh, k.fh, fun a h1 h2 => g.nw a (k.nw a h1 (sameM_ne g.hh g.fh h2)) h2⟩
theorem same_upd {F : Hp} {p : Addr} {o : HO} (h : F p = none) : Same F (upd F p o) := fun a u e => by rw [upd_ne (ne_of_none e h)]; exact e
theorem none_of_same {F H : Hp} (s : Same F H) {p : Addr} (h : H p = none) : F p = none := by
  cases e : F p with
  | none => rfl
  | some o => rw [s p o e] at h; cases h
theorem none_of_sameM {F G H : Hp} (s : SameM G H) (w : Wf F H) {p : Addr} (h : H p = none) : G p = none := by
  cases e : G p with
  | none => rfl
  | some o => rw [s p o (w.no h) e] at h; cases h
theorem Wf.upd {F H : Hp} (s : Wf F H) {p : Addr} {o : HO} (h : H p = none) : Wf F (upd H p o) :=
  ⟨same_trans s.s (same_upd h), fun a z => by
    obtain ⟨e1, u, e2, e3⟩ := s.m a z
    exact ⟨e1, u, by rw [upd_ne (ne_of_none e2 h)]; exact e2, e3⟩⟩
theorem Grow.new {F H : Hp} (s : Wf F H) {p : Addr} {o : HO} (h : H p = none) : Grow F H (L2.upd F p o) (L2.upd H p o) where
  ff := same_upd (none_of_same s.s h)
  hh := sameM_of (same_upd h)
  fh := ⟨fun a u e => by
    by_cases ha : a = p
    · subst ha; rw [upd_same] at e ⊢; exact e
    · rw [upd_ne ha] at e ⊢; exact s.s a u e, fun a z => by
    obtain ⟨e1, u, e2, e3⟩ := s.m a z
    have na : a ≠ p := ne_of_none e2 h
    exact ⟨by rw [upd_ne na]; exact e1, u, by rw [upd_ne na]; exact e2, Mem.mono e3 (same_upd (none_of_same s.s h))⟩⟩
  nw := fun a h1 h2 => by
    by_cases ha : a = p
    · subst ha; exact absurd h h2
    · rw [upd_ne ha] at h1; exact h1
end
/-! ### what a run of data asks: expressions that only grow the heap -/
/-- an exception of a class of the program's own, held as a value -/
def excD (c : Str) : D := .dict [(.str "exc", .str c)]
/-- an exception object of the class cls at a, raised or not -/
def CxO (cls : Value) (a : Addr) : HO := .ext fun h => ∃ (oe : Obj) (vs : Array Value), h.get? a = some oe ∧ Zc cls none oe ∧ oe.data = .fields vs
theorem cxO_ok {P : Program} {w : World} {H : Hp} {h : Heap} {a : Addr} {cls : Value} {oe : Obj} {vs : Array Value} (e : h.get? a = some oe) (z : Zc cls none oe) (d : oe.data = .fields vs) : ObjOk P w H h a (CxO cls a) :=
  ⟨⟨oe, vs, e, z, d⟩, ⟨oe, e⟩, fun _ _ ⟨o, v, q, r⟩ k => ⟨o, v, k o q, r⟩⟩
def ExQ (K : PySem.W.Frag) (F : Hp) (v : V) (c : Str) : Prop := ∃ (a C : Addr), v = .ref a ∧ PySem.W.nsIn K mainGlobals c = some (some (.ref C)) ∧ F a = some (CxO (.ref C) a)
/-- an object of a class of the program's own: its class, some of its fields -/
def objD (c : Str) (kvs : List (Str × D)) : D := .dict ((.str "obj", .str c) :: kvs.map fun p => (.str p.1, p.2))
structure ObF (K : PySem.W.Frag) (F : Hp) (a : Addr) (c : Str) (fs : List (Str × V)) : Prop where
  at_ : ∃ C dx, PySem.W.nsIn K mainGlobals c = some (some (.ref C)) ∧ F a = some (.ins C dx fs) ∧ F dx = some (.own a)
theorem ObF.mono {K : PySem.W.Frag} {F F' : Hp} {a : Addr} {c : Str} {fs : List (Str × V)} (h : ObF K F a c fs) (s : Same F F') : ObF K F' a c fs :=
  let ⟨C, dx, e1, e2, e3⟩ := h.at_
  ⟨⟨C, dx, e1, s a _ e2, s dx _ e3⟩⟩
variable [Mem]
/-- an object, its fields as FQ says -/
def ObG (FQ : PySem.W.Frag → Hp → V → D → Prop) (K : PySem.W.Frag) (F : Hp) (v : V) (d : D) : Prop := ∃ (a : Addr) (fs : List (Str × V)) (c : Str) (kvs : List (Str × D)), v = .ref a ∧ d = objD c kvs ∧ (∃ kad, fs.lookup ("known" : Str) = some (V.ref kad) ∧ Mem.lk d kad) ∧ ObF K F a c fs ∧ (∀ p ∈ kvs, ∃ u, fs.lookup p.1 = some u ∧ FQ K F u p.2) ∧ ∀ f : Str, f ≠ ("known" : Str) → f ∉ kvs.map (·.1) → fs.lookup f = none
theorem obg_mono {FQ : PySem.W.Frag → Hp → V → D → Prop} (hm : ∀ (K : PySem.W.Frag) (F F' : Hp) (d : D) (v : V), Same F F' → FQ K F v d → FQ K F' v d) {K : PySem.W.Frag} {F F' : Hp} (s : Same F F') {d : D} {v : V} (h : ObG FQ K F v d) : ObG FQ K F' v d :=
  let ⟨a, fs, c, kvs, e1, e2, e3, e4, e5, e6⟩ := h
  ⟨a, fs, c, kvs, e1, e2, e3, e4.mono s, fun p hp => let ⟨u, q1, q2⟩ := e5 p hp; ⟨u, q1, hm _ _ _ _ _ s q2⟩, e6⟩
/-- a field's value: data, or an object whose fields are data -/
def FQ (K : PySem.W.Frag) (F : Hp) (v : V) (d : D) : Prop := Dp K F v d ∨ ObG Dp K F v d
theorem fq_mono {K : PySem.W.Frag} {F F' : Hp} {d : D} {v : V} (s : Same F F') (h : FQ K F v d) : FQ K F' v d := by
  rcases h with h | h
  · exact .inl (dp_mono s _ _ h)
  · exact .inr (obg_mono (FQ := Dp) (fun K F F' d v s h => dp_mono s d v h) s h)
def ObQ (K : PySem.W.Frag) (F : Hp) (v : V) (d : D) : Prop := ObG FQ K F v d
theorem obq_mono {K : PySem.W.Frag} {F F' : Hp} (s : Same F F') {d : D} {v : V} (h : ObQ K F v d) : ObQ K F' v d := obg_mono (FQ := FQ) (fun K F F' d v s h => fq_mono s h) s h
/-- a tuple whose object is known: no instance dict -/
def ordD (ds : List D) : D := .dict [(.str "ord", .tuple ds)]
def OrdQ (K : PySem.W.Frag) (F : Hp) (v : V) (d : D) : Prop := ∃ (ds : List D) (a : Addr) (o : Obj) (xs : List V), d = ordD ds ∧ v = .ref a ∧ F a = some (.frz o (.tup xs)) ∧ o.dict = none ∧ DpAll K F xs ds
theorem ordq_mono {K : PySem.W.Frag} {F F' : Hp} (s : Same F F') {d : D} {v : V} (h : OrdQ K F v d) : OrdQ K F' v d :=
  let ⟨ds, a, o, xs, e1, e2, e3, e4, e5⟩ := h
  ⟨ds, a, o, xs, e1, e2, s a _ e3, e4, dpAll_mono s _ _ e5⟩
theorem ord_ne {s : Str} (h : decide (s = "ord") = false) {x : D} {ds : List D} {l : List (D × D)} : PyData.dict ((.str s, x) :: l) ≠ ordD ds := fun e => by
  unfold ordD at e
  injection e with e
  injection e with e _
  have e1 : (PyData.str s : D) = .str "ord" := congrArg Prod.fst e
  injection e1 with e1
  exact of_decide_eq_false h e1
theorem ord_int {kvs : List (Int × Int)} {ds : List D} : IntDic kvs ≠ ordD ds := fun e => by
  cases kvs with
  | nil => cases e
  | cons p l => simp [IntDic, ordD] at e
/-! a dict whose keys are tuples of ints -/
abbrev NXs := List (NestedKey × Addr × Value)
def NRaw (P : Program) (w : World) (k : Addr) (xs : NXs) (h : Heap) : Prop := (k == sysModules) = false ∧ xs.length ≤ sizeLine ∧ ∃ o es ep, h.get? k = some o ∧ o.ExactDict ∧ o.data = .dict es ep ∧ es.toList = xs.map (entryOfKey (nestedKind P w)) ∧ (xs.map (·.1)).Nodup
def nk (ns : List Int) : NestedKey := .tup (ns.map .num)
def dX (k : Addr) (xs : NXs) : HO := .ext fun h => ∀ (P : Program) (w : World), NRaw P w k xs h
/-- a key, where it stands -/
def NKey (K : PySem.W.Frag) (H : Hp) (k : NestedKey) (b : Addr) : Prop := Dp K H (.ref b) k.data ∧ k.depth ≤ 8
theorem NKey.mono {K : PySem.W.Frag} {H H' : Hp} {k : NestedKey} {b : Addr} (h : NKey K H k b) (s : Same H H') : NKey K H' k b := ⟨dp_mono s _ _ h.1, h.2⟩
def vOf : D → Option V
  | .int i => some (.int i)
  | .bool b => some (.bl b)
  | _ => none
def TupM (K : PySem.W.Frag) (F : Hp) : List (List Int × D) → NXs → Prop
  | [], [] => True
  | p :: ps, x :: xs => (x.1 = nk p.1 ∧ NKey K F x.1 x.2.1 ∧ ∃ v, vOf p.2 = some v ∧ RelV v x.2.2) ∧ TupM K F ps xs
  | _, _ => False
theorem TupM.mono {K : PySem.W.Frag} {F F' : Hp} (s : Same F F') : ∀ {ps : List (List Int × D)} {xs : NXs}, TupM K F ps xs → TupM K F' ps xs
  | [], [], h => h
  | _ :: _, _ :: _, h => ⟨⟨h.1.1, h.1.2.1.mono s, h.1.2.2⟩, TupM.mono s h.2⟩
  | [], _ :: _, h => h.elim
  | _ :: _, [], h => h.elim
def tupDic (kvs : List (List Int × D)) : D := .dict ((.str "tup", .none) :: kvs.map fun p => (.tuple (p.1.map .int), p.2))
def TupQ (K : PySem.W.Frag) (F : Hp) (v : V) (d : D) : Prop := ∃ (a : Addr) (kvs : List (List Int × D)) (xs : NXs), v = .ref a ∧ d = tupDic kvs ∧ F a = some (dX a xs) ∧ TupM K F kvs xs
theorem tupq_mono {K : PySem.W.Frag} {F F' : Hp} (s : Same F F') {d : D} {v : V} (h : TupQ K F v d) : TupQ K F' v d :=
  let ⟨a, kvs, xs, e1, e2, e3, e4⟩ := h
  ⟨a, kvs, xs, e1, e2, s a _ e3, e4.mono s⟩
theorem tup_ne {s : Str} (h : decide (s = "tup") = false) {x : D} {kvs : List (List Int × D)} {l : List (D × D)} : PyData.dict ((.str s, x) :: l) ≠ tupDic kvs := fun e => by
  unfold tupDic at e
  injection e with e
  injection e with e _
  have e1 : (PyData.str s : D) = .str "tup" := congrArg Prod.fst e
  injection e1 with e1
  exact of_decide_eq_false h e1
theorem tup_int {kvs : List (Int × Int)} {l : List (List Int × D)} : IntDic kvs ≠ tupDic l := fun e => by
  cases kvs with
  | nil => cases e
  | cons p r => simp [IntDic, tupDic] at e
def DQ (K : PySem.W.Frag) (F : Hp) (v : V) (d : D) : Prop := Dp K F v d ∨ (∃ (a : Addr) (kvs : List (Int × Int)), v = .ref a ∧ d = IntDic kvs ∧ F a = some (kvO kvs)) ∨ (∃ c, d = excD c ∧ ExQ K F v c) ∨ ObQ K F v d ∨ OrdQ K F v d ∨ TupQ K F v d
theorem dq_mono {K : PySem.W.Frag} {F F' : Hp} (s : Same F F') {d : D} {v : V} (h : DQ K F v d) : DQ K F' v d := by
  rcases h with h | ⟨a, kvs, e1, e2, e3⟩ | ⟨c, e, a, C, e1, e2, e3⟩ | h | h | h
  · exact .inl (dp_mono s d v h)
  · exact .inr (.inl ⟨a, kvs, e1, e2, s a _ e3⟩)
  · exact .inr (.inr (.inl ⟨c, e, a, C, e1, e2, s a _ e3⟩))
  · exact .inr (.inr (.inr (.inl (obq_mono s h))))
  · exact .inr (.inr (.inr (.inr (.inl (ordq_mono s h)))))
  · exact .inr (.inr (.inr (.inr (.inr (tupq_mono s h)))))
theorem okD_dp {K : PySem.W.Frag} {F : Hp} {v : V} {d : D} (h : Dp K F v d) : okD d = .ok d := by
  cases h with
  | sd e _ _ _ => subst e; rfl
  | _ => rfl
theorem dq_dp {K : PySem.W.Frag} {F : Hp} {v : V} {d e : D} (h : DQ K F v d) (k : okD d = .ok e) : Dp K F v d ∧ e = d := by
  rcases h with h | ⟨a, kvs, e1, rfl, e3⟩ | ⟨c, rfl, e⟩ | h | h | h
  · rw [okD_dp h] at k; cases k; exact ⟨h, rfl⟩
  · cases kvs <;> cases k
  · cases k
  · obtain ⟨_, _, _, _, _, rfl, _⟩ := h
    cases k
  · obtain ⟨_, _, _, _, rfl, _⟩ := h
    cases k
  · obtain ⟨_, _, _, _, rfl, _⟩ := h
    cases k
theorem dq_int {K : PySem.W.Frag} {F : Hp} {v : V} {kvs : List (Int × Int)} (h : DQ K F v (IntDic kvs)) : ∃ a, v = .ref a ∧ F a = some (kvO kvs) := by
  rcases h with h | ⟨a, l, e1, e2, e3⟩ | ⟨c, e, _⟩ | h | h | h
  · cases h with
    | sd e _ _ _ => cases kvs <;> simp [sdL] at e
  · have e4 : l = kvs := by
      have e5 : (kvs.map fun p => (PyData.int p.1, PyData.int p.2)) = l.map fun p => (PyData.int p.1, PyData.int p.2) := by
        unfold IntDic at e2
        injection e2
      have key : ∀ (a b : List (Int × Int)), (a.map fun p => (PyData.int p.1, PyData.int p.2)) = (b.map fun p => (PyData.int p.1, PyData.int p.2)) → a = b := fun a => by
        induction a with
        | nil => intro b h; cases b with
          | nil => rfl
          | cons x b => cases h
        | cons x a ih =>
          intro b h
          cases b with
          | nil => cases h
          | cons y b =>
            simp only [List.map_cons, List.cons.injEq, Prod.mk.injEq, PyData.int.injEq] at h
            rw [ih b h.2]
            obtain ⟨x1, x2⟩ := x
            obtain ⟨y1, y2⟩ := y
            simp only at h
            rw [h.1.1, h.1.2]
      exact (key _ _ e5).symm
    subst e4
    exact ⟨a, e1, e3⟩
  · cases kvs with
    | nil => cases e
    | cons p l => simp [IntDic, excD] at e
  · obtain ⟨_, _, c, l, _, e, _⟩ := h
    cases kvs with
    | nil => cases e
    | cons p kvs => simp [IntDic, objD] at e
  · obtain ⟨_, _, _, _, e, _⟩ := h
    exact absurd e ord_int
  · obtain ⟨_, _, _, _, e, _⟩ := h
    exact absurd e tup_int
structure EnvR (K : PySem.W.Frag) (F : Hp) (σ : St) (ρ : Env) : Prop where
  sl : ∀ (i : Nat) (d : D), ρ[i]? = some (some d) → ∃ v, σ[i]? = some (some v) ∧ DQ K F v d
  len : ρ.length = σ.length
theorem EnvR.mono {K : PySem.W.Frag} {F F' : Hp} {σ : St} {ρ : Env} (h : EnvR K F σ ρ) (s : Same F F') : EnvR K F' σ ρ :=
  ⟨fun i d e => let ⟨v, e1, e2⟩ := h.sl i d e; ⟨v, e1, dq_mono s e2⟩, h.len⟩
/-- what is wanted of an exception: its class, the heap -/
abbrev ErT := Str → Hp → Prop
def Post {α : Type} (F H : Hp) (Er : ErT) (r : R α) (P : Hp → Hp → α → Prop) : Prop := match r with
  | .ok a => ∀ F' H', Grow F H F' H' → P F' H' a
  | .err c => ∀ F' H', Grow F H F' H' → Er c H'
  | .bad => False
section
variable {α β : Type} {F H F1 H1 : Hp} {Er : ErT}
theorem Post.imp {r : R α} {P P' : Hp → Hp → α → Prop} (h : Post F H Er r P) (k : ∀ F' H' a, Grow F H F' H' → P F' H' a → P' F' H' a) : Post F H Er r P' := by
  cases r with
  | ok p => exact fun F' H' g => k F' H' p g (h F' H' g)
  | err c => exact h
  | bad => exact h
theorem Post.mono {r : R α} {P : Hp → Hp → α → Prop} (h : Post F H Er r P) (g : Grow F H F1 H1) : Post F1 H1 Er r P := by
  cases r with
  | ok p => exact fun F' H' g' => h F' H' (g.trans g')
  | err c => exact fun F' H' g' => h F' H' (g.trans g')
  | bad => exact h
theorem Post.bind {r : R α} {g : α → R β} {P : Hp → Hp → β → Prop} (h : Post F H Er (r.bind g) P) : Post F H Er r (fun F1 H1 a => Post F1 H1 Er (g a) P) := by
  cases r with
  | ok p => exact fun F' H' g' => Post.mono h g'
  | err c => exact h
  | bad => exact h
theorem Post.done {a : α} {P : Hp → Hp → α → Prop} (h : Post F H Er (.ok a) P) (g : Grow F H F1 H1) : P F1 H1 a := h F1 H1 g
theorem Post.now {a : α} {P : Hp → Hp → α → Prop} (h : Post F H Er (.ok a) P) (s : Wf F H) : P F H a := h F H (.refl s)
end
abbrev EF := Env → R D
abbrev TF := Env → R Bool
abbrev AF := Env → R (List D)
abbrev OF := Env → R (Option Int)
def DRd (K : PySem.W.Frag) (Er : ErT) (te : TE) (f : EF) : Prop := ∀ F H σ ρ Q, Wf F H → EnvR K F σ ρ → Post F H Er (f ρ) (fun F' H' d => ∀ v, Dp K F' v d → Q v H') → te σ H Q
def DRt (K : PySem.W.Frag) (Er : ErT) (tt : TT) (f : TF) : Prop := ∀ F H σ ρ Q, Wf F H → EnvR K F σ ρ → Post F H Er (f ρ) (fun _ H' b => Q b H') → tt σ H Q
def DRa (K : PySem.W.Frag) (Er : ErT) (ta : TA) (f : AF) : Prop := ∀ F H σ ρ Q, Wf F H → EnvR K F σ ρ → Post F H Er (f ρ) (fun F' H' ds => ∀ vs, DpAll K F' vs ds → Q vs H') → ta σ H Q
def DRo (K : PySem.W.Frag) (Er : ErT) (to : TO) (f : OF) : Prop := ∀ F H σ ρ Q, Wf F H → EnvR K F σ ρ → Post F H Er (f ρ) (fun _ H' o => Q o H') → to σ H Q
/-- a new list: at p, known to the heap alone -/
def DRn (K : PySem.W.Frag) (Er : ErT) (te : TE) (f : AF) : Prop := ∀ F H σ ρ Q, Wf F H → EnvR K F σ ρ →
  Post F H Er (f ρ) (fun F' H' ds => ∀ p vs, H' p = none → DpAll K F' vs ds → Q (.ref p) (upd H' p (.lst vs))) → te σ H Q
structure DE (X : Cx) (Er : ErT) (e : Expr) (te : TE) (f : EF) : Prop where
  pe : PE X e te
  rd : DRd X.K Er te f
structure DT (X : Cx) (Er : ErT) (e : Expr) (te : TT) (f : TF) : Prop where
  pe : PT X e te
  rd : DRt X.K Er te f
structure DW (X : Cx) (Er : ErT) (e : Expr) (te : TT) (f : TF) : Prop where
  pe : PW X e te
  rd : DRt X.K Er te f
structure DA (X : Cx) (Er : ErT) (es : List Expr) (te : TA) (f : AF) : Prop where
  pe : PA X es te
  rd : DRa X.K Er te f
structure DO (X : Cx) (Er : ErT) (e : Option Expr) (te : TO) (f : OF) : Prop where
  pe : PO X e te
  rd : DRo X.K Er te f
structure DN (X : Cx) (Er : ErT) (e : Expr) (te : TE) (f : AF) : Prop where
  pe : PE X e te
  rd : DRn X.K Er te f

/-- arguments: data, or odd things (dicts, exceptions, objects) -/
def DQAll (K : PySem.W.Frag) (F : Hp) : List V → List D → Prop
  | [], [] => True
  | v :: vs, d :: ds => DQ K F v d ∧ DQAll K F vs ds
  | _, _ => False
theorem dqAll_of {K : PySem.W.Frag} {F : Hp} : ∀ {ds : List D} {vs : List V}, DpAll K F vs ds → DQAll K F vs ds
  | [], _, h => by cases h; trivial
  | d :: ds, _, h => by
    cases h with
    | cons h1 h2 => exact ⟨.inl h1, dqAll_of h2⟩
theorem dqAll_len {K : PySem.W.Frag} {F : Hp} : ∀ {ds : List D} {vs : List V}, DQAll K F vs ds → vs.length = ds.length
  | [], [], _ => rfl
  | [], _ :: _, h => h.elim
  | _ :: _, [], h => h.elim
  | d :: ds, v :: vs, h => by simp [dqAll_len h.2]
theorem dqAll_get {K : PySem.W.Frag} {F : Hp} : ∀ {ds : List D} {vs : List V} {i : Nat} {d : D}, DQAll K F vs ds → ds[i]? = some d → ∃ v, vs[i]? = some v ∧ DQ K F v d
  | [], _, _, _, _, e => by simp at e
  | _ :: _, [], _, _, h, _ => h.elim
  | d :: ds, v :: vs, i, x, h, e => by
    cases i with
    | zero => simp at e; subst e; exact ⟨_, rfl, h.1⟩
    | succ i => exact dqAll_get (i := i) h.2 (by simpa using e)
theorem dqAll_mono {K : PySem.W.Frag} {F F' : Hp} (s : Same F F') : ∀ {ds : List D} {vs : List V}, DQAll K F vs ds → DQAll K F' vs ds
  | [], [], _ => trivial
  | [], _ :: _, h => h.elim
  | _ :: _, [], h => h.elim
  | d :: ds, v :: vs, h => ⟨dq_mono s h.1, dqAll_mono s h.2⟩
def DRe (K : PySem.W.Frag) (Er : ErT) (te : TE) (f : EF) : Prop := ∀ F H σ ρ Q, Wf F H → EnvR K F σ ρ → Post F H Er (f ρ) (fun F' H' d => ∀ v, DQ K F' v d → Q v H') → te σ H Q
def DRq (K : PySem.W.Frag) (Er : ErT) (ta : TA) (f : AF) : Prop := ∀ F H σ ρ Q, Wf F H → EnvR K F σ ρ → Post F H Er (f ρ) (fun F' H' ds => ∀ vs, DQAll K F' vs ds → Q vs H') → ta σ H Q
structure DEq (X : Cx) (Er : ErT) (e : Expr) (te : TE) (f : EF) : Prop where
  pe : PE X e te
  rd : DRe X.K Er te f
structure DAq (X : Cx) (Er : ErT) (es : List Expr) (te : TA) (f : AF) : Prop where
  pe : PA X es te
  rd : DRq X.K Er te f

/-! ### mirrors -/
def bE {α β : Type} (f : Env → R α) (g : α → Env → R β) : Env → R β := fun ρ => (f ρ).bind fun a => g a ρ
def oE {α : Type} (o : Option α) : Env → R α := fun _ => R.of o
def vE (i : Nat) : EF := fun ρ => match ρ[i]? with
  | some (some d) => okD d
  | _ => .bad
def cE {α : Type} (d : α) : Env → R α := fun _ => .ok d
def op2E (g : D → D → Option D) (a b : EF) : EF := bE a fun x => bE b fun y => oE (g x y)
def op1E (g : D → Option D) (a : EF) : EF := bE a fun x => oE (g x)
def nilA : AF := cE []
def consA (a : EF) (r : AF) : AF := bE a fun x => bE r fun xs => cE (x :: xs)
def boolD : D → Option Bool
  | .bool b => some b
  | _ => none
def testE (a : EF) : TF := bE a fun x => oE (boolD x)
def andT (a b : TF) : TF := bE a fun x => if x = true then b else cE false
def orT (a b : TF) : TF := bE a fun x => if x = true then cE true else b
def notT (a : TF) : TF := bE a fun x => cE (!x)
def ifE (t : TF) (a b : EF) : EF := bE t fun x => if x = true then a else b
def smallA (a : AF) : AF := bE a fun xs => oE (if xs.length ≤ 1000000 then some xs else none)
def tupE (a : AF) : EF := bE (smallA a) fun xs => cE (.tuple xs)
def lstE (a : AF) : EF := bE a fun xs => cE (.list xs)
theorem sz_of {n : Nat} (h : n ≤ 1000000) : n ≤ sizeLine := Nat.le_trans h (by rw [sizeLine_eq]; decide)
theorem sz_lt {n : Nat} (h : n < 1000000) : n < sizeLine := Nat.lt_of_lt_of_le h (by rw [sizeLine_eq]; decide)

section
variable {X : Cx} {Er : ErT} {K : PySem.W.Frag} {ta tb tc te : TE} {tt tu : TT}
theorem dr_var {i : Nat} : DRd K Er (tVar i) (vE i) := by
  intro F H σ ρ Q s st h
  unfold vE at h
  cases e : ρ[i]? with
  | none => rw [e] at h; exact h.elim
  | some o =>
    cases o with
    | none => rw [e] at h; exact h.elim
    | some d =>
      rw [e] at h
      obtain ⟨v, e1, hq⟩ := st.sl i d e
      dsimp only at h
      cases k : okD d with
      | ok e' =>
        obtain ⟨h1, rfl⟩ := dq_dp hq k
        rw [k] at h
        exact ⟨v, e1, h.now s v h1⟩
      | err c => exact absurd k (okD_ne d c)
      | bad => rw [k] at h; exact h.elim
/-- a slot, whatever it holds -/
def vqE (i : Nat) : EF := fun ρ => match ρ[i]? with
  | some (some d) => .ok d
  | _ => .bad
theorem dr_varq {i : Nat} : DRe K Er (tVar i) (vqE i) := by
  intro F H σ ρ Q s st h
  unfold vqE at h
  cases e : ρ[i]? with
  | none => rw [e] at h; exact h.elim
  | some o =>
    cases o with
    | none => rw [e] at h; exact h.elim
    | some d =>
      rw [e] at h
      obtain ⟨v, e1, hq⟩ := st.sl i d e
      exact ⟨v, e1, h.now s v hq⟩
theorem dr_c {v : V} {d : D} (hd : ∀ F, Dp K F v d) : DRd K Er (tC v) (cE d) := fun F H σ ρ Q s st h => h.now s v (hd F)
theorem de_var {i : Nat} {x : Str} {pos : Pos} (hN : X.N[i]? = some x) (hv : Vis X.env.scope x) (hd : (x == ("__debug__" : Str)) = false := by decide) (hcd : (x == ("__classdict__" : Str)) = false := by decide) : DE X Er (.Name x pos) (tVar i) (vE i) :=
  ⟨pe_var hN hv hd hcd, dr_var⟩
theorem deq_var {i : Nat} {x : Str} {pos : Pos} (hN : X.N[i]? = some x) (hv : Vis X.env.scope x) (hd : (x == ("__debug__" : Str)) = false := by decide) (hcd : (x == ("__classdict__" : Str)) = false := by decide) : DEq X Er (.Name x pos) (tVar i) (vqE i) :=
  ⟨pe_var hN hv hd hcd, dr_varq⟩
theorem deq_of {e : Expr} {f : EF} (h : DE X Er e te f) : DEq X Er e te f :=
  ⟨h.pe, fun F H σ ρ Q s st p => h.rd F H σ ρ Q s st (Post.imp p fun _ _ _ _ q v dv => q v (.inl dv))⟩
theorem de_int {i : Int} {j pos} : DE X Er (.Constant (.int i) j pos) (tC (.int i)) (cE (.int i)) := ⟨pe_int, dr_c fun _ => .int i⟩
theorem de_bl {b : Bool} {j pos} : DE X Er (.Constant (.bool b) j pos) (tC (.bl b)) (cE (.bool b)) := ⟨pe_bl, dr_c fun _ => .bl b⟩
theorem de_non {j pos} : DE X Er (.Constant .none j pos) (tC .non) (cE .none) := ⟨pe_non, dr_c fun _ => .non⟩
theorem de_str {x : Str} {j pos} : DE X Er (.Constant (.str x) j pos) (tC (.str x)) (cE (.str x)) := ⟨pe_str, dr_c fun _ => .str x⟩
theorem de_globI {x : Str} {i : Int} {t : Tok} {pos : Pos} (hg : Gl X x) (hm : X.mg x = some (.int i t)) (hdb : (x == ("__debug__" : Str)) = false := by decide) : DE X Er (.Name x pos) (tC (.int i)) (cE (.int i)) :=
  ⟨pe_glob hg hm ⟨_, rfl⟩ hdb, dr_c fun _ => .int i⟩
theorem de_globS {x : Str} {i : Str} {t : Tok} {pos : Pos} (hg : Gl X x) (hm : X.mg x = some (.str i t)) (hdb : (x == ("__debug__" : Str)) = false := by decide) : DE X Er (.Name x pos) (tC (.str i)) (cE (.str i)) :=
  ⟨pe_glob hg hm ⟨_, rfl⟩ hdb, dr_c fun _ => .str i⟩

/-- an operation by values on data -/
def OpG (K : PySem.W.Frag) (r : R2) (g : D → D → Option D) : Prop := ∀ F H x y a b d Q, Wf F H → Dp K F x a → Dp K F y b → g a b = some d → (∀ v F' H', Grow F H F' H' → Dp K F' v d → Q v H') → r x y H Q
theorem dr_op {r : R2} {g : D → D → Option D} {fa fb : EF} (ho : OpG K r g) (ha : DRd K Er ta fa) (hb : DRd K Er tb fb) : DRd K Er (tOp r ta tb) (op2E g fa fb) := by
  intro F H σ ρ Q s st h
  refine ha F H σ ρ _ s st (Post.imp (Post.bind h) fun F1 H1 a g1 p1 v dv => ?_)
  refine hb F1 H1 σ ρ _ g1.fh (st.mono g1.ff) (Post.imp (Post.bind p1) fun F2 H2 b g2 p2 u du => ?_)
  unfold oE at p2
  cases e : g a b with
  | none => simp only [e] at p2; exact p2.elim
  | some d =>
    simp only [e] at p2
    exact ho F2 H2 v u a b d _ g2.fh (dp_mono g2.ff a v dv) du e fun v' F' H' gr dv' => Post.done p2 gr v' dv'
theorem de_op {a b : Expr} {pos : Pos} {op : Operator} {r : R2} {g : D → D → Option D} {fa fb : EF} (hr : OpR X (binaryOp op) r) (ho : OpG X.K r g) (ha : DE X Er a ta fa) (hb : DE X Er b tb fb) : DE X Er (.BinOp a op b pos) (tOp r ta tb) (op2E g fa fb) :=
  ⟨pe_op hr ha.pe hb.pe, dr_op ho ha.rd hb.rd⟩
theorem de_cmp {a b : Expr} {pos : Pos} {op : CmpOp} {r : R2} {g : D → D → Option D} {fa fb : EF} (hr : OpR X (compareOp op) r) (ho : OpG X.K r g) (ha : DE X Er a ta fa) (hb : DE X Er b tb fb) (hm : behindInMarks op b = false) : DE X Er (.Compare a [op] [b] pos) (tOp r ta tb) (op2E g fa fb) :=
  ⟨pe_cmpR hr ha.pe hb.pe hm, dr_op ho ha.rd hb.rd⟩
theorem de_ix {a b : Expr} {pos : Pos} {r : R2} {g : D → D → Option D} {fa fb : EF} (hr : IxR X r) (ho : OpG X.K r g) (ha : DE X Er a ta fa) (hb : DE X Er b tb fb) (hs : PlainIx b) : DE X Er (.Subscript a b pos) (tOp r ta tb) (op2E g fa fb) :=
  ⟨pe_ix hr ha.pe hb.pe hs, dr_op ho ha.rd hb.rd⟩
/-- a chain of two comparisons -/
def chE (g g' : D → D → Option D) (a b c : EF) : EF := bE a fun x => bE b fun y => bE (oE (g x y)) fun z => bE (oE (boolD z)) fun k => if k = true then bE c fun u => oE (g' y u) else cE (.bool false)
theorem dr_chain {r r' : R2} {g g' : D → D → Option D} {fa fb fc : EF} (ho : OpG K r g) (ho' : OpG K r' g') (ha : DRd K Er ta fa) (hb : DRd K Er tb fb) (hc : DRd K Er tc fc) : DRd K Er (tChain r r' ta tb tc) (chE g g' fa fb fc) := by
  intro F H σ ρ Q s st h
  refine ha F H σ ρ _ s st (Post.imp (Post.bind h) fun F1 H1 a g1 p1 v dv => ?_)
  refine hb F1 H1 σ ρ _ g1.fh (st.mono g1.ff) (Post.imp (Post.bind p1) fun F2 H2 b g2 p2 u du => ?_)
  unfold bE oE at p2
  cases e : g a b with
  | none => simp only [e] at p2; exact p2.elim
  | some z =>
    simp only [e, R.of_some, R.bind_ok] at p2
    cases e2 : boolD z with
    | none => simp only [e2] at p2; exact p2.elim
    | some k =>
      simp only [e2, R.of_some, R.bind_ok] at p2
      have ez : z = .bool k := by
        cases z <;> simp [boolD] at e2
        rw [e2]
      subst ez
      refine ho F2 H2 v u a b _ _ g2.fh (dp_mono g2.ff a v dv) du e fun v' F' H' gr dv' => ?_
      cases dv'
      refine ⟨k, rfl, ?_⟩
      cases k with
      | false => exact Post.done p2 gr _ (.bl false)
      | true =>
        rw [if_pos rfl] at p2
        rw [if_pos rfl]
        refine hc F' H' σ ρ _ gr.fh (((st.mono g1.ff).mono g2.ff).mono gr.ff) (Post.imp (Post.bind (Post.mono p2 gr)) fun F3 H3 c g3 p3 q dq => ?_)
        cases e3 : g' b c with
        | none => simp only [e3] at p3; exact p3.elim
        | some d =>
          simp only [e3] at p3
          exact ho' F3 H3 u q b c d _ g3.fh (dp_mono g3.ff b u (dp_mono gr.ff b u du)) dq e3 fun v' F' H' gr' dv' => Post.done p3 gr' v' dv'
theorem de_chain {a b c : Expr} {pos : Pos} {op op' : CmpOp} {r r' : R2} {g g' : D → D → Option D} {fa fb fc : EF} (hr : OpR X (compareOp op) r) (hr' : OpR X (compareOp op') r') (ho : OpG X.K r g) (ho' : OpG X.K r' g') (ha : DE X Er a ta fa) (hb : DE X Er b tb fb) (hc : DE X Er c tc fc)
    (hm : lastMarks [op, op'] [b, c] = false := by with_unfolding_all rfl) : DE X Er (.Compare a [op, op'] [b, c] pos) (tChain r r' ta tb tc) (chE g g' fa fb fc) :=
  ⟨pe_chain hr hr' ha.pe hb.pe hc.pe hm, dr_chain ho ho' ha.rd hb.rd hc.rd⟩
/-! tests -/
theorem dr_test {f : EF} (h : DRd K Er te f) : DRt K Er (tB te) (testE f) := by
  intro F H σ ρ Q s st p
  refine h F H σ ρ _ s st (Post.imp (Post.bind p) fun F1 H1 a g1 p1 v dv => ?_)
  cases a with
  | bool k => cases dv; exact ⟨k, rfl, Post.now p1 g1.fh⟩
  | _ => exact p1.elim
theorem dt_val {e : Expr} {f : EF} (h : DE X Er e te f) (he : ∀ whole, isTrue e X.env whole = (do let v ← whole; standAt e.pos; holding [v] (truthy v)) := by intro _; rfl) : DT X Er e (tB te) (testE f) :=
  ⟨pt_val h.pe he, dr_test h.rd⟩
theorem dt_cmp {a b : Expr} {pos : Pos} {op : CmpOp} {r : R2} {g : D → D → Option D} {fa fb : EF} (hr : OpR X (compareOp op) r) (ho : OpG X.K r g) (ha : DE X Er a ta fa) (hb : DE X Er b tb fb) (hm : behindInMarks op b = false) : DT X Er (.Compare a [op] [b] pos) (tTest (tOp r ta tb)) (testE (op2E g fa fb)) :=
  ⟨pt_cmpR hr ha.pe hb.pe hm, dr_test (dr_op ho ha.rd hb.rd)⟩
theorem dt_chain {a b c : Expr} {pos : Pos} {op op' : CmpOp} {r r' : R2} {g g' : D → D → Option D} {fa fb fc : EF} (hr : OpR X (compareOp op) r) (hr' : OpR X (compareOp op') r') (ho : OpG X.K r g) (ho' : OpG X.K r' g') (ha : DE X Er a ta fa) (hb : DE X Er b tb fb) (hc : DE X Er c tc fc)
    (hm : lastMarks [op, op'] [b, c] = false := by with_unfolding_all rfl) : DT X Er (.Compare a [op, op'] [b, c] pos) (tTest (tChain r r' ta tb tc)) (testE (chE g g' fa fb fc)) :=
  ⟨pt_chain hr hr' ha.pe hb.pe hc.pe hm, dr_test (dr_chain ho ho' ha.rd hb.rd hc.rd)⟩
theorem dw_pt {e : Expr} {f : TF} (h : DW X Er e tt f) : DT X Er e tt f := ⟨h.pe.pt, h.rd⟩
variable {a b : Expr} {rest : List Expr} {pos : Pos} {fa fb : TF} {ea eb : EF}
theorem dw_and1 (h : DT X Er a tt fa) : DW X Er (.BoolOp .And [a] pos) tt fa := ⟨pw_and1 h.pe, h.rd⟩
theorem dw_or1 (h : DT X Er a tt fa) : DW X Er (.BoolOp .Or [a] pos) tt fa := ⟨pw_or1 h.pe, h.rd⟩
theorem dw_and (h : DT X Er a tt fa) (k : DW X Er (.BoolOp .And (b :: rest) pos) tu fb) : DW X Er (.BoolOp .And (a :: b :: rest) pos) (tAnd tt tu) (andT fa fb) := by
  refine ⟨pw_and h.pe k.pe, fun F H σ ρ Q s st p => ?_⟩
  refine h.rd F H σ ρ _ s st (Post.imp (Post.bind p) fun F1 H1 c g1 p1 => ?_)
  cases c with
  | true => exact k.rd F1 H1 σ ρ Q g1.fh (st.mono g1.ff) p1
  | false => exact Post.now p1 g1.fh
theorem dw_or (h : DT X Er a tt fa) (k : DW X Er (.BoolOp .Or (b :: rest) pos) tu fb) : DW X Er (.BoolOp .Or (a :: b :: rest) pos) (tOr tt tu) (orT fa fb) := by
  refine ⟨pw_or h.pe k.pe, fun F H σ ρ Q s st p => ?_⟩
  refine h.rd F H σ ρ _ s st (Post.imp (Post.bind p) fun F1 H1 c g1 p1 => ?_)
  cases c with
  | false => exact k.rd F1 H1 σ ρ Q g1.fh (st.mono g1.ff) p1
  | true => exact Post.now p1 g1.fh
theorem dt_not (h : DT X Er a tt fa) : DT X Er (.UnaryOp .Not a pos) (tNot tt) (notT fa) :=
  ⟨pt_not h.pe, fun F H σ ρ Q s st p => h.rd F H σ ρ _ s st (Post.imp (Post.bind p) fun F1 H1 c g1 p1 => Post.now p1 g1.fh)⟩
/-! and, or, not as values (of bools) -/
def andE (a b : EF) : EF := bE a fun x => bE (oE (boolD x)) fun k => if k = true then b else cE (.bool false)
def orE (a b : EF) : EF := bE a fun x => bE (oE (boolD x)) fun k => if k = true then cE (.bool true) else b
def notE (a : EF) : EF := bE a fun x => bE (oE (boolD x)) fun k => cE (.bool (!k))
theorem de_one {op} (h : DE X Er a te ea) : DE X Er (.BoolOp op [a] pos) te ea := ⟨pe_one h.pe, h.rd⟩
theorem de_and (h : DE X Er a ta ea) (k : DE X Er (.BoolOp .And (b :: rest) pos) tb eb) : DE X Er (.BoolOp .And (a :: b :: rest) pos) (tAndV ta tb) (andE ea eb) := by
  refine ⟨pe_and h.pe k.pe, fun F H σ ρ Q s st p => ?_⟩
  refine h.rd F H σ ρ _ s st (Post.imp (Post.bind p) fun F1 H1 c g1 p1 v dv => ?_)
  cases c with
  | bool b =>
    cases dv
    refine ⟨b, rfl, ?_⟩
    cases b with
    | true => exact k.rd F1 H1 σ ρ Q g1.fh (st.mono g1.ff) p1
    | false => exact Post.now p1 g1.fh _ (.bl false)
  | _ => exact p1.elim
theorem de_or (h : DE X Er a ta ea) (k : DE X Er (.BoolOp .Or (b :: rest) pos) tb eb) : DE X Er (.BoolOp .Or (a :: b :: rest) pos) (tOrV ta tb) (orE ea eb) := by
  refine ⟨pe_or h.pe k.pe, fun F H σ ρ Q s st p => ?_⟩
  refine h.rd F H σ ρ _ s st (Post.imp (Post.bind p) fun F1 H1 c g1 p1 v dv => ?_)
  cases c with
  | bool b =>
    cases dv
    refine ⟨b, rfl, ?_⟩
    cases b with
    | false => exact k.rd F1 H1 σ ρ Q g1.fh (st.mono g1.ff) p1
    | true => exact Post.now p1 g1.fh _ (.bl true)
  | _ => exact p1.elim
theorem de_not (h : DE X Er a te ea) : DE X Er (.UnaryOp .Not a pos) (tNotV te) (notE ea) := by
  refine ⟨pe_not h.pe, fun F H σ ρ Q s st p => ?_⟩
  refine h.rd F H σ ρ _ s st (Post.imp (Post.bind p) fun F1 H1 c g1 p1 v dv => ?_)
  cases c with
  | bool k => cases dv; exact ⟨k, rfl, Post.now p1 g1.fh _ (.bl _)⟩
  | _ => exact p1.elim
theorem de_if {c : Expr} (hc : DT X Er c tt fa) (h : DE X Er a ta ea) (k : DE X Er b tb eb) : DE X Er (.IfExp c a b pos) (tIf tt ta tb) (ifE fa ea eb) := by
  refine ⟨pe_ifExp hc.pe h.pe k.pe, fun F H σ ρ Q s st p => ?_⟩
  refine hc.rd F H σ ρ _ s st (Post.imp (Post.bind p) fun F1 H1 c g1 p1 => ?_)
  cases c with
  | true => exact h.rd F1 H1 σ ρ Q g1.fh (st.mono g1.ff) p1
  | false => exact k.rd F1 H1 σ ρ Q g1.fh (st.mono g1.ff) p1
/-! arguments, displays -/
theorem da_nil : DA X Er [] tNil nilA := ⟨pa_nil, fun F H σ ρ Q s st h => h.now s [] .nil⟩
theorem da_cons {e : Expr} {es : List Expr} {f : EF} {r : AF} {tr : TA} (h : DE X Er e te f) (k : DA X Er es tr r) (hs : starEach (e :: es) X.env = (false, eval e X.env) :: starEach es X.env := by rfl) : DA X Er (e :: es) (tCons te tr) (consA f r) := by
  refine ⟨pa_cons h.pe k.pe hs, fun F H σ ρ Q s st p => ?_⟩
  refine h.rd F H σ ρ _ s st (Post.imp (Post.bind p) fun F1 H1 a g1 p1 v dv => ?_)
  refine k.rd F1 H1 σ ρ _ g1.fh (st.mono g1.ff) (Post.imp (Post.bind p1) fun F2 H2 ds g2 p2 vs dvs => ?_)
  exact Post.now p2 g2.fh _ (.cons (dp_mono g2.ff a v dv) dvs)
theorem daq_nil : DAq X Er [] tNil nilA := ⟨pa_nil, fun F H σ ρ Q s st h => h.now s [] trivial⟩
theorem daq_cons {e : Expr} {es : List Expr} {f : EF} {r : AF} {tr : TA} (h : DEq X Er e te f) (k : DAq X Er es tr r) (hs : starEach (e :: es) X.env = (false, eval e X.env) :: starEach es X.env := by rfl) : DAq X Er (e :: es) (tCons te tr) (consA f r) := by
  refine ⟨pa_cons h.pe k.pe hs, fun F H σ ρ Q s st p => ?_⟩
  refine h.rd F H σ ρ _ s st (Post.imp (Post.bind p) fun F1 H1 a g1 p1 v dv => ?_)
  refine k.rd F1 H1 σ ρ _ g1.fh (st.mono g1.ff) (Post.imp (Post.bind p1) fun F2 H2 ds g2 p2 vs dvs => ?_)
  exact Post.now p2 g2.fh _ ⟨dq_mono g2.ff dv, dvs⟩
theorem daq_of {es : List Expr} {f : AF} {tr : TA} (h : DA X Er es tr f) : DAq X Er es tr f :=
  ⟨h.pe, fun F H σ ρ Q s st p => h.rd F H σ ρ Q s st (Post.imp p fun _ _ _ _ q v dv => q v (dqAll_of dv))⟩
theorem small_ok {ds : List D} {F H : Hp} {P : Hp → Hp → List D → Prop} (p : Post F H Er ((fun xs => oE (α := List D) (if xs.length ≤ 1000000 then some xs else none)) ds ([] : Env)) P) (s : Wf F H) : ds.length ≤ 1000000 ∧ P F H ds := by
  by_cases hl : ds.length ≤ 1000000
  · simp only [oE, if_pos hl] at p
    exact ⟨hl, Post.now p s⟩
  · simp only [oE, if_neg hl] at p
    exact p.elim
theorem de_tup {es : List Expr} {f : AF} {tr : TA} {k} (h : DA X Er es tr f) : DE X Er (.Tuple es k pos) (tTup tr) (tupE f) := by
  refine ⟨pe_tup h.pe, fun F H σ ρ Q s st p => ?_⟩
  refine h.rd F H σ ρ _ s st (Post.imp (Post.bind (Post.bind p)) fun F1 H1 ds g1 p1 vs dvs => ?_)
  have el := dpAll_len dvs
  obtain ⟨hl, p2⟩ := small_ok p1 g1.fh
  refine ⟨sz_of (by omega), fun a ha => ?_⟩
  exact Post.done p2 (Grow.new g1.fh ha) _ (.tup (.inl (.inl upd_same)) (dpAll_mono (Grow.new g1.fh ha).ff ds vs dvs))
theorem dn_lst {es : List Expr} {f : AF} {tr : TA} (h : DA X Er es tr f) : DN X Er (.List es pos) (tLst tr) (smallA f) := by
  refine ⟨pe_lst h.pe, fun F H σ ρ Q s st p => ?_⟩
  refine h.rd F H σ ρ _ s st (Post.imp (Post.bind p) fun F1 H1 ds g1 p1 vs dvs => ?_)
  have el := dpAll_len dvs
  obtain ⟨hl, p2⟩ := small_ok p1 g1.fh
  exact ⟨sz_of (by omega), fun a ha => p2 a vs ha dvs⟩
/-- a new list, from now on frozen -/
theorem de_new {e : Expr} {f : AF} (h : DN X Er e te f) : DE X Er e te (lstE f) := by
  refine ⟨h.pe, fun F H σ ρ Q s st p => ?_⟩
  refine h.rd F H σ ρ _ s st (Post.imp (Post.bind p) fun F1 H1 ds g1 p1 a vs ha dvs => ?_)
  exact Post.done p1 (Grow.new g1.fh ha) _ (.lst (.inl (.inl upd_same)) (dpAll_mono (Grow.new g1.fh ha).ff ds vs dvs))
end
end DL

/-! DL1: operators and calls on data. -/
namespace DL
open PySem PySem.Spec PyProof.Rows L2
variable [Mem]

theorem grow_upd {F H : Hp} {o : HO} (s : Wf F H) {p : Addr} (h : H p = none) : Grow F H (upd F p o) (upd H p o) := Grow.new s h

/-! ### arithmetic -/
def addD : D → D → Option D
  | .int i, .int j => some (.int (i + j))
  | .str x, .str y => if x.length + y.length ≤ 1000000 then some (.str (x ++ y)) else none
  | .tuple xs, .tuple ys => if xs.length + ys.length ≤ 1000000 then some (.tuple (xs ++ ys)) else none
  | .list xs, .list ys => if xs.length + ys.length ≤ 1000000 then some (.list (xs ++ ys)) else none
  | _, _ => none
def subD : D → D → Option D
  | .int i, .int j => some (.int (i - j))
  | _, _ => none
def modD : D → D → Option D
  | .int i, .int j => if 0 < j then some (.int (i % j)) else none
  | _, _ => none
def fdivD : D → D → Option D
  | .int i, .int j => if 0 < j ∧ j < 1073741824 then some (.int (i / j)) else none
  | _, _ => none
def powD : D → D → Option D
  | .int i, .int j => if 0 ≤ j ∧ j ≤ 1000000 ∧ i.natAbs < 2 ^ 64 then some (.int (i ^ j.toNat)) else none
  | _, _ => none
def mulD : D → D → Option D
  | .int i, .int j => if (-(2 ^ 64) < i ∧ i < 2 ^ 64) ∨ (-(2 ^ 64) < j ∧ j < 2 ^ 64) then some (.int (i * j)) else none
  | .tuple xs, .int k => if xs ≠ [] ∧ 1 ≤ k ∧ k ≤ 1000 ∧ xs.length ≤ 1000 then some (.tuple (List.replicate k.toNat xs).flatten) else none
  | .list xs, .int k => if -(2 ^ 63) ≤ k ∧ k < 2 ^ 63 ∧ xs.length * k.toNat ≤ 1000000 then some (.list (List.replicate k.toNat xs).flatten) else none
  | _, _ => none
section
variable {X : Cx} {K : PySem.W.Frag}
/-- xs + ys, the lists known any way -/
def rCatS (K : PySem.W.Frag) : R2 := fun x y H Q => ∃ l b xs zs, x = .ref l ∧ y = .ref b ∧ SqL K H l xs ∧ SqL K H b zs ∧ xs.length + zs.length ≤ sizeLine ∧ ∀ p, H p = none → Q (.ref p) (upd H p (.lst (xs ++ zs)))
theorem op_catS : OpR X (binaryOp .Add) (rCatS X.K) := by
  intro pins s σ H x y v u Q I rx ry h
  obtain ⟨l, b, xs, zs, rfl, rfl, hH, hB, hz, q⟩ := h
  cases rx
  cases ry
  obtain ⟨its, r, ⟨⟨cls, dd, data, sl⟩, n, ho, hc, hdn, hd⟩, _⟩ := I.list hH
  obtain ⟨its2, r2, ⟨⟨cls2, dd2, data2, sl2⟩, n2, ho2, hc2, hdn2, hd2⟩, _⟩ := I.list hB
  simp only at hc hd hc2 hd2
  subst hc hd hc2 hd2
  have hl := r.length
  have hl2 := r2.length
  have e : its.toArray ++ its2.toArray = (its ++ its2).toArray := by simp
  refine PySem.concat_meets ⟨_, ho, rfl⟩ ⟨_, ho2, rfl⟩ PySem.noFill_list_add PySem.seq_list_add PySem.F.slot_list_add PySem.F.entry_list_add (PySem.F.args_list_add_2 _ _) (PyProof.Rows.list_addW l b its.toArray its2.toArray n n2 dd dd2 sl sl2 (by simp; omega)) ⟨ho, ho2, ?_⟩
  rw [e]
  exact ⟨.ref _, _, I.lnew (t' := s.toks) (r.append r2) (by rw [List.length_append]; omega), rfl, q _ I.fresh⟩
def rAddA (K : PySem.W.Frag) : R2 := fun x y H Q => (rI0 (fun i j => .int (i + j)) x y H Q ∨ ((∃ i j, x = .str i ∧ y = .str j ∧ i.length + j.length ≤ sizeLine ∧ Q (.str (i ++ j)) H) ∨ (rCatA K x y H Q ∨ rCatS K x y H Q)))
theorem op_addA : OpR X (binaryOp .Add) (rAddA X.K) := op_add.or (op_add_str.or (op_catA.or op_catS))
theorem og_add : OpG K (rAddA K) addD := by
  intro F H x y a b d Q s hx hy e k
  cases hx <;> cases hy <;> simp only [addD] at e <;> try (simp at e; done)
  · cases e
    exact .inl ⟨_, _, rfl, rfl, k _ F H (.refl s) (.int _)⟩
  · split at e <;> cases e
    rename_i hl
    exact .inr (.inl ⟨_, _, rfl, rfl, sz_of hl, k _ F H (.refl s) (.str _)⟩)
  · split at e <;> cases e
    rename_i h1 h2 _ _ _ h3 h4 hl
    have l1 := dpAll_len h2
    have l2 := dpAll_len h4
    refine .inr (.inr (.inr ⟨_, _, _, _, rfl, rfl, same_seqL s.s h1, same_seqL s.s h3, sz_of (by omega), fun p hp => ?_⟩))
    exact k _ _ _ (Grow.new s hp) (.lst (.inl (.inl upd_same)) (dpAll_mono (Grow.new s hp).ff _ _ (dpAll_app h2 h4)))
  · split at e <;> cases e
    rename_i h1 h2 _ _ _ h3 h4 hl
    have l1 := dpAll_len h2
    have l2 := dpAll_len h4
    refine .inr (.inr (.inl ⟨_, _, _, _, rfl, rfl, same_seqT s.s h1, same_seqT s.s h3, sz_of (by omega), fun z => ?_, fun z1 z2 => ?_, fun _ _ p hp => ?_⟩))
    · subst z
      cases h2
      exact k _ F H (.refl s) (.tup h3 h4)
    · subst z2
      cases h4
      rw [List.append_nil] at k
      exact k _ F H (.refl s) (.tup h1 h2)
    · exact k _ _ _ (Grow.new s hp) (.tup (.inl (.inl upd_same)) (dpAll_mono (Grow.new s hp).ff _ _ (dpAll_app h2 h4)))
theorem og_sub : OpG K (rI0 fun i j => .int (i - j)) subD := by
  intro F H x y a b d Q s hx hy e k
  cases hx <;> cases hy <;> simp only [subD] at e <;> try (simp at e; done)
  cases e
  exact ⟨_, _, rfl, rfl, k _ F H (.refl s) (.int _)⟩
theorem og_mod : OpG K (rI (fun _ j => 0 < j) fun i j => .int (i % j)) modD := by
  intro F H x y a b d Q s hx hy e k
  cases hx <;> cases hy <;> simp only [modD] at e <;> try (simp at e; done)
  split at e <;> cases e
  rename_i h
  exact ⟨_, _, rfl, rfl, h, k _ F H (.refl s) (.int _)⟩
theorem og_fdiv : OpG K (rI CDiv fun i j => .int (i / j)) fdivD := by
  intro F H x y a b d Q s hx hy e k
  cases hx <;> cases hy <;> simp only [fdivD] at e <;> try (simp at e; done)
  split at e <;> cases e
  rename_i h
  exact ⟨_, _, rfl, rfl, h, k _ F H (.refl s) (.int _)⟩
theorem og_pow : OpG K (rI CPow fun i j => .int (i ^ j.toNat)) powD := by
  intro F H x y a b d Q s hx hy e k
  cases hx <;> cases hy <;> simp only [powD] at e <;> try (simp at e; done)
  split at e <;> cases e
  rename_i h
  exact ⟨_, _, rfl, rfl, h, k _ F H (.refl s) (.int _)⟩
/-- xs * k, the list known any way -/
def rRepS (K : PySem.W.Frag) : R2 := fun x y H Q => ∃ l k xs, x = .ref l ∧ y = .int k ∧ SqL K H l xs ∧ -(2 ^ 63) ≤ k ∧ k < 2 ^ 63 ∧ xs.length * k.toNat ≤ 1000000 ∧
  ∀ p, H p = none → Q (.ref p) (upd H p (.lst (List.replicate k.toNat xs).flatten))
theorem op_repS : OpR X (binaryOp .Mult) (rRepS X.K) := by
  intro pins s σ H x y v u Q I rx ry h
  obtain ⟨l, k, xs, rfl, rfl, hH, h1, h2, hz, q⟩ := h
  cases rx
  obtain ⟨t, rfl⟩ := ry
  obtain ⟨its, r, ⟨⟨cls, dd, data, sl⟩, n, ho, hc, hdn, hd⟩, _⟩ := I.list hH
  simp only at hc hd
  subst hc hd
  have hl := r.length
  have hsz' : its.toArray.size * k.toNat ≤ 2 ^ 24 := by rw [List.size_toArray, ← hl]; omega
  refine wpAny_binaryOp_repeat_ref (T := "list") (U := "int") (by decide) ⟨_, ho, rfl⟩ (fun s' => typeIs_int s' k t) noFill_list_mul F.fills_int_mul F.slot_int_rmul repeat_list F.slot_int_index.lookup
    (call_meets F.slot_int_rmul (typeIs_int s k t) F.entry_int_rmul (F.args_int_rmul_2 _ _) (lm_int_rmul_list_any k t l its.toArray n dd sl)
      ⟨ho, rfl, ⟨_, ho, rfl⟩, call_meets F.slot_list_mul ⟨_, ho, rfl⟩ F.entry_list_mul (F.args_list_mul_2 _ _)
        (lm_list_mul_any l its.toArray n dd sl k t (by simp [Builtin.List.listFitsIndex]; omega) (by omega) (by simp [Builtin.List.listTooLong, sizeLine]; rw [List.size_toArray] at hsz'; omega))
        ⟨ho, ?_⟩⟩)
  have hnew := PyProof.Rows.listMul_foldl_if its.toArray k.toNat
  rw [hnew]
  exact ⟨.ref _, _, I.lnew (t' := s.toks) (r.rep k.toNat) (by rw [PyProof.Rows.lm_len_rep_flat, sizeLine_eq, Nat.mul_comm]; omega), rfl, q _ I.fresh⟩
theorem tuple_mul1 (l : Addr) (items : Array Value) (n : Nat) (dd : Option Addr) (sl : Array (Option Value)) (u : Tok) :
    PySem.Meets (Builtin.«tuple.__mul__» ⟨[.ref l, .int 1 u], []⟩) (fun _ R s => s.heap.get? l = some { cls := .type "tuple", dict := dd, data := .seq items n, slots := sl } ∧ R (.ok (.ret (Value.ref l))) { s with heap := s.heap, toks := s.toks }) :=
  .of_wp fun prog w A R s h => by
    obtain ⟨hp, g, d, tk, os⟩ := s
    obtain ⟨hl, h⟩ := h
    wp_walk using wpAny_loadPart' hl
    exact ⟨_, rfl, h⟩
/-- t * 1 is t -/
def rRepT1 (K : PySem.W.Frag) : R2 := fun x y H Q => ∃ l xs, x = .ref l ∧ y = .int 1 ∧ SqT K H l xs ∧ Q (.ref l) H
theorem op_repT1 : OpR X (binaryOp .Mult) (rRepT1 X.K) := by
  intro pins s σ H x y v u Q I rx ry h
  obtain ⟨l, xs, rfl, rfl, hT, q⟩ := h
  cases rx
  obtain ⟨t, rfl⟩ := ry
  obtain ⟨its, r, ⟨⟨cls, dd, data, sl⟩, ho, hc, n, hd⟩, hs⟩ := I.tuple hT
  simp only at hc hd
  subst hc hd
  refine wpAny_binaryOp_repeat_ref (T := "tuple") (U := "int") (by decide) ⟨_, ho, rfl⟩ (fun s' => typeIs_int s' 1 t) noFill_tuple_mul F.fills_int_mul F.slot_int_rmul repeat_tuple F.slot_int_index.lookup
    (call_meets F.slot_int_rmul (typeIs_int s 1 t) F.entry_int_rmul (F.args_int_rmul_2 _ _) (int_rmul_tuple 1 t l its.toArray n dd sl)
      ⟨ho, rfl, ⟨_, ho, rfl⟩, call_meets F.slot_tuple_mul ⟨_, ho, rfl⟩ F.entry_tuple_mul (F.args_tuple_mul_2 _ _) (tuple_mul1 l its.toArray n dd sl t) ⟨ho, ?_⟩⟩)
  exact ⟨.ref l, H, I.tok _, rfl, q⟩
def rMulA (K : PySem.W.Frag) : R2 := fun x y H Q => rI CMul (fun i j => .int (i * j)) x y H Q ∨ (rRepS K x y H Q ∨ (rRepT K x y H Q ∨ rRepT1 K x y H Q))
theorem op_mulA : OpR X (binaryOp .Mult) (rMulA X.K) := op_mul.or (op_repS.or (op_repT.or op_repT1))
theorem og_mul : OpG K (rMulA K) mulD := by
  intro F H x y a b d Q s hx hy e k
  cases hx <;> cases hy <;> simp only [mulD] at e <;> try (simp at e; done)
  · split at e <;> cases e
    rename_i h
    exact .inl ⟨_, _, rfl, rfl, h, k _ F H (.refl s) (.int _)⟩
  · split at e <;> cases e
    rename_i h1 h2 _ h
    have l1 := dpAll_len h2
    refine .inr (.inl ⟨_, _, _, rfl, rfl, same_seqL s.s h1, h.1, h.2.1, by rw [l1]; exact h.2.2, fun p hp => ?_⟩)
    exact k _ _ _ (Grow.new s hp) (.lst (.inl (.inl upd_same)) (dpAll_mono (Grow.new s hp).ff _ _ (dpAll_rep h2 _)))
  · split at e <;> cases e
    rename_i h1 h2 n h
    have l1 := dpAll_len h2
    by_cases hn : n = 1
    · subst hn
      refine .inr (.inr (.inr ⟨_, _, rfl, rfl, same_seqT s.s h1, ?_⟩))
      have k' := k _ F H (.refl s) (.tup h1 (by
        have := dpAll_rep h2 1
        simp only [List.replicate_one, List.flatten_cons, List.flatten_nil, List.append_nil] at this
        simpa using this))
      exact k'
    · refine .inr (.inr (.inl ⟨_, _, _, rfl, rfl, same_seqT s.s h1, ?_, by omega, h.2.2.1, by omega, fun p hp => ?_⟩))
      · intro z
        rw [z] at l1
        exact h.1 (List.eq_nil_of_length_eq_zero (by simpa using l1.symm))
      · exact k _ _ _ (Grow.new s hp) (.tup (.inl (.inl upd_same)) (dpAll_mono (Grow.new s hp).ff _ _ (dpAll_rep h2 _)))

/-! ### comparisons -/
def eqD (d e : D) : Option D := if SeqAt.shaped d = true ∧ SeqAt.shaped e = true then some (.bool (PyData.eqv d e)) else none
def neD (d e : D) : Option D := if SeqAt.shaped d = true ∧ SeqAt.shaped e = true then some (.bool (!PyData.eqv d e)) else none
def intsD (p : Int → Int → Bool) : D → D → Option D
  | .int i, .int j => some (.bool (p i j))
  | _, _ => none
abbrev ltD := intsD fun i j => decide (i < j)
abbrev leD := intsD fun i j => decide (i ≤ j)
abbrev gtD := intsD fun i j => decide (j < i)
abbrev geD := intsD fun i j => decide (j ≤ i)
theorem og_eq : OpG K (rEqD K) eqD := by
  intro F H x y a b d Q s hx hy e k
  unfold eqD at e
  split at e <;> cases e
  rename_i h
  exact ⟨a, b, (dp_mono s.s _ _ hx).oldS h.1, (dp_mono s.s _ _ hy).oldS h.2, h.1, h.2, k _ F H (.refl s) (.bl _)⟩
theorem og_ne : OpG K (rNeD K) neD := by
  intro F H x y a b d Q s hx hy e k
  unfold neD at e
  split at e <;> cases e
  rename_i h
  exact ⟨a, b, (dp_mono s.s _ _ hx).oldS h.1, (dp_mono s.s _ _ hy).oldS h.2, h.1, h.2, k _ F H (.refl s) (.bl _)⟩
theorem og_ints {p : Int → Int → Bool} : OpG K (rI0 fun i j => .bl (p i j)) (intsD p) := by
  intro F H x y a b d Q s hx hy e k
  cases hx <;> cases hy <;> simp only [intsD] at e <;> try (simp at e; done)
  cases e
  exact ⟨_, _, rfl, rfl, k _ F H (.refl s) (.bl _)⟩
/-- is None, is True, is False (and is not) -/
def isD : D → D → Option D
  | .none, .none => some (.bool true)
  | .bool _, .none => some (.bool false)
  | .int _, .none => some (.bool false)
  | .str _, .none => some (.bool false)
  | .list _, .none => some (.bool false)
  | .tuple _, .none => some (.bool false)
  | .bool a, .bool b => some (.bool (decide (a = b)))
  | _, _ => none
def notIsD (d e : D) : Option D := match isD d e with
  | some (.bool b) => some (.bool (!b))
  | _ => none
def rIsA : R2 := fun x y H Q => (y = .non ∧ Q (.bl (decide (x = .non))) H) ∨ rIsB x y H Q
def rNotA : R2 := fun x y H Q => (y = .non ∧ Q (.bl (!decide (x = .non))) H) ∨ rNotB x y H Q
theorem op_isA : OpR X (compareOp .Is) rIsA := op_isN.or op_isBl
theorem op_notA : OpR X (compareOp .IsNot) rNotA := op_notN.or op_notBl
theorem og_is : OpG K rIsA isD := by
  intro F H x y a b d Q s hx hy e k
  cases hx <;> cases hy <;> simp only [isD] at e <;> first | (simp at e; done) | skip
  all_goals first
    | (cases e; exact .inl ⟨rfl, k _ F H (.refl s) (.bl _)⟩)
    | (cases e; exact .inr ⟨_, _, rfl, rfl, k _ F H (.refl s) (.bl _)⟩)
theorem og_notIs : OpG K rNotA notIsD := by
  intro F H x y a b d Q s hx hy e k
  cases hx <;> cases hy <;> simp only [notIsD, isD] at e <;> first | (simp at e; done) | skip
  all_goals first
    | (cases e; exact .inl ⟨rfl, k _ F H (.refl s) (.bl _)⟩)
    | (cases e; exact .inr ⟨_, _, rfl, rfl, k _ F H (.refl s) (.bl _)⟩)
/-- x in a list, a tuple, (one sign) in a text -/
def inD (d : D) : D → Option Bool
  | .list ds => if SeqAt.shaped d = true ∧ SeqAt.shaped (.list ds) = true then some (ds.any fun z => PyData.eqv z d) else none
  | .tuple ds => if SeqAt.shaped d = true ∧ SeqAt.shaped (.tuple ds) = true then some (ds.any fun z => PyData.eqv z d) else none
  | .str z => match d with
    | .str c => if c.cps.size = 1 then some (decide (c.cps.getD 0 0 ∈ z.cps.toList)) else none
    | _ => none
  | _ => none
def inE (d e : D) : Option D := (inD d e).map .bool
def notInE (d e : D) : Option D := (inD d e).map fun b => .bool (!b)
def rInT (K : PySem.W.Frag) (neg : Bool) : R2 := fun x y H Q => ∃ d ds, Dp K H x d ∧ Dp K H y (.tuple ds) ∧ SeqAt.shaped d = true ∧ SeqAt.shaped (.tuple ds) = true ∧ Q (.bl (if neg then !ds.any (fun z => PyData.eqv z d) else ds.any fun z => PyData.eqv z d)) H
theorem shapedT_L {ds : List PyData} (h : SeqAt.shaped (.tuple ds) = true) : PyData.canLayAll0 ds = true := SeqAt.canLay_of_shaped h
theorem op_inT (hu : X.A.units + 65 < cLine) : OpR X (compareOp .In) (rInT X.K false) := by
  intro pins s σ H x y v u Q I rx ry h
  obtain ⟨d, ds, hd, he, sd, se, q⟩ := h
  obtain ⟨as, r1⟩ := Dp.reads I d x v (hd.oldS sd) rx
  obtain ⟨bs, r2⟩ := Dp.reads I (.tuple ds) y u (he.oldS se) ry
  exact SeqAt.in_tuple_reads r2 r1 (shapedT_L se) (SeqAt.canLay_of_shaped sd) (PyProof.Rows.room_in_shaped sd hu) ⟨.bl _, H, I, rfl, q⟩
theorem op_notInT (hu : X.A.units + 65 < cLine) : OpR X (compareOp .NotIn) (rInT X.K true) := by
  intro pins s σ H x y v u Q I rx ry h
  obtain ⟨d, ds, hd, he, sd, se, q⟩ := h
  obtain ⟨as, r1⟩ := Dp.reads I d x v (hd.oldS sd) rx
  obtain ⟨bs, r2⟩ := Dp.reads I (.tuple ds) y u (he.oldS se) ry
  exact SeqAt.notIn_tuple_reads r2 r1 (shapedT_L se) (SeqAt.canLay_of_shaped sd) (PyProof.Rows.room_in_shaped sd hu) ⟨.bl _, H, I, rfl, q⟩
def rInC : R2 := fun x y H Q => ∃ (c : Nat) (z : Str), x = .str ⟨#[c]⟩ ∧ y = .str z ∧ Q (.bl (decide (c ∈ z.cps.toList))) H
def rNotInC : R2 := fun x y H Q => ∃ (c : Nat) (z : Str), x = .str ⟨#[c]⟩ ∧ y = .str z ∧ Q (.bl (!decide (c ∈ z.cps.toList))) H
def rInA (K : PySem.W.Frag) : R2 := fun x y H Q => rInD K x y H Q ∨ (rInT K false x y H Q ∨ rInC x y H Q)
def rNotInA (K : PySem.W.Frag) : R2 := fun x y H Q => rNotInD K x y H Q ∨ (rInT K true x y H Q ∨ rNotInC x y H Q)
theorem op_inA (hu : X.A.units + 65 < cLine) : OpR X (compareOp .In) (rInA X.K) := (op_inD hu).or ((op_inT hu).or op_in_sign)
theorem op_notInA (hu : X.A.units + 65 < cLine) : OpR X (compareOp .NotIn) (rNotInA X.K) := (op_notInD hu).or ((op_notInT hu).or op_notIn_sign)
theorem one_sign {c : Str} (h : c.cps.size = 1) : c = ⟨#[c.cps.getD 0 0]⟩ := by
  obtain ⟨⟨l⟩⟩ := c
  match l, h with
  | [a], _ => rfl
theorem og_in : OpG K (rInA K) inE := by
  intro F H x y a b d Q s hx hy e k
  unfold inE at e
  cases b with
  | list ds =>
    simp only [inD] at e
    split at e <;> cases e
    rename_i h
    exact .inl ⟨a, ds, (dp_mono s.s _ _ hx).oldS h.1, (dp_mono s.s _ _ hy).oldS h.2, h.1, h.2, k _ F H (.refl s) (.bl _)⟩
  | tuple ds =>
    simp only [inD] at e
    split at e <;> cases e
    rename_i h
    exact .inr (.inl ⟨a, ds, dp_mono s.s _ _ hx, dp_mono s.s _ _ hy, h.1, h.2, k _ F H (.refl s) (.bl _)⟩)
  | str z =>
    cases a with
    | str c =>
      simp only [inD] at e
      split at e <;> cases e
      rename_i h
      cases hx
      cases hy
      exact .inr (.inr ⟨_, z, by rw [one_sign h]; rfl, rfl, k _ F H (.refl s) (.bl _)⟩)
    | _ => simp [inD] at e
  | _ => simp [inD] at e
theorem og_notIn : OpG K (rNotInA K) notInE := by
  intro F H x y a b d Q s hx hy e k
  unfold notInE at e
  cases b with
  | list ds =>
    simp only [inD] at e
    split at e <;> cases e
    rename_i h
    exact .inl ⟨a, ds, (dp_mono s.s _ _ hx).oldS h.1, (dp_mono s.s _ _ hy).oldS h.2, h.1, h.2, k _ F H (.refl s) (.bl _)⟩
  | tuple ds =>
    simp only [inD] at e
    split at e <;> cases e
    rename_i h
    exact .inr (.inl ⟨a, ds, dp_mono s.s _ _ hx, dp_mono s.s _ _ hy, h.1, h.2, k _ F H (.refl s) (.bl _)⟩)
  | str z =>
    cases a with
    | str c =>
      simp only [inD] at e
      split at e <;> cases e
      rename_i h
      cases hx
      cases hy
      exact .inr (.inr ⟨_, z, by rw [one_sign h]; rfl, rfl, k _ F H (.refl s) (.bl _)⟩)
    | _ => simp [inD] at e
  | _ => simp [inD] at e

/-! ### items, slices -/
def ixD : D → D → Option D
  | .list xs, .int i => atI xs i
  | .tuple xs, .int i => atI xs i
  | .str z, .int i => if z.length ≤ 1000000 then (atI z.cps.toList i).map fun c => .str ⟨#[c]⟩ else none
  | _, _ => none
theorem dpAll_at {F : Hp} {ds : List D} {vs : List V} {i : Int} {d : D} (h : DpAll K F vs ds) (e : atI ds i = some d) : ∃ v, atI vs i = some v ∧ Dp K F v d := by
  unfold atI at e ⊢
  rw [dpAll_len h]
  cases z : ixN ds.length i with
  | none => rw [z] at e; simp at e
  | some j =>
    rw [z] at e
    obtain ⟨v, e1, e2⟩ := dpAll_get h (by simpa using e)
    exact ⟨v, by simpa using e1, e2⟩
theorem og_ix : OpG K (rIx K) ixD := by
  intro F H x y a b d Q s hx hy e k
  cases hx <;> cases hy <;> simp only [ixD] at e <;> try (simp at e; done)
  · split at e
    · rename_i z _ hl
      cases h : atI z.cps.toList _ with
      | none => rw [h] at e; simp at e
      | some c =>
        rw [h] at e
        cases e
        exact .inr (.inr ⟨z, _, c, rfl, rfl, sz_of hl, h, k _ F H (.refl s) (.str _)⟩)
    · cases e
  · rename_i h1 h2 _
    obtain ⟨v, e1, e2⟩ := dpAll_at h2 e
    exact .inl ⟨_, _, _, v, rfl, rfl, same_seqL s.s h1, e1, k v F H (.refl s) e2⟩
  · rename_i h1 h2 _
    obtain ⟨v, e1, e2⟩ := dpAll_at h2 e
    exact .inr (.inl ⟨_, _, _, v, rfl, rfl, same_seqT s.s h1, e1, k v F H (.refl s) e2⟩)
def cutD {α : Type} (xs : List α) (lo hi : Option Int) : List α := (xs.drop (HT.sIx xs.length 0 lo)).take (HT.sIx xs.length xs.length hi - HT.sIx xs.length 0 lo)
def slD : D → Option Int → Option Int → Option D
  | .list xs, lo, hi => some (.list (cutD xs lo hi))
  | .tuple xs, lo, hi => some (.tuple (cutD xs lo hi))
  | .str z, lo, hi => if z.length ≤ 1000000 then some (.str (cutS z lo hi)) else none
  | _, _, _ => none
theorem dpAll_cut {F : Hp} {ds : List D} {vs : List V} (h : DpAll K F vs ds) (lo hi : Option Int) : DpAll K F (cutV vs lo hi) (cutD ds lo hi) := by
  unfold cutV cutD
  rw [dpAll_len h]
  exact dpAll_take _ (dpAll_drop _ h)
def rSlX (K : PySem.W.Frag) : V → Option Int → Option Int → Hp → VK → Prop := fun x lo hi H Q => rSlL K x lo hi H Q ∨ (rSlA K x lo hi H Q ∨ rSlS x lo hi H Q)
theorem sl_any : SlR X (rSlX X.K) := sl_list.or (sl_tupA.or sl_str)
theorem sx_ok {F H : Hp} {x : V} {a d : D} {lo hi : Option Int} {Q : VK} (s : Wf F H) (hx : Dp K F x a) (e : slD a lo hi = some d) (k : ∀ v F' H', Grow F H F' H' → Dp K F' v d → Q v H') : rSlX K x lo hi H Q := by
  cases hx <;> simp only [slD] at e <;> try (simp at e; done)
  · split at e <;> cases e
    rename_i h
    exact .inr (.inr ⟨_, rfl, sz_of h, k _ F H (.refl s) (.str _)⟩)
  · cases e
    rename_i h1 h2
    refine .inl ⟨_, _, rfl, same_seqL s.s h1, fun p hp => ?_⟩
    exact k _ _ _ (Grow.new s hp) (.lst (.inl (.inl upd_same)) (dpAll_mono (Grow.new s hp).ff _ _ (dpAll_cut h2 lo hi)))
  · cases e
    rename_i a xs ds h1 h2
    refine .inr (.inl ⟨_, _, rfl, same_seqT s.s h1, fun z => ?_, fun _ p hp => ?_⟩)
    · have ec := dpAll_cut h2 lo hi
      have : cutV xs lo hi = (xs.drop 0).take (xs.length - 0) := by
        unfold cutV
        rw [z.1, z.2]
      rw [this] at ec
      simp only [List.drop_zero, Nat.sub_zero, List.take_length] at ec
      exact k _ F H (.refl s) (.tup h1 ec)
    · exact k _ _ _ (Grow.new s hp) (.tup (.inl (.inl upd_same)) (dpAll_mono (Grow.new s hp).ff _ _ (dpAll_cut h2 lo hi)))
variable {Er : ErT} {te : TE} {ta : TA}
def intD : D → Option Int
  | .int i => some i
  | _ => none
def partO (f : EF) : OF := bE f fun d => oE ((intD d).map some)
def noO : OF := cE none
theorem do_none : DO X Er none tNoPart noO := ⟨po_none, fun F H σ ρ Q s st h => h.now s⟩
theorem do_some {e : Expr} {f : EF} (h : DE X Er e te f) : DO X Er (some e) (tPart te) (partO f) := by
  refine ⟨po_some h.pe, fun F H σ ρ Q s st p => ?_⟩
  refine h.rd F H σ ρ _ s st (Post.imp (Post.bind p) fun F1 H1 a g1 p1 v dv => ?_)
  cases a with
  | int k => cases dv; exact ⟨k, rfl, Post.now p1 g1.fh⟩
  | _ => exact p1.elim
def sliceE (f : EF) (lo hi : OF) : EF := bE f fun d => bE lo fun l => bE hi fun h => oE (slD d l h)
theorem de_sl {e : Expr} {lo hi : Option Expr} {p2 pos : Pos} {f : EF} {fl fh : OF} {tl th : TO} (h : DE X Er e te f) (hl : DO X Er lo tl fl) (hh : DO X Er hi th fh) : DE X Er (.Subscript e (.Slice lo hi none p2) pos) (tSl (rSlX X.K) te tl th) (sliceE f fl fh) := by
  refine ⟨pe_slice sl_any h.pe hl.pe hh.pe, fun F H σ ρ Q s st p => ?_⟩
  refine h.rd F H σ ρ _ s st (Post.imp (Post.bind p) fun F1 H1 a g1 p1 v dv => ?_)
  refine hl.rd F1 H1 σ ρ _ g1.fh (st.mono g1.ff) (Post.imp (Post.bind p1) fun F2 H2 l g2 p2 => ?_)
  refine hh.rd F2 H2 σ ρ _ g2.fh ((st.mono g1.ff).mono g2.ff) (Post.imp (Post.bind p2) fun F3 H3 u g3 p3 => ?_)
  unfold oE at p3
  cases e : slD a l u with
  | none => simp only [e] at p3; exact p3.elim
  | some d =>
    simp only [e] at p3
    exact sx_ok g3.fh (dp_mono g3.ff _ _ (dp_mono g2.ff _ _ dv)) e fun v' F' H' gr dv' => Post.done p3 gr v' dv'

/-! ### calls of built-ins -/
def CallG (K : PySem.W.Frag) (r : List V → Hp → VK → Prop) (g : List D → Option D) : Prop := ∀ F H vs ds d Q, Wf F H → DpAll K F vs ds → g ds = some d → (∀ v F' H', Grow F H F' H' → Dp K F' v d → Q v H') → r vs H Q
def callE (g : List D → Option D) (a : AF) : EF := bE a fun ds => oE (g ds)
theorem dr_call {r : List V → Hp → VK → Prop} {g : List D → Option D} {fa : AF} (hg : CallG K r g) (ha : DRa K Er ta fa) : DRd K Er (tCB r ta) (callE g fa) := by
  intro F H σ ρ Q s st p
  refine ha F H σ ρ _ s st (Post.imp (Post.bind p) fun F1 H1 ds g1 p1 vs dvs => ?_)
  unfold oE at p1
  cases e : g ds with
  | none => simp only [e] at p1; exact p1.elim
  | some d =>
    simp only [e] at p1
    exact hg F1 H1 vs ds d _ g1.fh dvs e fun v' F' H' gr dv' => Post.done p1 gr v' dv'
section
variable {id T : String} {r : List V → Hp → VK → Prop} {g : List D → Option D} {x : Str} {p pos : Pos} {e : Expr} {es : List Expr} {fa : AF}
theorem de_callB (hc : CallR X (.builtin id) r) (cg : CallG X.K r g) (hg : Gl X x) (hm : X.mg x = none) (hv : bootBuiltins x = some (.builtin id)) (ha : DA X Er (e :: es) ta fa) (hn : x ≠ "__name__" := by decide) (hdb : (x == ("__debug__" : Str)) = false := by decide)
    (he : starEach (e :: es) X.env = (false, eval e X.env) :: starEach es X.env := by rfl) (hpl : (backTo pos (starEach es X.env)).any (·.1) = false := by rfl) : DE X Er (.Call (.Name x p) (e :: es) [] pos) (tCB r ta) (callE g fa) :=
  ⟨pe_callB hc hg hm hv ha.pe hn hdb he hpl, dr_call cg ha.rd⟩
theorem de_callTy (hc : CallR X (.type T) r) (cg : CallG X.K r g) (hg : Gl X x) (hm : X.mg x = none) (hv : bootBuiltins x = some (.type T)) (ha : DA X Er (e :: es) ta fa) (hn : x ≠ "__name__" := by decide) (hdb : (x == ("__debug__" : Str)) = false := by decide)
    (he : starEach (e :: es) X.env = (false, eval e X.env) :: starEach es X.env := by rfl) (hpl : (backTo pos (starEach es X.env)).any (·.1) = false := by rfl) : DE X Er (.Call (.Name x p) (e :: es) [] pos) (tCB r ta) (callE g fa) :=
  ⟨pe_callTy hc hg hm hv ha.pe hn hdb he hpl, dr_call cg ha.rd⟩
end
def lenD : List D → Option D
  | [.list xs] => some (.int xs.length)
  | [.tuple xs] => some (.int xs.length)
  | [.str z] => if z.length ≤ 1000000 then some (.int z.length) else none
  | _ => none
def rLenX (K : PySem.W.Frag) : List V → Hp → VK → Prop := fun xs H Q => ∃ x n, xs = [x] ∧ LenV K x H n ∧ Q (.int n) H
theorem cg_len : CallG K (rLenX K) lenD := by
  intro F H vs ds d Q s h e k
  match ds, h, e with
  | [.list xs], .cons (.lst h1 h2) .nil, e =>
    cases e
    exact ⟨_, _, rfl, .inl ⟨_, same_seqL s.s h1, (dpAll_len h2).symm⟩, k _ F H (.refl s) (.int _)⟩
  | [.tuple xs], .cons (.tup h1 h2) .nil, e =>
    cases e
    exact ⟨_, _, rfl, .inr ⟨_, same_seqT s.s h1, (dpAll_len h2).symm⟩, k _ F H (.refl s) (.int _)⟩
  | [.str z], .cons (.str _) .nil, e =>
    simp only [lenD] at e
    split at e <;> cases e
    rename_i hl
    exact ⟨_, _, rfl, ⟨sz_of hl, rfl⟩, k _ F H (.refl s) (.int _)⟩
def tupleD : List D → Option D
  | [.list xs] => some (.tuple xs)
  | [.tuple xs] => some (.tuple xs)
  | _ => none
def rTupleX (K : PySem.W.Frag) : List V → Hp → VK → Prop := fun xs H Q => ∃ p ys, xs = [.ref p] ∧ ((SqL K H p ys ∧ ∀ l, H l = none → Q (.ref l) (upd H l (.tup ys))) ∨ (SqT K H p ys ∧ Q (.ref p) H))
theorem cg_tuple : CallG K (rTupleX K) tupleD := by
  intro F H vs ds d Q s h e k
  match ds, h, e with
  | [.list xs], .cons (.lst h1 h2) .nil, e =>
    cases e
    exact ⟨_, _, rfl, .inl ⟨same_seqL s.s h1, fun l hl => k _ _ _ (Grow.new s hl) (.tup (.inl (.inl upd_same)) (dpAll_mono (Grow.new s hl).ff _ _ h2))⟩⟩
  | [.tuple xs], .cons (.tup h1 h2) .nil, e =>
    cases e
    exact ⟨_, _, rfl, .inr ⟨same_seqT s.s h1, k _ F H (.refl s) (.tup h1 h2)⟩⟩
def rListX (K : PySem.W.Frag) : List V → Hp → VK → Prop := fun xs H Q => ∃ p ys, xs = [.ref p] ∧ (SqL K H p ys ∨ SqT K H p ys) ∧ ∀ l, H l = none → Q (.ref l) (upd H l (.lst ys))
def intsOf : List D → Option (List Int)
  | [] => some []
  | .int i :: ds => (intsOf ds).map (i :: ·)
  | _ => none
theorem intsOf_eq : ∀ {ds : List D} {ns : List Int}, intsOf ds = some ns → ds = ns.map .int
  | [], ns, e => by cases e; rfl
  | .int i :: ds, ns, e => by
    simp only [intsOf] at e
    cases h : intsOf ds with
    | none => rw [h] at e; simp at e
    | some ms => rw [h] at e; cases e; rw [intsOf_eq h]; rfl
  | .none :: _, _, e | .bool _ :: _, _, e | .str _ :: _, _, e | .list _ :: _, _, e | .tuple _ :: _, _, e | .dict _ :: _, _, e => by simp [intsOf] at e
theorem intsOf_map (ns : List Int) : intsOf (ns.map .int) = some ns := by
  induction ns with
  | nil => rfl
  | cons n ns ih => simp [intsOf, ih]
def boolsOf : List D → Option (List Bool)
  | [] => some []
  | .bool i :: ds => (boolsOf ds).map (i :: ·)
  | _ => none
theorem boolsOf_eq : ∀ {ds : List D} {ns : List Bool}, boolsOf ds = some ns → ds = ns.map .bool
  | [], ns, e => by cases e; rfl
  | .bool i :: ds, ns, e => by
    simp only [boolsOf] at e
    cases h : boolsOf ds with
    | none => rw [h] at e; simp at e
    | some ms => rw [h] at e; cases e; rw [boolsOf_eq h]; rfl
  | .none :: _, _, e | .int _ :: _, _, e | .str _ :: _, _, e | .list _ :: _, _, e | .tuple _ :: _, _, e | .dict _ :: _, _, e => by simp [boolsOf] at e
theorem boolsOf_map (ns : List Bool) : boolsOf (ns.map .bool) = some ns := by
  induction ns with
  | nil => rfl
  | cons n ns ih => simp [boolsOf, ih]
def allD : List D → Option D
  | [.list ds] => (boolsOf ds).map fun bs => .bool (bs.all id)
  | _ => none
def anyD : List D → Option D
  | [.list ds] => (boolsOf ds).map fun bs => .bool (bs.any id)
  | _ => none
def sumD : List D → Option D
  | [.list ds] => (intsOf ds).map fun ns => .int ns.sum
  | _ => none
theorem cg_all : CallG K (rAll K) allD := by
  intro F H vs ds d Q s h e k
  match ds, h, e with
  | [.list xs], .cons (.lst h1 h2) .nil, e =>
    simp only [allD] at e
    cases z : boolsOf xs with
    | none => rw [z] at e; simp at e
    | some bs =>
      rw [z] at e
      cases e
      have e2 := boolsOf_eq z
      subst e2
      have e3 := dpAll_bls h2
      subst e3
      exact ⟨_, bs, rfl, same_seqL s.s h1, k _ F H (.refl s) (.bl _)⟩
theorem cg_any : CallG K (rAny K) anyD := by
  intro F H vs ds d Q s h e k
  match ds, h, e with
  | [.list xs], .cons (.lst h1 h2) .nil, e =>
    simp only [anyD] at e
    cases z : boolsOf xs with
    | none => rw [z] at e; simp at e
    | some bs =>
      rw [z] at e
      cases e
      have e2 := boolsOf_eq z
      subst e2
      have e3 := dpAll_bls h2
      subst e3
      exact ⟨_, bs, rfl, same_seqL s.s h1, k _ F H (.refl s) (.bl _)⟩
theorem cg_sum : CallG K (rSum K) sumD := by
  intro F H vs ds d Q s h e k
  match ds, h, e with
  | [.list xs], .cons (.lst h1 h2) .nil, e =>
    simp only [sumD] at e
    cases z : intsOf xs with
    | none => rw [z] at e; simp at e
    | some bs =>
      rw [z] at e
      cases e
      have e2 := intsOf_eq z
      subst e2
      have e3 := dpAll_ints h2
      subst e3
      exact ⟨_, bs, rfl, same_seqL s.s h1, k _ F H (.refl s) (.int _)⟩
/-! isinstance by a built-in class -/
def tyD : D → String
  | .none => "NoneType"
  | .bool _ => "bool"
  | .int _ => "int"
  | .str _ => "str"
  | .list _ => "list"
  | .tuple _ => "tuple"
  | .dict _ => "dict"
theorem ty_of {F H : Hp} {v : V} {d : D} (s : Wf F H) (h : Dp K F v d) : TyX K H v (.type (tyD d)) := by
  cases h with
  | non => exact .base .non
  | bl b => exact .base (.bl b)
  | int i => exact .base (.int i)
  | str x => exact .base (.str x)
  | lst h1 h2 =>
    rcases same_seqL s.s h1 with (h | ⟨o, h⟩) | ⟨o, its, n, h, hc, _⟩
    · exact .base (.lst h)
    · exact .base (.frz h)
    · exact .kList h hc
  | tup h1 h2 =>
    rcases same_seqT s.s h1 with (h | ⟨o, h⟩) | ⟨o, its, n, h, hc, _⟩
    · exact .base (.tup h)
    · exact .fTuple h
    · exact .kTuple h hc
  | sd _ _ h3 _ => exact .base (.dK (s.s _ _ h3))
/-- the answer for each kind of data: none, bool, int, str, list, tuple -/
structure Kits (T : String) (g : D → Bool) : Prop where
  h : ∀ d, kitB (tyD d) T = some (g d)
def isiE (g : D → Bool) (a : EF) : EF := bE a fun d => cE (.bool (g d))
theorem de_isi {T : String} {g : D → Bool} {x : Str} {e : Expr} {f : EF} {p p2 pos : Pos} (kt : Kits T g) (hg : Gl X "isinstance") (hm : X.mg "isinstance" = none) (hg2 : Gl X x) (hm2 : X.mg x = none) (hv2 : bootBuiltins x = some (.type T)) (h : DE X Er e te f)
    (hn2 : x ≠ "__name__" := by decide) (hd2 : (x == ("__debug__" : Str)) = false := by decide)
    (hs1 : starEach [e, .Name x p2] X.env = (false, eval e X.env) :: starEach [.Name x p2] X.env := by rfl) (hpl : (backTo pos (starEach [.Name x p2] X.env)).any (·.1) = false := by rfl) :
    DE X Er (.Call (.Name "isinstance" p) [e, .Name x p2] [] pos) (tCB (rIsi X.K) (tCons te (tCons (tC (.ty T)) tNil))) (isiE g f) := by
  refine ⟨pe_callB call_isi hg hm (by decide +kernel) (pa_cons h.pe (pa_cons (pe_bltn (v := .ty T) hg2 hm2 hv2 rfl hn2 hd2) pa_nil) hs1) (by decide) (by decide) hs1 hpl, fun F H σ ρ Q s st p => ?_⟩
  refine h.rd F H σ ρ _ s st (Post.imp (Post.bind p) fun F1 H1 d g1 p1 v dv => ?_)
  exact ⟨v, _, _, _, _, rfl, .ty T, ty_of g1.fh dv, kit_ty (kt.h d), Post.now p1 g1.fh _ (.bl _)⟩
def isIntD : D → Bool
  | .int _ => true
  | .bool _ => true
  | _ => false
def isBoolD : D → Bool
  | .bool _ => true
  | _ => false
def isTupD : D → Bool
  | .tuple _ => true
  | _ => false
def isListD : D → Bool
  | .list _ => true
  | _ => false
def isStrD : D → Bool
  | .str _ => true
  | _ => false
def isDictD : D → Bool
  | .dict _ => true
  | _ => false
theorem kits_int : Kits "int" isIntD := ⟨fun d => by cases d <;> (simp only [tyD, isIntD]; decide +kernel)⟩
theorem kits_bool : Kits "bool" isBoolD := ⟨fun d => by cases d <;> (simp only [tyD, isBoolD]; decide +kernel)⟩
theorem kits_tup : Kits "tuple" isTupD := ⟨fun d => by cases d <;> (simp only [tyD, isTupD]; decide +kernel)⟩
theorem kits_list : Kits "list" isListD := ⟨fun d => by cases d <;> (simp only [tyD, isListD]; decide +kernel)⟩
theorem kits_str : Kits "str" isStrD := ⟨fun d => by cases d <;> (simp only [tyD, isStrD]; decide +kernel)⟩
theorem kits_dict : Kits "dict" isDictD := ⟨fun d => by cases d <;> (simp only [tyD, isDictD]; decide +kernel)⟩
/-! unary -/
def negD : D → Option D
  | .int i => some (.int (-i))
  | _ => none
theorem de_neg {e : Expr} {f : EF} {pos : Pos} (h : DE X Er e te f) : DE X Er (.UnaryOp .USub e pos) (tUn (rU fun i => .int (-i)) te) (op1E negD f) := by
  refine ⟨pe_un un_neg h.pe, fun F H σ ρ Q s st p => ?_⟩
  refine h.rd F H σ ρ _ s st (Post.imp (Post.bind p) fun F1 H1 d g1 p1 v dv => ?_)
  cases d with
  | int i => cases dv; exact ⟨i, rfl, Post.now p1 g1.fh _ (.int _)⟩
  | _ => exact p1.elim
/-! list(xs): a new list -/
def callN (g : List D → Option (List D)) (a : AF) : AF := bE a fun ds => oE (g ds)
def listN : List D → Option (List D)
  | [.list xs] => some xs
  | [.tuple xs] => some xs
  | _ => none
theorem dn_list {x : Str} {p pos : Pos} {e : Expr} {es : List Expr} {fa : AF} (hg : Gl X x) (hm : X.mg x = none) (hv : bootBuiltins x = some (.type "list")) (ha : DA X Er (e :: es) ta fa) (hn : x ≠ "__name__" := by decide) (hdb : (x == ("__debug__" : Str)) = false := by decide)
    (he : starEach (e :: es) X.env = (false, eval e X.env) :: starEach es X.env := by rfl) (hpl : (backTo pos (starEach es X.env)).any (·.1) = false := by rfl) : DN X Er (.Call (.Name x p) (e :: es) [] pos) (tCB (rListX X.K) ta) (callN listN fa) := by
  refine ⟨pe_callTy call_list_of hg hm hv ha.pe hn hdb he hpl, fun F H σ ρ Q s st p => ?_⟩
  refine ha.rd F H σ ρ _ s st (Post.imp (Post.bind p) fun F1 H1 ds g1 p1 vs dvs => ?_)
  unfold oE at p1
  cases e : listN ds with
  | none => simp only [e] at p1; exact p1.elim
  | some d =>
    simp only [e] at p1
    match ds, dvs, e with
    | [.list xs], .cons (.lst h1 h2) .nil, e =>
      cases e
      exact ⟨_, _, rfl, .inl (same_seqL g1.fh.s h1), fun l hl => Post.now p1 g1.fh l _ hl h2⟩
    | [.tuple xs], .cons (.tup h1 h2) .nil, e =>
      cases e
      exact ⟨_, _, rfl, .inr (same_seqT g1.fh.s h1), fun l hl => Post.now p1 g1.fh l _ hl h2⟩
end
end DL

set_option maxHeartbeats 1000000
/-! DL2: targets, what is walked, comprehensions, calls of own defs. -/
namespace DL
open PySem PySem.Spec L2
open PyProof.Rows hiding St
variable [Mem]

/-! ### targets -/
abbrev TGF := D → Option (List (Nat × D))
def setV (σ : St) : List Nat → List V → St
  | i :: is, v :: vs => setV (σ.set i (some v)) is vs
  | _, _ => σ
def setE (ρ : Env) : List (Nat × D) → Env
  | [] => ρ
  | (i, d) :: r => setE (ρ.set i (some d)) r
structure TG1 (X : Cx) (tg : Expr) (g : TG) (f : TGF) (js : List Nat) : Prop where
  pg : PG X tg g
  rd : ∀ (F H : Hp) (v : V) (d : D) as σ (Q : St → Hp → Prop), Wf F H → Dp X.K F v d → f d = some as → (∀ vs, DpAll X.K F vs (as.map (·.2)) → as.map (·.1) = js → Q (setV σ js vs) H) → g v σ H Q
def tgN (i : Nat) : TGF := fun d => some [(i, d)]
def tgT (js : List Nat) : TGF := fun d => match d with
  | .tuple ds => if ds.length = js.length then some (js.zip ds) else none
  | _ => none
section
variable {X : Cx} {Er : ErT} {te : TE} {ta : TA} {K : PySem.W.Frag}
theorem tg_name {i : Nat} {x : Str} {pos : Pos} (hN : X.N.Nodup) (hi : X.N[i]? = some x) (hx : Loc X.env.scope x) (hf : X.fn x = true ∨ X.env.scope.names.lookup x = some .local := by first | exact .inl rfl | exact .inr rfl | assumption) : TG1 X (.Name x pos) (gName i) (tgN i) [i] :=
  ⟨pg_name hN hi hx hf, fun F H v d as σ Q s dv e k => by cases e; exact k [v] (.cons dv .nil) rfl⟩
def gNames : List Nat → TGs
  | [] => gNil
  | i :: is => gCons (gName i) (gNames is)
theorem gNames_ok {H : Hp} : ∀ (js : List Nat) (vs : List V) (σ : St) (Q : St → Hp → Prop), vs.length = js.length → Q (setV σ js vs) H → gNames js vs σ H Q
  | [], [], σ, Q, _, q => ⟨rfl, q⟩
  | i :: is, v :: vs, σ, Q, hl, q => ⟨v, vs, rfl, gNames_ok is vs (σ.set i (some v)) Q (by simpa using hl) q⟩
  | [], _ :: _, _, _, hl, _ => by simp at hl
  | _ :: _, [], _, _, hl, _ => by simp at hl
theorem tg_tup {es : List Expr} {k : Nat} {pos : Pos} (js : List Nat) (hc : X.calm = true) (h : PGs X es (gNames js)) (hn : (assignEach es X.env).length = js.length := by rfl) (hst : (assignEach es X.env).findIdx? (·.1) = none := by rfl) :
    TG1 X (.Tuple es k pos) (gTup X.K js.length (gNames js)) (tgT js) js := by
  refine ⟨pg_tup hc h hn hst, fun F H v d as σ Q s dv e q => ?_⟩
  cases dv with
  | tup h1 h2 =>
    rename_i a xs ds
    simp only [tgT] at e
    split at e
    · rename_i hl
      cases e
      have l1 := dpAll_len h2
      have z1 : (js.zip ds).map (·.2) = ds := by rw [List.map_snd_zip]; omega
      have z2 : (js.zip ds).map (·.1) = js := by rw [List.map_fst_zip]; omega
      exact ⟨a, xs, rfl, same_seqT s.s h1, by omega, gNames_ok js xs σ Q (by omega) (q xs (by rw [z1]; exact h2) z2)⟩
    · cases e
  | _ => simp [tgT] at e
theorem setV_len : ∀ (js : List Nat) (vs : List V) (σ : St), (setV σ js vs).length = σ.length
  | [], _, _ => by cases ‹List V› <;> rfl
  | i :: is, [], σ => rfl
  | i :: is, v :: vs, σ => by rw [setV, setV_len is vs]; simp
theorem setE_len : ∀ (as : List (Nat × D)) (ρ : Env), (setE ρ as).length = ρ.length
  | [], _ => rfl
  | (i, d) :: r, ρ => by rw [setE, setE_len r]; simp
theorem setV_ne {j : Nat} : ∀ (js : List Nat) (vs : List V) (σ : St), j ∉ js → (setV σ js vs)[j]? = σ[j]?
  | [], vs, σ, _ => by cases vs <;> rfl
  | i :: is, [], σ, _ => rfl
  | i :: is, v :: vs, σ, h => by
    rw [setV, setV_ne is vs _ (fun z => h (List.mem_cons_of_mem _ z)), List.getElem?_set_ne]
    intro z
    exact h (z ▸ List.mem_cons_self)
theorem EnvR.setMany {F : Hp} : ∀ {as : List (Nat × D)} {vs : List V} {σ : St} {ρ : Env}, EnvR K F σ ρ → DpAll K F vs (as.map (·.2)) → EnvR K F (setV σ (as.map (·.1)) vs) (setE ρ as)
  | [], vs, σ, ρ, h, hv => by
    cases hv
    exact h
  | (i, d) :: r, vs, σ, ρ, h, hv => by
    have hl := h.len
    cases hv with
    | cons h1 h2 =>
      rename_i v vr
      refine EnvR.setMany (as := r) (σ := σ.set i (some v)) (ρ := ρ.set i (some d)) ⟨fun j e ej => ?_, by simpa using hl⟩ h2
      by_cases hj : i = j
      · subst hj
        by_cases hi : i < ρ.length
        · rw [List.getElem?_set_self hi] at ej
          cases ej
          exact ⟨v, by rw [List.getElem?_set_self (by omega)], .inl h1⟩
        · rw [List.getElem?_eq_none (by simp; omega)] at ej
          cases ej
      · rw [List.getElem?_set_ne hj] at ej
        rw [List.getElem?_set_ne hj]
        exact h.sl j e ej

/-! ### what is walked -/
/-- J gives out the data ds over any growth of F -/
structure DIt (K : PySem.W.Frag) (J : It) (F0 : Hp) (ds : List D) : Prop where
  go : ∀ i F H, Same F0 F → Wf F H → i < ds.length → J.go i H
  stop : ∀ F H, Same F0 F → Wf F H → J.stop ds.length H
  yld : ∀ i F H x H' d, Same F0 F → Wf F H → ds[i]? = some d → J.yld i H x H' → ∃ F', Grow F H F' H' ∧ Dp K F' x d
theorem dit_list {F0 : Hp} {a : Addr} {xs : List V} {ds : List D} (h1 : SqL K F0 a xs) (h2 : DpAll K F0 xs ds) : DIt K (Itl K a) F0 ds where
  go := fun i F H s1 s2 hi => ⟨xs, xs[i]'(by rw [dpAll_len h2]; exact hi), same_seqL s2.s (same_seqL s1 h1), by simp⟩
  stop := fun F H s1 s2 => ⟨xs, same_seqL s2.s (same_seqL s1 h1), by rw [dpAll_len h2]; exact Nat.le_refl _⟩
  yld := fun i F H x H' d s1 s2 hd y => by
    obtain ⟨rfl, y⟩ := y
    have e := y xs (same_seqL s2.s (same_seqL s1 h1))
    obtain ⟨v, e1, e2⟩ := dpAll_get h2 hd
    rw [e] at e1; cases e1
    exact ⟨F, .refl s2, dp_mono s1 _ _ e2⟩
theorem dit_tup {F0 : Hp} {a : Addr} {xs : List V} {ds : List D} (h1 : SqT K F0 a xs) (h2 : DpAll K F0 xs ds) : DIt K (Itt K a) F0 ds where
  go := fun i F H s1 s2 hi => ⟨xs, xs[i]'(by rw [dpAll_len h2]; exact hi), same_seqT s2.s (same_seqT s1 h1), by simp⟩
  stop := fun F H s1 s2 => ⟨xs, same_seqT s2.s (same_seqT s1 h1), by rw [dpAll_len h2]; exact Nat.le_refl _⟩
  yld := fun i F H x H' d s1 s2 hd y => by
    obtain ⟨rfl, y⟩ := y
    have e := y xs (same_seqT s2.s (same_seqT s1 h1))
    obtain ⟨v, e1, e2⟩ := dpAll_get h2 hd
    rw [e] at e1; cases e1
    exact ⟨F, .refl s2, dp_mono s1 _ _ e2⟩
def rangeL (lo : Int) (n : Nat) : List D := (List.range n).map fun (i : Nat) => .int (lo + (i : Int))
theorem dit_range {F0 : Hp} {lo : Int} {n : Nat} : DIt K (Itr lo n) F0 (rangeL lo n) where
  go := fun i F H _ _ hi => by show i < n; simpa [rangeL] using hi
  stop := fun F H _ _ => by show n ≤ _; simp [rangeL]
  yld := fun i F H x H' d _ s2 hd y => by
    obtain ⟨rfl, rfl⟩ := y
    have hi : i < n := by
      have := (List.getElem?_eq_some_iff.mp hd).1
      simpa [rangeL] using this
    simp only [rangeL, List.getElem?_map, List.getElem?_range hi, Option.map_some, Option.some.injEq] at hd
    subst hd
    exact ⟨F, .refl s2, .int _⟩
def DRi (K : PySem.W.Frag) (Er : ErT) (wi : TI) (f : AF) : Prop := ∀ F H σ ρ R, Wf F H → EnvR K F σ ρ → Post F H Er (f ρ) (fun F' H' ds => ∀ J, DIt K J F' ds → R J H') → wi σ H R
structure DI (X : Cx) (Er : ErT) (tg iter : Expr) (wi : TI) (f : AF) : Prop where
  pi : PI X tg iter wi
  rd : DRi X.K Er wi f
/-- a list or a tuple -/
def seqOf : D → Option (List D)
  | .list xs => some xs
  | .tuple xs => some xs
  | _ => none
def iSeq (K : PySem.W.Frag) (tl : TE) : TI := fun σ H R => tl σ H fun x H1 => ∃ a, x = .ref a ∧ (((∃ xs, SqL K H1 a xs) ∧ R (Itl K a) H1) ∨ ((∃ xs, SqT K H1 a xs) ∧ R (Itt K a) H1))
theorem pi_seq {tg l : Expr} {tl : TE} (hl : PE X l tl) : PI X tg l (iSeq X.K tl) := by
  refine ⟨fun pins s σ H R I h => ?_⟩
  refine thn (hl.run pins s σ H _ I h) fun v s1 ⟨x, H1, I1, r1, q1⟩ => ?_
  obtain ⟨a, e, q⟩ := q1
  subst e
  cases r1
  rcases q with ⟨⟨xs, hq⟩, q⟩ | ⟨⟨xs, hq⟩, q⟩
  · obtain ⟨its, rv, p, hz⟩ := I1.list hq
    refine wpAny_pyIter_list p.isList ?_
    refine ⟨s1.heap.objs.size, [s1.heap.objs.size], _, _, H1, rfl, I1.kept (t' := s1.toks) fun b o e => Heap.get?_push_of_some _ e, turn_list a _, ⟨_, Heap.get?_push_size _ rfl, rfl, rfl⟩, fun b hb => ?_, q⟩
    have e : b = s1.heap.objs.size := by simpa using hb
    subst e
    exact I1.fpOk (Nat.le_refl _) (I1.hok.fresh (Nat.le_refl _))
  · obtain ⟨its, rv, p, hz⟩ := I1.tuple hq
    refine wpAny_pyIter_tuple (show s1.heap.IsTuple a its.toArray from p) ?_
    refine ⟨s1.heap.objs.size, [s1.heap.objs.size], _, _, H1, rfl, I1.kept (t' := s1.toks) fun b o e => Heap.get?_push_of_some _ e, turn_tuple a _, ⟨_, Heap.get?_push_size _ rfl, rfl, rfl⟩, fun b hb => ?_, q⟩
    have e : b = s1.heap.objs.size := by simpa using hb
    subst e
    exact I1.fpOk (Nat.le_refl _) (I1.hok.fresh (Nat.le_refl _))
def seqI (f : EF) : AF := bE f fun d => oE (seqOf d)
theorem di_seq {tg e : Expr} {f : EF} (h : DE X Er e te f) : DI X Er tg e (iSeq X.K te) (seqI f) := by
  refine ⟨pi_seq h.pe, fun F H σ ρ R s st p => ?_⟩
  refine h.rd F H σ ρ _ s st (Post.imp (Post.bind p) fun F1 H1 d g1 p1 v dv => ?_)
  cases dv with
  | lst h1 h2 => exact ⟨_, rfl, .inl ⟨⟨_, same_seqL g1.fh.s h1⟩, Post.now p1 g1.fh _ (dit_list h1 h2)⟩⟩
  | tup h1 h2 => exact ⟨_, rfl, .inr ⟨⟨_, same_seqT g1.fh.s h1⟩, Post.now p1 g1.fh _ (dit_tup h1 h2)⟩⟩
  | _ => exact p1.elim
def range1D : List D → Option (List D)
  | [.int n] => if -(2 ^ 62) ≤ n ∧ n < 2 ^ 62 then some (rangeL 0 n.toNat) else none
  | _ => none
def range2D : List D → Option (List D)
  | [.int a, .int b] => if -(2 ^ 62) ≤ a ∧ a < 2 ^ 62 ∧ -(2 ^ 62) ≤ b ∧ b < 2 ^ 62 then some (rangeL a (b - a).toNat) else none
  | _ => none
theorem range1D_some {ds r : List D} (h : range1D ds = some r) : ∃ n, ds = [.int n] ∧ -(2 ^ 62) ≤ n ∧ n < 2 ^ 62 ∧ r = rangeL 0 n.toNat := by
  unfold range1D at h
  split at h
  · split at h <;> cases h
    rename_i n hn
    exact ⟨n, rfl, hn.1, hn.2, rfl⟩
  · cases h
theorem range2D_some {ds r : List D} (h : range2D ds = some r) : ∃ a b, ds = [.int a, .int b] ∧ (-(2 ^ 62) ≤ a ∧ a < 2 ^ 62 ∧ -(2 ^ 62) ≤ b ∧ b < 2 ^ 62) ∧ r = rangeL a (b - a).toNat := by
  unfold range2D at h
  split at h
  · split at h <;> cases h
    rename_i a b hn
    exact ⟨a, b, rfl, hn, rfl⟩
  · cases h
def rangeI (g : List D → Option (List D)) (a : AF) : AF := bE a fun ds => oE (g ds)
theorem of_ok {α : Type} {F H : Hp} {o : Option α} {ρ : Env} {P : Hp → Hp → α → Prop} (p : Post F H Er (oE o ρ) P) : ∃ a, o = some a ∧ Post F H Er (.ok a) P := by
  unfold oE at p
  cases o with
  | none => exact p.elim
  | some a => exact ⟨a, rfl, p⟩
theorem di_range1 {tg a : Expr} {p pos : Pos} {fa : AF} (hg : Gl X "range") (hm : X.mg "range" = none) (ha : DA X Er [a] ta fa) (hs : starEach [a] X.env = [(false, eval a X.env)] := by rfl) : DI X Er tg (.Call (.Name "range" p) [a] [] pos) (iRng1 ta) (rangeI range1D fa) := by
  refine ⟨pi_range1 hg hm ha.pe hs, fun F H σ ρ R s st p => ?_⟩
  refine ha.rd F H σ ρ _ s st (Post.imp (Post.bind p) fun F1 H1 ds g1 p1 vs dvs => ?_)
  obtain ⟨r, e, p1⟩ := of_ok p1
  obtain ⟨n, rfl, h1, h2, rfl⟩ := range1D_some e
  cases dvs with
  | cons z1 z2 =>
    cases z1
    cases z2
    exact ⟨n, rfl, h1, h2, Post.now p1 g1.fh _ dit_range⟩
theorem di_range2 {tg a b : Expr} {p pos : Pos} {fa : AF} (hg : Gl X "range") (hm : X.mg "range" = none) (ha : DA X Er [a, b] ta fa) (hs : starEach [a, b] X.env = [(false, eval a X.env), (false, eval b X.env)] := by rfl) (hs2 : starEach [b] X.env = [(false, eval b X.env)] := by rfl) :
    DI X Er tg (.Call (.Name "range" p) [a, b] [] pos) (iRng2 ta) (rangeI range2D fa) := by
  refine ⟨pi_range2 hg hm ha.pe hs hs2, fun F H σ ρ R s st p => ?_⟩
  refine ha.rd F H σ ρ _ s st (Post.imp (Post.bind p) fun F1 H1 ds g1 p1 vs dvs => ?_)
  obtain ⟨r, e, p1⟩ := of_ok p1
  obtain ⟨a', b', rfl, h1, rfl⟩ := range2D_some e
  cases dvs with
  | cons z1 z2 =>
    cases z1
    cases z2 with
    | cons z2 z3 =>
      cases z2
      cases z3
      exact ⟨a', b', rfl, h1, Post.now p1 g1.fh _ dit_range⟩

/-! ### own defs -/
def erX (mg : Str → Option Value) (E : XK) : ErT := fun c H' => ∀ C, mg c = some (.ref C) → E (.ref C) none H'
def spD (K : PySem.W.Frag) (mg : Str → Option Value) (n : Nat) (g : List D → R D) : Sp := fun vs H Q E =>
  vs.length = n ∧ ∃ (M : Mem) (F : Hp) (ds : List D), Wf F H ∧ DQAll K F vs ds ∧ Post F H (erX mg E) (g ds) (fun F' H' d => ∀ v, Dp K F' v d → Q v H')
def ownE (g : List D → R D) (a : AF) : EF := bE a fun ds _ => g ds
theorem Post.er {α : Type} {F H : Hp} {Er Er' : ErT} {r : R α} {P : Hp → Hp → α → Prop} (h : Post F H Er r P) (k : ∀ c H', Er c H' → Er' c H') : Post F H Er' r P := by
  cases r with
  | ok a => exact h
  | err c => exact fun F' H' g => k c H' (h F' H' g)
  | bad => exact h
section
variable {CX : CXT} {k n : Nat} {f : Addr} {fd : FuncData} {ps : List Str} {g : List D → R D} {E : XK} {x : Str} {p pos : Pos} {e : Expr} {es : List Expr} {fa : AF}
theorem dr_own {ta : TA} {mg : Str → Option Value} (he : ∀ c H', Er c H' → erX mg E c H') (hn : ∀ ρ ds, fa ρ = .ok ds → ds.length = n) (ha : DRq K Er ta fa) : DRd K Er (tCall (spD K mg n g) [] E ta) (ownE g fa) := by
  intro F H σ ρ Q s st p
  refine ha F H σ ρ _ s st ?_
  have q := Post.bind p
  cases hr : fa ρ with
  | ok ds =>
    rw [hr] at q
    intro F' H' g' vs dvs
    rw [List.append_nil]
    exact ⟨by rw [dqAll_len dvs]; exact hn ρ ds hr, ‹Mem›, F', ds, g'.fh, dvs, Post.er (q F' H' g') he⟩
  | err c => rw [hr] at q; exact q
  | bad => rw [hr] at q; exact q
/-- f(e, ..), f an own def -/
theorem de_own (F : FnOk X.prog X.w X.K X.mg X.base CX k f fd ps (spD X.K X.mg n g)) (hr : Room k X.A) (hg : Gl X x) (hm : X.mg x = some (.ref f)) (hk : PySem.W.keepIn X.K (.ref f) = true) (hb : Binds X.K fd ps []) (hx : Passes CX X E)
    (he : ∀ c H', Er c H' → erX X.mg E c H') (ha : DAq X Er (e :: es) ta fa) (hn : ∀ ρ ds, fa ρ = .ok ds → ds.length = n)
    (hd : (x == ("__debug__" : Str)) = false := by decide) (hs : starEach (e :: es) X.env = (false, eval e X.env) :: starEach es X.env := by rfl) (hpl : (backTo pos (starEach es X.env)).any (·.1) = false := by rfl) :
    DE X Er (.Call (.Name x p) (e :: es) [] pos) (tCall (spD X.K X.mg n g) [] E ta) (ownE g fa) :=
  ⟨pe_call F hr hg hm hk hb .nil hx ha.pe hd hs hpl, dr_own he hn ha.rd⟩
end
theorem args_len0 : ∀ ρ ds, nilA ρ = .ok ds → ds.length = 0 := fun ρ ds e => by cases e; rfl
theorem args_lenS {a : EF} {r : AF} {n : Nat} (h : ∀ ρ ds, r ρ = .ok ds → ds.length = n) : ∀ ρ ds, consA a r ρ = .ok ds → ds.length = n + 1 := fun ρ ds e => by
  unfold consA bE at e
  cases h1 : a ρ with
  | ok x =>
    simp only [h1, R.bind_ok] at e
    cases h2 : r ρ with
    | ok xs => simp only [h2, R.bind_ok, cE] at e; cases e; simp [h ρ xs h2]
    | err c => simp only [h2] at e; cases e
    | bad => simp only [h2] at e; cases e
  | err c => rw [h1] at e; cases e
  | bad => rw [h1] at e; cases e
end

/-! ### comprehensions -/
def R.noErr {α : Type} : R α → R α
  | .ok a => .ok a
  | _ => .bad
def killE (ρ : Env) : List Nat → Env
  | [] => ρ
  | v :: vs => (killE ρ vs).set v none
def compL (tgf : TGF) (tt : TF) (fe : EF) (ρ : Env) : List D → R (List D)
  | [] => .ok []
  | d :: ds => (R.of (tgf d)).bind fun as => (tt (setE ρ as)).noErr.bind fun b =>
    if b = true then (fe (setE ρ as)).noErr.bind fun y => (compL tgf tt fe ρ ds).bind fun ys => .ok (y :: ys) else compL tgf tt fe ρ ds
def compE (fi : AF) (tgf : TGF) (tt : TF) (fe : EF) (vs : List Nat) : AF := bE (smallA fi) fun ds ρ => compL tgf tt fe (killE ρ vs) ds
abbrev ErF : ErT := fun _ _ => False
structure DTS (X : Cx) (Er : ErT) (ifs : List Expr) (tt : TT) (f : TF) : Prop where
  pt : PTs X ifs tt
  rd : DRt X.K Er tt f
def remH (H : Hp) (p : Addr) : Hp := fun a => if a = p then none else H a
theorem remH_same {H : Hp} {p : Addr} : remH H p p = none := if_pos rfl
theorem remH_ne {H : Hp} {p a : Addr} (h : a ≠ p) : remH H p a = H a := if_neg h
theorem upd_rem {H : Hp} {p : Addr} {o : HO} : upd (remH H p) p o = upd H p o := by
  funext a
  unfold upd
  by_cases h : a = p
  · rw [if_pos h, if_pos h]
  · rw [if_neg h, if_neg h, remH_ne h]
theorem grow_hide {F Hh F2 H2 : Hp} {p : Addr} {o : HO} (s : Wf F Hh) (hp : Hh p = none) (g : Grow F (upd Hh p o) F2 H2) : Grow F Hh F2 (remH H2 p) where
  ff := g.ff
  hh := fun a u ni e => by
    have na : a ≠ p := ne_of_none e hp
    rw [remH_ne na]
    exact g.hh a u ni (by rw [upd_ne na]; exact e)
  fh := ⟨fun a u e => by
    have na : a ≠ p := fun z => by
      subst z
      exact g.nw a (by rw [e]; simp) (by rw [upd_same]; simp) (none_of_same s.s hp)
    rw [remH_ne na]
    exact g.fh.s a u e, fun a z => by
    obtain ⟨e1, u, e2, e3⟩ := g.fh.m a z
    have na : a ≠ p := fun h => s.no hp (h ▸ z)
    exact ⟨e1, u, by rw [remH_ne na]; exact e2, e3⟩⟩
  nw := fun a h1 h2 => g.nw a h1 (by
    by_cases na : a = p
    · subst na; rw [upd_same]; simp
    · rw [upd_ne na]; exact h2)
theorem Post.hide {α β : Type} {F Hh : Hp} {p : Addr} {o : HO} {Er Er2 : ErT} {r : R α} {g : α → R β} {P : Hp → Hp → β → Prop} (h : Post F Hh Er (r.noErr.bind g) P) (s : Wf F Hh) (hp : Hh p = none) :
    Post F (upd Hh p o) Er2 r (fun F2 H2 a => Post F2 (remH H2 p) Er (g a) P) := by
  cases r with
  | ok a => exact fun F' H' gr => Post.mono h (grow_hide s hp gr)
  | err c => exact h.elim
  | bad => exact h
theorem killE_len (ρ : Env) : ∀ vs : List Nat, (killE ρ vs).length = ρ.length
  | [] => rfl
  | v :: vs => by unfold killE; rw [List.length_set, killE_len ρ vs]
theorem wipe_set {σ : St} {j : Nat} {x : Option V} : ∀ {vs : List Nat}, j ∈ vs → wipe (σ.set j x) vs = wipe σ vs
  | v :: vs, h => by
    unfold wipe
    by_cases hm : j ∈ vs
    · rw [wipe_set hm]
    · have e : j = v := by
        rcases List.mem_cons.mp h with e | e
        · exact e
        · exact absurd e hm
      subst e
      have comm : ∀ vs : List Nat, j ∉ vs → wipe (σ.set j x) vs = (wipe σ vs).set j x := by
        intro vs
        induction vs with
        | nil => intro _; rfl
        | cons u us ih =>
          intro hn
          unfold wipe
          rw [ih (fun z => hn (List.mem_cons_of_mem _ z)), List.set_comm]
          intro z
          exact hn (z ▸ List.mem_cons_self)
      rw [comm vs hm, List.set_set]
theorem wipe_setV {vs : List Nat} : ∀ (js : List Nat) (us : List V) (σ : St), (∀ j ∈ js, j ∈ vs) → wipe (setV σ js us) vs = wipe σ vs
  | [], us, σ, _ => by cases us <;> rfl
  | i :: is, [], σ, _ => rfl
  | i :: is, u :: us, σ, h => by
    rw [setV, wipe_setV is us _ (fun j hj => h j (List.mem_cons_of_mem _ hj)), wipe_set (h i List.mem_cons_self)]
theorem wipe_wipe (σ : St) (vs : List Nat) : wipe (wipe σ vs) vs = wipe σ vs := by
  have : ∀ us : List Nat, (∀ u ∈ us, u ∈ vs) → wipe (wipe σ us) vs = wipe σ vs := by
    intro us
    induction us with
    | nil => intro _; rfl
    | cons u us ih =>
      intro h
      show wipe ((wipe σ us).set u none) vs = _
      rw [wipe_set (h u List.mem_cons_self), ih fun z hz => h z (List.mem_cons_of_mem _ hz)]
  exact this vs fun _ h => h
section
variable {X : Cx} {Er : ErT} {te : TE} {ta : TA} {K : PySem.W.Frag} {tt : TT}
theorem EnvR.wipe {F : Hp} {σ : St} {ρ : Env} (h : EnvR K F σ ρ) : ∀ vs : List Nat, EnvR K F (wipe σ vs) (killE ρ vs)
  | [] => h
  | v :: vs => ⟨fun i d e => by
    have ih := EnvR.wipe h vs
    have hl := ih.len
    unfold killE at e
    unfold L2.wipe
    by_cases hi : v = i
    · subst hi
      by_cases hv : v < (killE ρ vs).length
      · rw [List.getElem?_set_self hv] at e; cases e
      · rw [List.getElem?_eq_none (by simp; omega)] at e; cases e
    · rw [List.getElem?_set_ne hi] at e
      rw [List.getElem?_set_ne hi]
      exact ih.sl i d e, by rw [killE_len, wipe_length]; exact h.len⟩
theorem dts_nil : DTS X Er [] tYes (cE true) := ⟨pts_nil, fun F H σ ρ Q s st p => Post.now p s⟩
theorem dts_one {c : Expr} {f : TF} (h : DT X Er c tt f) : DTS X Er [c] tt f := ⟨pts_one h.pe, h.rd⟩
theorem dr_lc {wi : TI} {g : TG} {fi : AF} {tgf : TGF} {ft : TF} {fe : EF} {vs js : List Nat} (hi : DRi K Er wi fi)
    (hg : ∀ (F H : Hp) (v : V) (d : D) as σ (Q : St → Hp → Prop), Wf F H → Dp K F v d → tgf d = some as → (∀ us, DpAll K F us (as.map (·.2)) → as.map (·.1) = js → Q (setV σ js us) H) → g v σ H Q)
    (ht : DRt K ErF tt ft) (he : DRd K ErF te fe) (hjs : ∀ j ∈ js, j ∈ vs) :
    DRn K Er (tLc wi g tt te vs) (compE fi tgf ft fe vs) := by
  intro F H σ ρ Q s st p
  refine hi F H σ ρ _ s st (Post.imp (Post.bind (Post.bind p)) fun F1 H1 ds g1 p1 J dit Dl hD => ?_)
  obtain ⟨hsz, p2⟩ := small_ok p1 g1.fh
  refine ⟨fun i m Hc => m = ds.length - i ∧ i ≤ ds.length ∧ ∃ F' Hh accV accD, Grow F1 H1 F' Hh ∧ Hh Dl = none ∧ Hc = upd Hh Dl (.lst accV) ∧ DpAll K F' accV accD ∧ accD.length ≤ i ∧
    Post F' Hh Er (compL tgf ft fe (killE ρ vs) (ds.drop i)) (fun F'' H'' es => ∀ p us, H'' p = none → DpAll K F'' us (accD ++ es) → Q (.ref p) (upd H'' p (.lst us))), ⟨ds.length, by simp, Nat.zero_le _, F1, H1, [], [], .refl g1.fh, hD, rfl, .nil, Nat.le_refl _, by simpa using p2⟩, ?_⟩
  rintro i m Hc ⟨rfl, hle, F', Hh, accV, accD, gr, hDl, rfl, hacc, hal, pp⟩
  have sH : Wf F' (upd Hh Dl (.lst accV)) := gr.fh.upd hDl
  have nD : ¬ Mem.is Dl := gr.fh.no hDl
  by_cases hlt : i < ds.length
  · refine .inr ⟨dit.go i F' _ gr.ff sH hlt, _, fun H' h => ⟨ds.length - (i + 1), by omega, h⟩, fun x H' y => ?_⟩
    obtain ⟨d, hd⟩ : ∃ d, ds[i]? = some d := ⟨ds[i], by simp [hlt]⟩
    have hdrop : ds.drop i = d :: ds.drop (i + 1) := by
      obtain ⟨h1, h2⟩ := List.getElem?_eq_some_iff.mp hd
      rw [← h2]
      exact List.drop_eq_getElem_cons hlt
    rw [hdrop] at pp
    obtain ⟨F2, gy, dx⟩ := dit.yld i F' _ x H' d gr.ff sH hd y
    have gy' := grow_hide gr.fh hDl gy
    have pp2 := Post.mono pp gy'
    unfold compL at pp2
    cases eas : tgf d with
    | none => rw [eas] at pp2; exact pp2.elim
    | some as =>
      rw [eas, R.of_some, R.bind_ok] at pp2
      have hH' : H' Dl = some (.lst accV) := gy.hh Dl _ nD upd_same
      have eH : upd (remH H' Dl) Dl (.lst accV) = H' := by
        rw [upd_rem]
        funext a
        unfold upd
        by_cases ha : a = Dl
        · rw [if_pos ha, ha, hH']
        · rw [if_neg ha]
      refine hg F2 H' x d as (L2.wipe σ vs) _ gy.fh dx eas fun us hus hjs' => ?_
      refine ⟨by rw [wipe_setV js us _ hjs, wipe_wipe], ?_⟩
      have env2 : EnvR K F2 (setV (L2.wipe σ vs) js us) (setE (killE ρ vs) as) := by
        have e1 := EnvR.setMany (σ := L2.wipe σ vs) (ρ := killE ρ vs) ((((st.mono g1.ff).mono gr.ff).mono gy.ff).wipe vs) hus
        rw [hjs'] at e1
        exact e1
      have pt := Post.hide (o := .lst accV) (Er2 := ErF) pp2 gy'.fh remH_same
      rw [eH] at pt
      refine ht F2 H' _ _ _ gy.fh env2 (Post.imp pt fun F3 H3 b g3 p3 => ?_)
      have g3' : Grow F2 (remH H' Dl) F3 (remH H3 Dl) := grow_hide gy'.fh remH_same (by rw [eH]; exact g3)
      have hH3 : H3 Dl = some (.lst accV) := g3.hh Dl _ nD hH'
      have eH3 : upd (remH H3 Dl) Dl (.lst accV) = H3 := by
        rw [upd_rem]
        funext a
        unfold upd
        by_cases ha : a = Dl
        · rw [if_pos ha, ha, hH3]
        · rw [if_neg ha]
      cases b with
      | false =>
        rw [if_neg (by decide)]
        rw [if_neg (by decide)] at p3
        exact ⟨rfl, hlt, F3, remH H3 Dl, accV, accD, (gr.trans gy').trans g3', remH_same, eH3.symm, dpAll_mono g3.ff _ _ (dpAll_mono gy.ff _ _ hacc), Nat.le_succ_of_le hal, p3⟩
      | true =>
        rw [if_pos rfl]
        rw [if_pos rfl] at p3
        have pe := Post.hide (o := .lst accV) (Er2 := ErF) p3 g3'.fh remH_same
        rw [eH3] at pe
        refine he F3 H3 _ _ _ g3.fh (env2.mono g3.ff) (Post.imp pe fun F4 H4 y' g4 p4 yv dy => ?_)
        have g4' : Grow F3 (remH H3 Dl) F4 (remH H4 Dl) := grow_hide g3'.fh remH_same (by rw [eH3]; exact g4)
        have hH4 : H4 Dl = some (.lst accV) := g4.hh Dl _ nD hH3
        have la := dpAll_len hacc
        refine ⟨accV, hH4, sz_lt (by omega), rfl, hlt, F4, remH H4 Dl, accV ++ [yv], accD ++ [y'], ((gr.trans gy').trans g3').trans g4', remH_same, upd_rem.symm, ?_, by simp; omega, ?_⟩
        · exact dpAll_app (dpAll_mono g4.ff _ _ (dpAll_mono g3.ff _ _ (dpAll_mono gy.ff _ _ hacc))) (.cons dy .nil)
        · refine Post.imp (Post.bind p4) fun F5 H5 es g5 p5 q us hq hd5 => ?_
          exact Post.now p5 g5.fh q us hq (by simpa using hd5)
  · have e : i = ds.length := by omega
    subst e
    refine .inl ⟨dit.stop F' _ gr.ff sH, ?_⟩
    rw [List.drop_length] at pp
    unfold compL at pp
    exact Post.now pp gr.fh Dl accV hDl (by simpa using hacc)
/-- [elt for target in iter if ..] -/
theorem dn_lc {elt tg iter : Expr} {ifs : List Expr} {scope : Scope} {own : List (Str × Nat)} {pos : Pos} {wi : TI} {g : TG} {fi : AF} {tgf : TGF} {ft : TF} {fe : EF} {js : List Nat} (hc : X.calm = true) (hN : X.N.Nodup) (hi : DI X Er tg iter wi fi) (ok : BlkOk X.N X.env.scope scope own)
    (hg : ∀ (s : Shared) (H : Hp) (C : Addr) (cl : List (Str × Addr)) (fp : List Addr), TG1 (X.blk s H scope (compEnvC scope cl C X.env) fp) tg g tgf js)
    (ht : ∀ (s : Shared) (H : Hp) (C : Addr) (cl : List (Str × Addr)) (fp : List Addr), DTS (X.blk s H scope (compEnvC scope cl C X.env) fp) ErF ifs tt ft)
    (he : ∀ (s : Shared) (H : Hp) (C : Addr) (cl : List (Str × Addr)) (fp : List Addr), DE (X.blk s H scope (compEnvC scope cl C X.env) fp) ErF elt te fe) (hjs : ∀ j ∈ js, j ∈ own.map (·.2) := by decide) (hs : ∀ x, foldedSetIterable iter X.env x = pure x := by intro _; rfl) :
    DN X Er (.ListComp elt [⟨tg, iter, ifs, 0⟩] scope pos) (tLc wi g tt te (own.map (·.2))) (compE fi tgf ft fe (own.map (·.2))) :=
  ⟨pe_lc hc hN hi.pi ok (fun s H C cl fp => (hg s H C cl fp).pg) (fun s H C cl fp => (ht s H C cl fp).pt) (fun s H C cl fp => (he s H C cl fp).pe) hs,
    dr_lc hi.rd (hg X.s_0 X.H_0 0 [] []).rd (ht X.s_0 X.H_0 0 [] []).rd (he X.s_0 X.H_0 0 [] []).rd hjs⟩
theorem ps_lc {i : Nat} {y : Str} {py : Pos} {elt tg iter : Expr} {ifs : List Expr} {scope : Scope} {own : List (Str × Nat)} {pos spos : Pos} {wi : TI} {g : TG} {fi : AF} {tgf : TGF} {ft : TF} {fe : EF} {js : List Nat} (hc : X.calm = true) (hN : X.N.Nodup) (hy : X.N[i]? = some y) (hyl : X.env.scope.names.lookup y = some .local)
    (hsw : swapsWith (.ListComp elt [⟨tg, iter, ifs, 0⟩] scope pos) (some (.Name y py)) spos.line X.env = pure true) (hi : DI X Er tg iter wi fi) (ok : BlkOk X.N X.env.scope scope own)
    (hg : ∀ (s : Shared) (H : Hp) (C : Addr) (cl : List (Str × Addr)) (fp : List Addr), TG1 (X.blk s H scope (compEnvC scope cl C X.env) fp) tg g tgf js)
    (ht : ∀ (s : Shared) (H : Hp) (C : Addr) (cl : List (Str × Addr)) (fp : List Addr), DTS (X.blk s H scope (compEnvC scope cl C X.env) fp) ErF ifs tt ft)
    (he : ∀ (s : Shared) (H : Hp) (C : Addr) (cl : List (Str × Addr)) (fp : List Addr), DE (X.blk s H scope (compEnvC scope cl C X.env) fp) ErF elt te fe) (hjs : ∀ j ∈ js, j ∈ own.map (·.2) := by decide) (hs : ∀ x, foldedSetIterable iter X.env x = pure x := by intro _; rfl) :
    PS X (.Assign [.Name y py] (.ListComp elt [⟨tg, iter, ifs, 0⟩] scope pos) spos) (tAsg (tLc wi g tt te (own.map (·.2))) (gName i)) ∧ DRn X.K Er (tLc wi g tt te (own.map (·.2))) (compE fi tgf ft fe (own.map (·.2))) :=
  ⟨ps_setLc hc hN hy hyl hsw hi.pi ok (fun s H C cl fp => (hg s H C cl fp).pg) (fun s H C cl fp => (ht s H C cl fp).pt) (fun s H C cl fp => (he s H C cl fp).pe) hs,
    dr_lc hi.rd (hg X.s_0 X.H_0 0 [] []).rd (ht X.s_0 X.H_0 0 [] []).rd (he X.s_0 X.H_0 0 [] []).rd hjs⟩
end
end DL

set_option maxHeartbeats 1000000
/-! DL3: statements over slots that hold data, or own what they hold. -/
namespace DL
open PySem PySem.Spec L2
open PyProof.Rows hiding St
variable [Mem]

/-! ### what a slot owns -/
structure Own where
  rep : PySem.W.Frag → V → Hp → Hp → D → Prop
  mono : ∀ {K : PySem.W.Frag} {v : V} {F F' o : Hp} {d : D}, rep K v F o d → Same F F' → rep K v F' o d
inductive Sh where
  | fz | ls | ob (Φ : Own)
def emp : Hp := fun _ => none
def LsRep (K : PySem.W.Frag) (F o : Hp) (v : V) (d : D) : Prop := ∃ a vs ds, v = .ref a ∧ d = .list ds ∧ o = upd emp a (.lst vs) ∧ DpAll K F vs ds
def Hold (K : PySem.W.Frag) (F o : Hp) (sh : Sh) (v : V) (d : D) : Prop := match sh with
  | .fz => DQ K F v d
  | .ls => LsRep K F o v d
  | .ob Φ => Φ.rep K v F o d
theorem Hold.mono {K : PySem.W.Frag} {F F' o : Hp} {sh : Sh} {v : V} {d : D} (h : Hold K F o sh v d) (s : Same F F') : Hold K F' o sh v d := by
  cases sh with
  | fz => exact dq_mono s h
  | ls =>
    obtain ⟨a, vs, ds, e1, e2, e3, h⟩ := h
    exact ⟨a, vs, ds, e1, e2, e3, dpAll_mono s ds vs h⟩
  | ob Φ => exact Φ.mono h s
structure Fr where
  F0 : Hp
  G : Hp
abbrev sh (w : List Sh) (i : Nat) : Sh := w.getD i .fz
structure StR (K : PySem.W.Frag) (fr : Fr) (w : List Sh) (F H : Hp) (σ : St) (ρ : Env) (os : Nat → Hp) : Prop where
  fh : Wf F H
  gh : SameM fr.G H
  f0 : Same fr.F0 F
  nw : ∀ a, F a ≠ none → fr.G a ≠ none → fr.F0 a ≠ none
  oh : ∀ i, Same (os i) H
  ow : ∀ (i : Nat) (a : Addr), os i a ≠ none → F a = none ∧ fr.G a = none ∧ ∀ j, j ≠ i → os j a = none
  sl : ∀ (i : Nat) (d : D), ρ[i]? = some (some d) → ∃ v, σ[i]? = some (some v) ∧ Hold K F (os i) (sh w i) v d
  len : ρ.length = σ.length
  om : ∀ (i : Nat) (a : Addr), os i a ≠ none → ¬ Mem.is a
def SR (K : PySem.W.Frag) (fr : Fr) (w : List Sh) (F H : Hp) (σ : St) (ρ : Env) : Prop := ∃ os, StR K fr w F H σ ρ os
section
variable {K : PySem.W.Frag} {fr : Fr} {w : List Sh} {F H F' H' : Hp} {σ : St} {ρ : Env}
theorem SR.fh (h : SR K fr w F H σ ρ) : Wf F H := let ⟨_, s⟩ := h; s.fh
theorem SR.len (h : SR K fr w F H σ ρ) : ρ.length = σ.length := let ⟨_, s⟩ := h; s.len
theorem SR.grow (h : SR K fr w F H σ ρ) (g : Grow F H F' H') : SR K fr w F' H' σ ρ := by
  obtain ⟨os, s⟩ := h
  refine ⟨os, g.fh, sameM_trans s.gh g.hh, same_trans s.f0 g.ff, fun a h1 h2 => s.nw a (g.nw a h1 (sameM_ne s.gh s.fh h2)) h2, fun i a o e => g.hh a o (s.om i a (by rw [e]; simp)) (s.oh i a o e), fun i a h1 => ?_, fun i d e => ?_, s.len, s.om⟩
  · obtain ⟨q1, q2, q3⟩ := s.ow i a h1
    refine ⟨?_, q2, q3⟩
    cases e : F' a with
    | none => rfl
    | some o => exact absurd q1 (g.nw a (by rw [e]; simp) (same_ne (s.oh i) h1))
  · obtain ⟨v, e1, h1⟩ := s.sl i d e
    exact ⟨v, e1, h1.mono g.ff⟩
theorem SR.congr {w' : List Sh} (h : SR K fr w F H σ ρ) (e : ∀ i, sh w' i = sh w i) : SR K fr w' F H σ ρ := by
  obtain ⟨os, s⟩ := h
  exact ⟨os, s.fh, s.gh, s.f0, s.nw, s.oh, s.ow, fun i d q => by rw [e i]; exact s.sl i d q, s.len, s.om⟩
theorem SR.weak {ρ' : Env} (h : SR K fr w F H σ ρ) (hl : ρ'.length = ρ.length) (e : ∀ (i : Nat) (d : D), ρ'[i]? = some (some d) → ρ[i]? = some (some d)) : SR K fr w F H σ ρ' := by
  obtain ⟨os, s⟩ := h
  exact ⟨os, s.fh, s.gh, s.f0, s.nw, s.oh, s.ow, fun i d q => s.sl i d (e i d q), by rw [hl, s.len], s.om⟩
theorem killE_some {ρ : Env} {i : Nat} {d : D} : ∀ {vs : List Nat}, (killE ρ vs)[i]? = some (some d) → ρ[i]? = some (some d)
  | [], h => h
  | v :: vs, h => by
    unfold killE at h
    by_cases hi : v = i
    · subst hi
      by_cases hv : v < (killE ρ vs).length
      · rw [List.getElem?_set_self hv] at h; cases h
      · rw [List.getElem?_eq_none (by simpa using hv)] at h; cases h
    · rw [List.getElem?_set_ne hi] at h
      exact killE_some h
theorem SR.kill (h : SR K fr w F H σ ρ) (ks : List Nat) : SR K fr w F H σ (killE ρ ks) := h.weak (killE_len ρ ks) fun _ _ => killE_some
theorem sh_set_ne {i j : Nat} {s : Sh} (h : i ≠ j) : sh (w.set i s) j = sh w j := by
  unfold sh
  rw [List.getD_eq_getElem?_getD, List.getD_eq_getElem?_getD, List.getElem?_set_ne h]
theorem sh_set_self {i : Nat} {s : Sh} (h : i < w.length) : sh (w.set i s) i = s := by
  unfold sh
  rw [List.getD_eq_getElem?_getD, List.getElem?_set_self h]
  rfl
theorem sh_set_fz {i : Nat} : sh (w.set i .fz) i = .fz := by
  by_cases h : i < w.length
  · exact sh_set_self h
  · unfold sh
    rw [List.getD_eq_getElem?_getD, List.getElem?_eq_none (by simpa using h)]
    rfl
theorem env_set {i j : Nat} {d e : D} (h : (ρ.set i (some d))[j]? = some (some e)) : (i = j ∧ d = e ∧ i < ρ.length) ∨ (i ≠ j ∧ ρ[j]? = some (some e)) := by
  by_cases hi : i = j
  · subst hi
    by_cases hv : i < ρ.length
    · rw [List.getElem?_set_self hv] at h
      cases h
      exact .inl ⟨rfl, rfl, hv⟩
    · rw [List.getElem?_eq_none (by simpa using hv)] at h
      cases h
  · rw [List.getElem?_set_ne hi] at h
    exact .inr ⟨hi, h⟩
theorem SR.set_q {i : Nat} {v : V} {d : D} (h : SR K fr w F H σ ρ) (hd : DQ K F v d) : SR K fr (w.set i .fz) F H (σ.set i (some v)) (ρ.set i (some d)) := by
  obtain ⟨os, s⟩ := h
  refine ⟨fun j => if j = i then emp else os j, s.fh, s.gh, s.f0, s.nw, fun j => ?_, fun j a h1 => ?_, fun j e q => ?_, by simpa using s.len, fun j a h1 => s.om j a (by
    by_cases hj : j = i
    · rw [if_pos hj] at h1; exact absurd rfl h1
    · rw [if_neg hj] at h1; exact h1)⟩
  · by_cases hj : j = i
    · rw [if_pos hj]; intro a o z; cases z
    · rw [if_neg hj]; exact s.oh j
  · by_cases hj : j = i
    · rw [if_pos hj] at h1; exact absurd rfl h1
    · rw [if_neg hj] at h1
      obtain ⟨q1, q2, q3⟩ := s.ow j a h1
      refine ⟨q1, q2, fun k hk => ?_⟩
      by_cases hki : k = i
      · rw [if_pos hki]; rfl
      · rw [if_neg hki]; exact q3 k hk
  · rcases env_set q with ⟨rfl, rfl, hv⟩ | ⟨ne, q⟩
    · exact ⟨v, by rw [List.getElem?_set_self (by rw [← s.len]; exact hv)], by rw [sh_set_fz]; exact hd⟩
    · rw [List.getElem?_set_ne ne, sh_set_ne ne, if_neg (Ne.symm ne)]
      exact s.sl j e q
theorem SR.set_fz {i : Nat} {v : V} {d : D} (h : SR K fr w F H σ ρ) (hd : Dp K F v d) : SR K fr (w.set i .fz) F H (σ.set i (some v)) (ρ.set i (some d)) := h.set_q (.inl hd)
/-- a slot that isn't owned falls empty -/
theorem SR.unset {i : Nat} (h : SR K fr w F H σ ρ) : SR K fr w F H (σ.set i none) (ρ.set i none) := by
  obtain ⟨os, s⟩ := h
  have off : ∀ {j : Nat} {a : Addr}, (if j = i then emp else os j) a ≠ none → j ≠ i ∧ os j a ≠ none := fun {j a} h1 => by
    by_cases hj : j = i
    · rw [if_pos hj] at h1; exact absurd rfl h1
    · rw [if_neg hj] at h1; exact ⟨hj, h1⟩
  refine ⟨fun j => if j = i then emp else os j, s.fh, s.gh, s.f0, s.nw, fun j => ?_, fun j a h1 => ?_, fun j e q => ?_, by simpa using s.len, fun j a h1 => s.om j a (off h1).2⟩
  · by_cases hj : j = i
    · rw [if_pos hj]; intro a o z; cases z
    · rw [if_neg hj]; exact s.oh j
  · obtain ⟨_, h2⟩ := off h1
    obtain ⟨q1, q2, q3⟩ := s.ow j a h2
    refine ⟨q1, q2, fun k hk => ?_⟩
    by_cases hki : k = i
    · rw [if_pos hki]; rfl
    · rw [if_neg hki]; exact q3 k hk
  · by_cases hj : i = j
    · subst hj
      by_cases hv : i < ρ.length
      · rw [List.getElem?_set_self hv] at q; cases q
      · rw [List.getElem?_eq_none (by simpa using hv)] at q; cases q
    · rw [List.getElem?_set_ne hj] at q
      rw [List.getElem?_set_ne hj, if_neg (Ne.symm hj)]
      exact s.sl j e q
theorem SR.set_ls {i : Nat} {p : Addr} {vs : List V} {ds : List D} (h : SR K fr w F H σ ρ) (hp : H p = none) (hd : DpAll K F vs ds) (hi : i < w.length) : SR K fr (w.set i .ls) F (upd H p (.lst vs)) (σ.set i (some (.ref p))) (ρ.set i (some (.list ds))) := by
  obtain ⟨os, s⟩ := h
  have nH : ∀ {A : Hp}, Same A H → A p = none := fun {A} sa => none_of_same sa hp
  have sH : Same H (upd H p (.lst vs)) := same_upd hp
  refine ⟨fun j => if j = i then upd emp p (.lst vs) else os j, s.fh.upd hp, sameM_trans s.gh (sameM_of sH), s.f0, s.nw, fun j => ?_, fun j a h1 => ?_, fun j e q => ?_, by simpa using s.len, fun j a h1 => by
    by_cases hj : j = i
    · rw [if_pos hj] at h1
      have ha : a = p := by
        by_cases ha : a = p
        · exact ha
        · rw [upd_ne ha] at h1; exact absurd rfl h1
      subst ha
      exact s.fh.no hp
    · rw [if_neg hj] at h1; exact s.om j a h1⟩
  · by_cases hj : j = i
    · rw [if_pos hj]
      intro a o z
      by_cases ha : a = p
      · subst ha; rw [upd_same] at z ⊢; exact z
      · rw [upd_ne ha] at z; cases z
    · rw [if_neg hj]; exact same_trans (s.oh j) sH
  · by_cases hj : j = i
    · rw [if_pos hj] at h1
      have ha : a = p := by
        by_cases ha : a = p
        · exact ha
        · rw [upd_ne ha] at h1; exact absurd rfl h1
      subst ha
      refine ⟨nH s.fh.s, none_of_sameM s.gh s.fh hp, fun k hk => ?_⟩
      rw [if_neg (fun z => hk (z.trans hj.symm))]
      exact nH (s.oh k)
    · rw [if_neg hj] at h1
      obtain ⟨q1, q2, q3⟩ := s.ow j a h1
      refine ⟨q1, q2, fun k hk => ?_⟩
      by_cases hki : k = i
      · rw [if_pos hki]
        have ha : a ≠ p := fun z => h1 (by rw [z]; exact nH (s.oh j))
        rw [upd_ne ha]; rfl
      · rw [if_neg hki]; exact q3 k hk
  · rcases env_set q with ⟨rfl, rfl, hv⟩ | ⟨ne, q⟩
    · refine ⟨.ref p, by rw [List.getElem?_set_self (by rw [← s.len]; exact hv)], ?_⟩
      rw [sh_set_self hi, if_pos rfl]
      exact ⟨p, vs, ds, rfl, rfl, rfl, hd⟩
    · rw [List.getElem?_set_ne ne, sh_set_ne ne, if_neg (Ne.symm ne)]
      exact s.sl j e q
/-- the list that slot i owns -/
theorem SR.get_ls {i : Nat} {d : D} (h : SR K fr w F H σ ρ) (hw : sh w i = .ls) (e : ρ[i]? = some (some d)) : ∃ a vs ds, σ[i]? = some (some (.ref a)) ∧ d = .list ds ∧ H a = some (.lst vs) ∧ DpAll K F vs ds ∧
    (∀ vs' ds', DpAll K F vs' ds' → SR K fr w F (upd H a (.lst vs')) σ (ρ.set i (some (.list ds')))) ∧ SR K fr (w.set i .fz) (upd F a (.lst vs)) H σ ρ ∧ Same F (upd F a (.lst vs)) := by
  obtain ⟨os, s⟩ := h
  obtain ⟨v, e1, hh⟩ := s.sl i d e
  rw [hw] at hh
  obtain ⟨a, vs, ds, rfl, rfl, eo, hd⟩ := hh
  have ho : os i a = some (.lst vs) := by rw [eo, upd_same]
  have hH : H a = some (.lst vs) := s.oh i a _ ho
  obtain ⟨na, ng, no⟩ := s.ow i a (by rw [ho]; simp)
  have nM : ¬ Mem.is a := s.om i a (by rw [ho]; simp)
  have nMb : ∀ b, Mem.is b → b ≠ a := fun b z h => nM (h ▸ z)
  have hil : i < ρ.length := by
    rcases Nat.lt_or_ge i ρ.length with z | z
    · exact z
    · rw [List.getElem?_eq_none z] at e; cases e
  refine ⟨a, vs, ds, e1, rfl, hH, hd, fun vs' ds' hd' => ?_, ?_, same_upd na⟩
  · have up : ∀ {A : Hp}, Same A H → A a = none → Same A (upd H a (.lst vs')) := fun {A} sa n b o z => by
      rw [upd_ne (ne_of_none z n)]; exact sa b o z
    refine ⟨fun j => if j = i then upd emp a (.lst vs') else os j, ⟨up s.fh.s na, fun b z => by
      obtain ⟨e1, u, e2, e3⟩ := s.fh.m b z
      exact ⟨e1, u, by rw [upd_ne (nMb b z)]; exact e2, e3⟩⟩, fun b o nb z => by rw [upd_ne (ne_of_none z ng)]; exact s.gh b o nb z, s.f0, s.nw, fun j => ?_, fun j b h1 => ?_, fun j e' q => ?_, by simpa using s.len, fun j b h1 => by
      by_cases hj : j = i
      · rw [if_pos hj] at h1
        have hb : b = a := by
          by_cases hb : b = a
          · exact hb
          · rw [upd_ne hb] at h1; exact absurd rfl h1
        subst hb
        exact nM
      · rw [if_neg hj] at h1; exact s.om j b h1⟩
    · by_cases hj : j = i
      · rw [if_pos hj]
        intro b o z
        by_cases hb : b = a
        · subst hb; rw [upd_same] at z ⊢; exact z
        · rw [upd_ne hb] at z; cases z
      · rw [if_neg hj]; exact up (s.oh j) (no j hj)
    · by_cases hj : j = i
      · rw [if_pos hj] at h1
        have hb : b = a := by
          by_cases hb : b = a
          · exact hb
          · rw [upd_ne hb] at h1; exact absurd rfl h1
        subst hb
        exact ⟨na, ng, fun k hk => by rw [if_neg (fun z => hk (z.trans hj.symm))]; exact no k (fun z => hk (z.trans hj.symm))⟩
      · rw [if_neg hj] at h1
        obtain ⟨q1, q2, q3⟩ := s.ow j b h1
        refine ⟨q1, q2, fun k hk => ?_⟩
        by_cases hki : k = i
        · rw [if_pos hki]
          have hb : b ≠ a := fun z => h1 (by rw [z]; exact no j hj)
          rw [upd_ne hb]; rfl
        · rw [if_neg hki]; exact q3 k hk
    · rcases env_set q with ⟨rfl, rfl, hv⟩ | ⟨ne, q⟩
      · refine ⟨.ref a, e1, ?_⟩
        rw [hw, if_pos rfl]
        exact ⟨a, vs', ds', rfl, rfl, rfl, hd'⟩
      · rw [if_neg (Ne.symm ne)]
        exact s.sl j e' q
  · have sF : Same F (upd F a (.lst vs)) := same_upd na
    refine ⟨fun j => if j = i then emp else os j, ⟨?_, fun b z => by
      obtain ⟨e1, u, e2, e3⟩ := s.fh.m b z
      exact ⟨by rw [upd_ne (nMb b z)]; exact e1, u, e2, Mem.mono e3 sF⟩⟩, s.gh, same_trans s.f0 sF, fun b h1 h2 => ?_, fun j => ?_, fun j b h1 => ?_, fun j e' q => ?_, s.len, fun j b h1 => s.om j b (by
    by_cases hj : j = i
    · rw [if_pos hj] at h1; exact absurd rfl h1
    · rw [if_neg hj] at h1; exact h1)⟩
    · intro b o z
      by_cases hb : b = a
      · subst hb; rw [upd_same] at z; rw [← z]; exact hH
      · rw [upd_ne hb] at z; exact s.fh.s b o z
    · by_cases hb : b = a
      · subst hb; exact absurd ng h2
      · rw [upd_ne hb] at h1; exact s.nw b h1 h2
    · by_cases hj : j = i
      · rw [if_pos hj]; intro b o z; cases z
      · rw [if_neg hj]; exact s.oh j
    · by_cases hj : j = i
      · rw [if_pos hj] at h1; exact absurd rfl h1
      · rw [if_neg hj] at h1
        obtain ⟨q1, q2, q3⟩ := s.ow j b h1
        have hb : b ≠ a := fun z => h1 (by rw [z]; exact no j hj)
        refine ⟨by rw [upd_ne hb]; exact q1, q2, fun k hk => ?_⟩
        by_cases hki : k = i
        · rw [if_pos hki]; rfl
        · rw [if_neg hki]; exact q3 k hk
    · by_cases hj : i = j
      · subst hj
        rw [e] at q
        cases q
        exact ⟨.ref a, e1, by rw [sh_set_fz]; exact .inl (.lst (.inl (.inl upd_same)) (dpAll_mono sF ds vs hd))⟩
      · rw [sh_set_ne hj, if_neg (Ne.symm hj)]
        obtain ⟨v, q1, q2⟩ := s.sl j e' q
        exact ⟨v, q1, q2.mono sF⟩
theorem SR.freeze {i : Nat} (h : SR K fr w F H σ ρ) (hw : sh w i = .ls) : ∃ F', Same F F' ∧ SR K fr (w.set i .fz) F' H σ ρ := by
  cases e : ρ[i]? with
  | none =>
    obtain ⟨os, s⟩ := h
    refine ⟨F, same_refl _, os, s.fh, s.gh, s.f0, s.nw, s.oh, s.ow, fun j d q => ?_, s.len, s.om⟩
    have hj : i ≠ j := fun z => by subst z; rw [e] at q; cases q
    rw [sh_set_ne hj]
    exact s.sl j d q
  | some o =>
    cases o with
    | none =>
      obtain ⟨os, s⟩ := h
      refine ⟨F, same_refl _, os, s.fh, s.gh, s.f0, s.nw, s.oh, s.ow, fun j d q => ?_, s.len, s.om⟩
      have hj : i ≠ j := fun z => by subst z; rw [e] at q; cases q
      rw [sh_set_ne hj]
      exact s.sl j d q
    | some d =>
      obtain ⟨a, vs, ds, _, _, _, _, _, q, sf⟩ := h.get_ls hw e
      exact ⟨_, sf, q⟩
theorem SR.setMany : ∀ {as : List (Nat × D)} {vs : List V} {σ : St} {ρ : Env}, SR K fr w F H σ ρ → (∀ j ∈ as.map (·.1), sh w j = .fz) → DpAll K F vs (as.map (·.2)) → SR K fr w F H (setV σ (as.map (·.1)) vs) (setE ρ as)
  | [], vs, σ, ρ, h, _, hv => by
    cases hv
    exact h
  | (i, d) :: r, vs, σ, ρ, h, hw, hv => by
    cases hv with
    | cons h1 h2 =>
      rename_i v vr
      refine SR.setMany (as := r) ((h.set_fz (i := i) h1).congr fun j => ?_) (fun j hj => hw j (List.mem_cons_of_mem _ hj)) h2
      by_cases hj : i = j
      · subst hj
        rw [sh_set_fz]
        exact hw i List.mem_cons_self
      · rw [sh_set_ne hj]

/-! ### the slots as data -/
def hidA : List Sh → Env → Env
  | _, [] => []
  | [], ρ => ρ
  | .fz :: w, d :: ρ => d :: hidA w ρ
  | _ :: w, _ :: ρ => none :: hidA w ρ
def hidO : List Sh → Env → Env
  | _, [] => []
  | [], ρ => ρ
  | .ob _ :: w, _ :: ρ => none :: hidO w ρ
  | _ :: w, d :: ρ => d :: hidO w ρ
theorem hidA_len : ∀ (w : List Sh) (ρ : Env), (hidA w ρ).length = ρ.length
  | _, [] => by unfold hidA; rfl
  | [], _ :: _ => rfl
  | .fz :: w, d :: ρ => by simp [hidA, hidA_len w ρ]
  | .ls :: w, d :: ρ => by simp [hidA, hidA_len w ρ]
  | .ob _ :: w, d :: ρ => by simp [hidA, hidA_len w ρ]
theorem hidO_len : ∀ (w : List Sh) (ρ : Env), (hidO w ρ).length = ρ.length
  | _, [] => by unfold hidO; rfl
  | [], _ :: _ => rfl
  | .fz :: w, d :: ρ => by simp [hidO, hidO_len w ρ]
  | .ls :: w, d :: ρ => by simp [hidO, hidO_len w ρ]
  | .ob _ :: w, d :: ρ => by simp [hidO, hidO_len w ρ]
theorem hidA_some {d : D} : ∀ {w : List Sh} {ρ : Env} {i : Nat}, (hidA w ρ)[i]? = some (some d) → ρ[i]? = some (some d) ∧ sh w i = .fz
  | _, [], i, h => by unfold hidA at h; simp at h
  | [], e :: ρ, i, h => ⟨h, rfl⟩
  | .fz :: w, e :: ρ, 0, h => ⟨h, rfl⟩
  | .ls :: w, e :: ρ, 0, h => by simp [hidA] at h
  | .ob _ :: w, e :: ρ, 0, h => by simp [hidA] at h
  | .fz :: w, e :: ρ, i + 1, h => by
    have q := hidA_some (w := w) (ρ := ρ) (i := i) (by simpa [hidA] using h)
    exact ⟨by simpa using q.1, by simpa [sh] using q.2⟩
  | .ls :: w, e :: ρ, i + 1, h => by
    have q := hidA_some (w := w) (ρ := ρ) (i := i) (by simpa [hidA] using h)
    exact ⟨by simpa using q.1, by simpa [sh] using q.2⟩
  | .ob _ :: w, e :: ρ, i + 1, h => by
    have q := hidA_some (w := w) (ρ := ρ) (i := i) (by simpa [hidA] using h)
    exact ⟨by simpa using q.1, by simpa [sh] using q.2⟩
theorem hidO_some {d : D} : ∀ {w : List Sh} {ρ : Env} {i : Nat}, (hidO w ρ)[i]? = some (some d) → ρ[i]? = some (some d) ∧ (sh w i = .fz ∨ sh w i = .ls)
  | _, [], i, h => by unfold hidO at h; simp at h
  | [], e :: ρ, i, h => ⟨h, .inl rfl⟩
  | .fz :: w, e :: ρ, 0, h => ⟨h, .inl rfl⟩
  | .ls :: w, e :: ρ, 0, h => ⟨h, .inr rfl⟩
  | .ob _ :: w, e :: ρ, 0, h => by simp [hidO] at h
  | .fz :: w, e :: ρ, i + 1, h => by
    have q := hidO_some (w := w) (ρ := ρ) (i := i) (by simpa [hidO] using h)
    exact ⟨by simpa using q.1, by simpa [sh] using q.2⟩
  | .ls :: w, e :: ρ, i + 1, h => by
    have q := hidO_some (w := w) (ρ := ρ) (i := i) (by simpa [hidO] using h)
    exact ⟨by simpa using q.1, by simpa [sh] using q.2⟩
  | .ob _ :: w, e :: ρ, i + 1, h => by
    have q := hidO_some (w := w) (ρ := ρ) (i := i) (by simpa [hidO] using h)
    exact ⟨by simpa using q.1, by simpa [sh] using q.2⟩
theorem SR.envA (h : SR K fr w F H σ ρ) : EnvR K F σ (hidA w ρ) := by
  obtain ⟨os, s⟩ := h
  refine ⟨fun i d e => ?_, by rw [hidA_len]; exact s.len⟩
  obtain ⟨e1, e2⟩ := hidA_some e
  obtain ⟨v, q1, q2⟩ := s.sl i d e1
  rw [e2] at q2
  exact ⟨v, q1, q2⟩
mutual
def noList : D → Bool
  | .list _ => false
  | .dict kvs => noListK kvs
  | .tuple ds => noListA ds
  | _ => true
def noListA : List D → Bool
  | [] => true
  | d :: ds => noList d && noListA ds
def noListK : List (D × D) → Bool
  | [] => true
  | p :: r => noListP p && noListK r
def noListP : D × D → Bool
  | (_, d) => noList d
end
theorem noListK_sd (l : List (Str × D)) : noListK (sdL l) = noListA (l.map (·.2)) := by
  unfold sdL
  rw [noListK, noListP, noList.eq_def]
  simp only [Bool.true_and]
  induction l with
  | nil => simp [noListK, noListA]
  | cons p l ih => simp only [List.map_cons, noListK, noListA, noListP, ih]
mutual
theorem dp_drop2 {W F : Hp} (hW : ∀ a, F a = W a ∨ ∃ xs, W a = some (.lst xs)) : ∀ {d : D} {v : V}, noList d = true → Dp K W v d → Dp K F v d
  | _, _, _, .non => .non
  | _, _, _, .bl b => .bl b
  | _, _, _, .int i => .int i
  | _, _, _, .str x => .str x
  | _, _, n, .lst _ _ => by simp [noList] at n
  | _, _, n, .tup h1 h2 => by
      refine .tup ?_ (dpAll_drop2 hW (by simpa [noList] using n) h2)
      rcases h1 with (h | ⟨o, h⟩) | h
      · rcases hW _ with q | ⟨xs, q⟩
        · exact .inl (.inl (q.trans h))
        · rw [h] at q; cases q
      · rcases hW _ with q | ⟨xs, q⟩
        · exact .inl (.inr ⟨o, q.trans h⟩)
        · rw [h] at q; cases q
      · exact .inr h
  | _, _, n, .sd (l := l) h1 h2 h3 h4 => by
      refine .sd h1 h2 ?_ (dpAll_drop2 hW (by rw [noList, h1, noListK_sd] at n; exact n) h4)
      rcases hW _ with q | ⟨xs, q⟩
      · exact q.trans h3
      · rw [h3] at q; cases q
theorem dpAll_drop2 {W F : Hp} (hW : ∀ a, F a = W a ∨ ∃ xs, W a = some (.lst xs)) : ∀ {ds : List D} {vs : List V}, noListA ds = true → DpAll K W vs ds → DpAll K F vs ds
  | _, _, _, .nil => .nil
  | _, _, n, .cons h1 h2 => by
      rw [noListA, Bool.and_eq_true] at n
      exact .cons (dp_drop2 hW n.1 h1) (dpAll_drop2 hW n.2 h2)
end
theorem dp_drop {W F : Hp} (hW : ∀ a, F a = W a ∨ ∃ xs, W a = some (.lst xs)) (d : D) (v : V) (n : noList d = true) (h : Dp K W v d) : Dp K F v d := dp_drop2 hW n h
theorem dpAll_drop' {W F : Hp} (hW : ∀ a, F a = W a ∨ ∃ xs, W a = some (.lst xs)) (ds : List D) (vs : List V) (n : noListA ds = true) (h : DpAll K W vs ds) : DpAll K F vs ds := dpAll_drop2 hW n h
open Classical in
/-- all lists that are owned, seen as data for a while -/
theorem SR.view (h : SR K fr w F H σ ρ) : ∃ W, Same F W ∧ Wf W H ∧ EnvR K W σ (hidO w ρ) ∧
    ∀ W' H', Grow W H W' H' → ∃ F', Same F F' ∧ SR K fr w F' H' σ ρ ∧ ∀ v d, noList d = true → Dp K W' v d → Dp K F' v d := by
  obtain ⟨os, s⟩ := h
  let P : Addr → Prop := fun a => ∃ i d, sh w i = .ls ∧ ρ[i]? = some (some d) ∧ os i a ≠ none
  let W : Hp := fun a => if P a then H a else F a
  have Pn : ∀ a, P a → F a = none := fun a ⟨i, _, _, _, h⟩ => (s.ow i a h).1
  have Pl : ∀ a, P a → ∃ xs, H a = some (.lst xs) := fun a ⟨i, d, hw, e, h⟩ => by
    obtain ⟨v, _, hh⟩ := s.sl i d e
    rw [hw] at hh
    obtain ⟨b, vs, ds, _, _, eo, _⟩ := hh
    have : a = b := by
      rw [eo] at h
      by_cases hb : a = b
      · exact hb
      · rw [upd_ne hb] at h; exact absurd rfl h
    subst this
    exact ⟨vs, s.oh i a _ (by rw [eo, upd_same])⟩
  have sFW : Same F W := fun a o e => by
    show (if P a then H a else F a) = _
    by_cases hp : P a
    · rw [if_pos hp]; exact s.fh.s a o e
    · rw [if_neg hp]; exact e
  have sWH : Same W H := fun a o e => by
    have e : (if P a then H a else F a) = some o := e
    by_cases hp : P a
    · rw [if_pos hp] at e; exact e
    · rw [if_neg hp] at e; exact s.fh.s a o e
  have nP : ∀ a, Mem.is a → ¬ P a := fun a z ⟨i, _, _, _, h⟩ => s.om i a h z
  refine ⟨W, sFW, ⟨sWH, fun a z => by
    obtain ⟨e1, u, e2, e3⟩ := s.fh.m a z
    exact ⟨(if_neg (nP a z)).trans e1, u, e2, Mem.mono e3 sFW⟩⟩, ⟨fun i d e => ?_, by rw [hidO_len]; exact s.len⟩, fun W' H' g => ?_⟩
  · obtain ⟨e1, e2⟩ := hidO_some e
    obtain ⟨v, q1, q2⟩ := s.sl i d e1
    rcases e2 with e2 | e2
    · rw [e2] at q2
      exact ⟨v, q1, dq_mono sFW q2⟩
    · rw [e2] at q2
      obtain ⟨b, vs, ds, rfl, rfl, eo, hd⟩ := q2
      have hp : P b := ⟨i, _, e2, e1, by rw [eo, upd_same]; simp⟩
      refine ⟨.ref b, q1, .inl (.lst (.inl (.inl ?_)) (dpAll_mono sFW _ _ hd))⟩
      show (if P b then H b else F b) = _
      rw [if_pos hp]
      exact s.oh i b _ (by rw [eo, upd_same])
  · let F' : Hp := fun a => if P a then none else W' a
    have sFF : Same F F' := fun a o e => by
      have hp : ¬ P a := fun z => by rw [Pn a z] at e; cases e
      show (if P a then none else W' a) = _
      rw [if_neg hp]
      exact g.ff a o (sFW a o e)
    have F'n : ∀ a, F' a ≠ none → ¬ P a ∧ W' a ≠ none := fun a z => by
      by_cases hp : P a
      · exact absurd (if_pos hp) z
      · exact ⟨hp, by rw [show F' a = W' a from if_neg hp] at z; exact z⟩
    have cut : ∀ a, F' a = W' a ∨ ∃ xs, W' a = some (.lst xs) := fun a => by
      by_cases hp : P a
      · obtain ⟨xs, q⟩ := Pl a hp
        exact .inr ⟨xs, g.ff a _ (by show (if P a then H a else F a) = _; rw [if_pos hp]; exact q)⟩
      · exact .inl (if_neg hp)
    refine ⟨F', sFF, ⟨os, ⟨fun a o e => ?_, fun a z => ?_⟩, sameM_trans s.gh g.hh, same_trans s.f0 sFF, fun a h1 h2 => ?_, fun i a o e => g.hh a o (s.om i a (by rw [e]; simp)) (s.oh i a o e), fun i a h1 => ?_, fun i d e => ?_, s.len, s.om⟩, fun v d n hd => dp_drop cut d v n hd⟩
    · obtain ⟨hp, _⟩ := F'n a (by rw [e]; simp)
      rw [show F' a = W' a from if_neg hp] at e
      exact g.fh.s a o e
    · obtain ⟨e1, u, e2, e3⟩ := g.fh.m a z
      exact ⟨(if_neg (nP a z)).trans e1, u, e2, Mem.drop cut e3⟩
    · obtain ⟨hp, hw⟩ := F'n a h1
      have hW : W a ≠ none := g.nw a hw (sameM_ne s.gh s.fh h2)
      rw [show W a = F a from if_neg hp] at hW
      exact s.nw a hW h2
    · obtain ⟨q1, q2, q3⟩ := s.ow i a h1
      refine ⟨?_, q2, q3⟩
      by_cases hp : P a
      · exact if_pos hp
      · show (if P a then none else W' a) = none
        rw [if_neg hp]
        cases e : W' a with
        | none => rfl
        | some o =>
          have hW : W a ≠ none := g.nw a (by rw [e]; simp) (same_ne (s.oh i) h1)
          rw [show W a = F a from if_neg hp] at hW
          exact absurd q1 hW
    · obtain ⟨v, q1, q2⟩ := s.sl i d e
      exact ⟨v, q1, q2.mono sFF⟩
end
end DL

set_option maxHeartbeats 1000000
/-! DL4: statements on data. -/
namespace DL
open PySem PySem.Spec L2
open PyProof.Rows hiding St
variable [Mem]

inductive Out where
  | nx (ρ : Env)
  | rt (d : D) (ρ : Env)
  | bk (ρ : Env)
  | err (c : Str) (ρ : Env)
  | bad
abbrev SF := Env → Out
def PostS (K : PySem.W.Frag) (fr : Fr) (s0 : Sh) (wl w' : List Sh) (F : Hp) (Er : ErT) (o : Out) (Dn : Ends) : Prop := match o with
  | .nx ρ' => ∀ σ' F' H', Same F F' → SR K fr w' F' H' σ' ρ' → Dn.nx σ' H'
  | .rt d ρ' => ∀ σ' F' H' v w'', sh w'' 0 = s0 → SR K fr w'' F' H' σ' ρ' → Dp K F' v d → Dn.rt v H'
  | .bk ρ' => ∀ σ' F' H', Same F F' → SR K fr wl F' H' σ' ρ' → Dn.bk σ' H'
  | .err c ρ' => ∀ σ' F' H' w'', sh w'' 0 = s0 → SR K fr w'' F' H' σ' ρ' → Er c H'
  | .bad => False
def DRs (K : PySem.W.Frag) (Er : ErT) (s0 : Sh) (wl w w' : List Sh) (t : TS) (f : SF) : Prop := ∀ fr F H σ ρ Dn, SR K fr w F H σ ρ → PostS K fr s0 wl w' F Er (f ρ) Dn → t Dn σ H
structure DS (X : Cx) (Er : ErT) (s0 : Sh) (wl w : List Sh) (sts : List Stmt) (w' : List Sh) (t : TS) (f : SF) : Prop where
  ps : PSs X sts t
  rd : DRs X.K Er s0 wl w w' t f
structure D1 (X : Cx) (Er : ErT) (s0 : Sh) (wl w : List Sh) (st : Stmt) (w' : List Sh) (t : TS) (f : SF) : Prop where
  ps : PS X st t
  rd : DRs X.K Er s0 wl w w' t f
section
variable {K : PySem.W.Frag} {fr : Fr} {s0 : Sh} {wl w w' : List Sh} {F F1 : Hp} {Er : ErT}
theorem PostS.mono {o : Out} {Dn : Ends} (h : PostS K fr s0 wl w' F Er o Dn) (s : Same F F1) : PostS K fr s0 wl w' F1 Er o Dn := by
  cases o with
  | nx ρ' => exact fun σ' F' H' s' => h σ' F' H' (same_trans s s')
  | bk ρ' => exact fun σ' F' H' s' => h σ' F' H' (same_trans s s')
  | _ => exact h
end
/-! ### mirrors -/
def runR {α : Type} (r : R α) (ρ : Env) (k : α → Out) : Out := match r with
  | .ok a => k a
  | .err c => .err c ρ
  | .bad => .bad
theorem runR_ok {α : Type} (a : α) (ρ : Env) (k : α → Out) : runR (.ok a) ρ k = k a := rfl
theorem runR_err {α : Type} (c : Str) (ρ : Env) (k : α → Out) : runR (.err c) ρ k = .err c ρ := rfl
def Out.then (o : Out) (g : SF) : Out := match o with
  | .nx ρ => g ρ
  | o => o
theorem then_nx (ρ : Env) (g : SF) : (Out.nx ρ).then g = g ρ := rfl
theorem then_rt (d : D) (ρ : Env) (g : SF) : (Out.rt d ρ).then g = .rt d ρ := rfl
theorem then_bk (ρ : Env) (g : SF) : (Out.bk ρ).then g = .bk ρ := rfl
theorem then_err (c : Str) (ρ : Env) (g : SF) : (Out.err c ρ).then g = .err c ρ := rfl
theorem then_bad (g : SF) : (Out.bad).then g = .bad := rfl
def seqS (f g : SF) : SF := fun ρ => (f ρ).then g
def nxS : SF := fun ρ => .nx ρ
def asgS (w : List Sh) (i : Nat) (f : EF) : SF := fun ρ => runR (f (hidA w ρ)) ρ fun d => .nx (ρ.set i (some d))
def asgB (w : List Sh) (i : Nat) (f : EF) : SF := fun ρ => runR (f (hidO w ρ)) ρ fun d => if noList d = true then .nx (ρ.set i (some d)) else .bad
def newS (w : List Sh) (i : Nat) (f : AF) : SF := fun ρ => runR (f (hidA w ρ)) ρ fun ds => .nx (ρ.set i (some (.list ds)))
def dropS (w : List Sh) (f : EF) : SF := fun ρ => runR (f (hidA w ρ)) ρ fun _ => .nx ρ
def ifS (w : List Sh) (t : TF) (a b : SF) : SF := fun ρ => runR (t (hidO w ρ)) ρ fun c => if c = true then a ρ else b ρ
def retS (w : List Sh) (f : EF) : SF := fun ρ => runR (f (hidA w ρ)) ρ fun d => .rt d ρ
def retB (w : List Sh) (f : EF) : SF := fun ρ => runR (f (hidO w ρ)) ρ fun d => if noList d = true then .rt d ρ else .bad
def retN : SF := fun ρ => .rt .none ρ
def raiseS (c : Str) : SF := fun ρ => .err c ρ
def lsAt (ρ : Env) (i : Nat) (k : List D → Out) : Out := match ρ[i]? with
  | some (some (.list ds)) => k ds
  | _ => .bad
def appS (w : List Sh) (i : Nat) (f : EF) : SF := fun ρ => lsAt ρ i fun ds => runR (f (hidA w ρ)) ρ fun d => if ds.length < 1000000 then .nx (ρ.set i (some (.list (ds ++ [d])))) else .bad
def appB (w : List Sh) (i : Nat) (f : EF) : SF := fun ρ => lsAt ρ i fun ds => runR (f (hidO w ρ)) ρ fun d => if ds.length < 1000000 ∧ noList d = true then .nx (ρ.set i (some (.list (ds ++ [d])))) else .bad
def extS (w : List Sh) (i : Nat) (f : AF) : SF := fun ρ => lsAt ρ i fun ds => runR (f (hidA w ρ)) ρ fun es => if ds.length + es.length ≤ 1000000 then .nx (ρ.set i (some (.list (ds ++ es)))) else .bad
def setS (w : List Sh) (i : Nat) (f fi : EF) : SF := fun ρ => runR (f (hidO w ρ)) ρ fun d => lsAt ρ i fun ds => runR (fi (hidO w ρ)) ρ fun x => match intD x with
  | some k => (match ixN ds.length k with
    | some j => if noList d = true then .nx (ρ.set i (some (.list (ds.set j d)))) else .bad
    | none => .bad)
  | none => .bad
def retO (i : Nat) : SF := fun ρ => match ρ[i]? with
  | some (some d) => .rt d ρ
  | _ => .bad
def tupS (w : List Sh) (f : EF) (g : TGF) : SF := fun ρ => runR (f (hidA w ρ)) ρ fun d => match g d with
  | some as => .nx (setE ρ as)
  | none => .bad
def tupB (w : List Sh) (f : EF) (g : TGF) : SF := fun ρ => runR (f (hidO w ρ)) ρ fun d => if noList d = true then (match g d with
  | some as => .nx (setE ρ as)
  | none => .bad) else .bad
def parS (w : List Sh) (f : AF) (i j : Nat) : SF := fun ρ => runR (f (hidA w ρ)) ρ fun ds => match ds with
  | [d, e] => .nx ((ρ.set i (some d)).set j (some e))
  | _ => .bad
/-- the turns of a for -/
def forL (tgf : TGF) (body : SF) (ks : List Nat) : List D → Env → Out
  | [], ρ => .nx ρ
  | d :: ds, ρ => match tgf d with
    | none => .bad
    | some as => match body (setE ρ as) with
      | .nx ρ' => forL tgf body ks ds (killE ρ' ks)
      | .bk ρ' => .nx ρ'
      | o => o
def forS (w : List Sh) (fi : AF) (tgf : TGF) (body : SF) (ks : List Nat) : SF := fun ρ => runR (fi (hidA w ρ)) ρ fun ds => forL tgf body ks ds (killE ρ ks)
/-- a while with at most so many turns -/
def whileL (w : List Sh) (t : TF) (body : SF) (ks : List Nat) : Nat → Env → Out
  | 0, _ => .bad
  | n + 1, ρ => runR (t (hidO w ρ)) ρ fun c => if c = true then (match body ρ with
      | .nx ρ' => whileL w t body ks n (killE ρ' ks)
      | .bk ρ' => .nx ρ'
      | o => o) else .nx ρ
def whileS (w : List Sh) (n : Nat) (t : TF) (body : SF) (ks : List Nat) : SF := fun ρ => whileL w t body ks n (killE ρ ks)

section
variable {X : Cx} {Er : ErT} {s0 : Sh} {wl w w1 w2 w' : List Sh} {t u : TS} {f g : SF} {te : TE} {ta : TA} {tt : TT} {K : PySem.W.Frag} {st : Stmt} {rest sts : List Stmt} {pos : Pos}
/-- an expression's run within a statement, the owned slots hidden -/
theorem runA {fr : Fr} {F H : Hp} {σ : St} {ρ : Env} {Dn : Ends} {fe : EF} {k : D → Out} {Q : VK} (hw : sh w 0 = s0) (h : DRd K Er te fe) (st : SR K fr w F H σ ρ) (p : PostS K fr s0 wl w' F Er (runR (fe (hidA w ρ)) ρ k) Dn)
    (q : ∀ d v F1 H1, Same F F1 → SR K fr w F1 H1 σ ρ → Dp K F1 v d → PostS K fr s0 wl w' F1 Er (k d) Dn → Q v H1) : te σ H Q := by
  refine h F H σ _ _ st.fh st.envA ?_
  cases e : fe (hidA w ρ) with
  | ok d =>
    rw [e, runR_ok] at p
    exact fun F' H' gr v dv => q d v F' H' gr.ff (st.grow gr) dv (PostS.mono p gr.ff)
  | err c =>
    rw [e] at p
    exact fun F' H' gr => p σ F' H' w hw (st.grow gr)
  | bad => rw [e] at p; exact p
theorem runN {fr : Fr} {F H : Hp} {σ : St} {ρ : Env} {Dn : Ends} {fe : AF} {k : List D → Out} {Q : VK} (hw : sh w 0 = s0) (h : DRn K Er te fe) (st : SR K fr w F H σ ρ) (p : PostS K fr s0 wl w' F Er (runR (fe (hidA w ρ)) ρ k) Dn)
    (q : ∀ ds p vs F1 H1, Same F F1 → SR K fr w F1 H1 σ ρ → H1 p = none → DpAll K F1 vs ds → PostS K fr s0 wl w' F1 Er (k ds) Dn → Q (.ref p) (upd H1 p (.lst vs))) : te σ H Q := by
  refine h F H σ _ _ st.fh st.envA ?_
  cases e : fe (hidA w ρ) with
  | ok d =>
    rw [e, runR_ok] at p
    exact fun F' H' gr a vs ha dv => q d a vs F' H' gr.ff (st.grow gr) ha dv (PostS.mono p gr.ff)
  | err c =>
    rw [e] at p
    exact fun F' H' gr => p σ F' H' w hw (st.grow gr)
  | bad => rw [e] at p; exact p
theorem runAs {fr : Fr} {F H : Hp} {σ : St} {ρ : Env} {Dn : Ends} {fe : AF} {k : List D → Out} {Q : List V → Hp → Prop} (hw : sh w 0 = s0) (h : DRa K Er ta fe) (st : SR K fr w F H σ ρ) (p : PostS K fr s0 wl w' F Er (runR (fe (hidA w ρ)) ρ k) Dn)
    (q : ∀ ds vs F1 H1, Same F F1 → SR K fr w F1 H1 σ ρ → DpAll K F1 vs ds → PostS K fr s0 wl w' F1 Er (k ds) Dn → Q vs H1) : ta σ H Q := by
  refine h F H σ _ _ st.fh st.envA ?_
  cases e : fe (hidA w ρ) with
  | ok d =>
    rw [e, runR_ok] at p
    exact fun F' H' gr v dv => q d v F' H' gr.ff (st.grow gr) dv (PostS.mono p gr.ff)
  | err c =>
    rw [e] at p
    exact fun F' H' gr => p σ F' H' w hw (st.grow gr)
  | bad => rw [e] at p; exact p
/-- .. the owned lists seen -/
theorem runV {fr : Fr} {F H : Hp} {σ : St} {ρ : Env} {Dn : Ends} {fe : EF} {k : D → Out} {Q : VK} (hw : sh w 0 = s0) (h : DRd K Er te fe) (st : SR K fr w F H σ ρ) (p : PostS K fr s0 wl w' F Er (runR (fe (hidO w ρ)) ρ k) Dn)
    (q : ∀ d v F1 H1, Same F F1 → SR K fr w F1 H1 σ ρ → (noList d = true → Dp K F1 v d) → PostS K fr s0 wl w' F1 Er (k d) Dn → Q v H1) : te σ H Q := by
  obtain ⟨W, s1, s2, env, fin⟩ := st.view
  refine h W H σ _ _ s2 env ?_
  cases e : fe (hidO w ρ) with
  | ok d =>
    rw [e, runR_ok] at p
    intro W' H' gr v dv
    obtain ⟨F', s3, st', hd⟩ := fin W' H' gr
    exact q d v F' H' s3 st' (fun n => hd v d n dv) (PostS.mono p s3)
  | err c =>
    rw [e] at p
    intro W' H' gr
    obtain ⟨F', s3, st', _⟩ := fin W' H' gr
    exact p σ F' H' w hw st'
  | bad => rw [e] at p; exact p
theorem runT {fr : Fr} {F H : Hp} {σ : St} {ρ : Env} {Dn : Ends} {fe : TF} {k : Bool → Out} {Q : Bool → Hp → Prop} (hw : sh w 0 = s0) (h : DRt K Er tt fe) (st : SR K fr w F H σ ρ) (p : PostS K fr s0 wl w' F Er (runR (fe (hidO w ρ)) ρ k) Dn)
    (q : ∀ b F1 H1, Same F F1 → SR K fr w F1 H1 σ ρ → PostS K fr s0 wl w' F1 Er (k b) Dn → Q b H1) : tt σ H Q := by
  obtain ⟨W, s1, s2, env, fin⟩ := st.view
  refine h W H σ _ _ s2 env ?_
  cases e : fe (hidO w ρ) with
  | ok d =>
    rw [e, runR_ok] at p
    intro W' H' gr
    obtain ⟨F', s3, st', _⟩ := fin W' H' gr
    exact q d F' H' s3 st' (PostS.mono p s3)
  | err c =>
    rw [e] at p
    intro W' H' gr
    obtain ⟨F', s3, st', _⟩ := fin W' H' gr
    exact p σ F' H' w hw st'
  | bad => rw [e] at p; exact p
/-! ### blocks -/
theorem ds_nil : DS X Er s0 wl w [] w tNext nxS := ⟨pss_nil, fun fr F H σ ρ Dn st p => p σ F H (same_refl _) st⟩
theorem drs_seq (h1 : DRs K Er s0 wl w w1 t f) (h2 : DRs K Er s0 wl w1 w2 u g) : DRs K Er s0 wl w w2 (tSeq t u) (seqS f g) := by
  intro fr F H σ ρ Dn st p
  refine h1 fr F H σ ρ _ st ?_
  unfold seqS at p
  cases e : f ρ with
  | nx ρ' =>
    rw [e] at p
    exact fun σ' F' H' s' st' => h2 fr F' H' σ' ρ' Dn st' (PostS.mono p s')
  | rt d ρ' => rw [e] at p; exact p
  | bk ρ' => rw [e] at p; exact p
  | err c ρ' => rw [e] at p; exact p
  | bad => rw [e] at p; exact p
theorem ds_cons (h1 : D1 X Er s0 wl w st w1 t f) (h2 : DS X Er s0 wl w1 rest w2 u g) : DS X Er s0 wl w (st :: rest) w2 (tSeq t u) (seqS f g) := ⟨pss_cons h1.ps h2.ps, drs_seq h1.rd h2.rd⟩
theorem ds_one (h1 : D1 X Er s0 wl w st w1 t f) : DS X Er s0 wl w [st] w1 t f := ⟨pss_one h1.ps, h1.rd⟩
/-- an owned list is frozen from now on -/
theorem ds_frz (i : Nat) (hi : sh w i = .ls) (h : DS X Er s0 wl (w.set i .fz) sts w' t f) : DS X Er s0 wl w sts w' t f := by
  refine ⟨h.ps, fun fr F H σ ρ Dn st p => ?_⟩
  obtain ⟨F', s, st'⟩ := st.freeze hi
  exact h.rd fr F' H σ ρ Dn st' (PostS.mono p s)
/-! ### assignments -/
theorem drs_asg {i : Nat} {fe : EF} (hw : sh w 0 = s0) (h : DRd K Er te fe) : DRs K Er s0 wl w (w.set i .fz) (tAsg te (gName i)) (asgS w i fe) := fun fr F H σ ρ Dn st p =>
  runA (te := te) hw h st p fun d v F1 H1 s1 st1 dv p1 => p1 _ F1 H1 (same_refl _) (st1.set_fz dv)
theorem drs_asgB {i : Nat} {fe : EF} (hw : sh w 0 = s0) (h : DRd K Er te fe) : DRs K Er s0 wl w (w.set i .fz) (tAsg te (gName i)) (asgB w i fe) := fun fr F H σ ρ Dn st p =>
  runV (te := te) hw h st p fun d v F1 H1 s1 st1 dv p1 => by
    by_cases n : noList d = true
    · rw [if_pos n] at p1
      exact p1 _ F1 H1 (same_refl _) (st1.set_fz (dv n))
    · rw [if_neg n] at p1
      exact p1.elim
theorem drs_new {i : Nat} {fe : AF} (hw : sh w 0 = s0) (hi : i < w.length) (h : DRn K Er te fe) : DRs K Er s0 wl w (w.set i .ls) (tAsg te (gName i)) (newS w i fe) := fun fr F H σ ρ Dn st p =>
  runN (te := te) hw h st p fun ds a vs F1 H1 s1 st1 ha dv p1 => p1 _ F1 _ (same_refl _) (st1.set_ls ha dv hi)
theorem d_asg {i : Nat} {x : Str} {e : Expr} {pos' : Pos} {fe : EF} (hN : X.N.Nodup) (hi : X.N[i]? = some x) (hx : Loc X.env.scope x) (h : DE X Er e te fe) (hw : sh w 0 = s0 := by rfl) (hs : swapsWith e (some (.Name x pos')) pos.line X.env = pure false := by rfl) (hf : X.fn x = true ∨ X.env.scope.names.lookup x = some .local := by first | exact .inl rfl | exact .inr rfl | assumption) :
    D1 X Er s0 wl w (.Assign [.Name x pos'] e pos) (w.set i .fz) (tAsg te (gName i)) (asgS w i fe) := ⟨ps_set hN hi hx h.pe hs hf, drs_asg hw h.rd⟩
theorem d_asgB {i : Nat} {x : Str} {e : Expr} {pos' : Pos} {fe : EF} (hN : X.N.Nodup) (hi : X.N[i]? = some x) (hx : Loc X.env.scope x) (h : DE X Er e te fe) (hw : sh w 0 = s0 := by rfl) (hs : swapsWith e (some (.Name x pos')) pos.line X.env = pure false := by rfl) (hf : X.fn x = true ∨ X.env.scope.names.lookup x = some .local := by first | exact .inl rfl | exact .inr rfl | assumption) :
    D1 X Er s0 wl w (.Assign [.Name x pos'] e pos) (w.set i .fz) (tAsg te (gName i)) (asgB w i fe) := ⟨ps_set hN hi hx h.pe hs hf, drs_asgB hw h.rd⟩
theorem d_new {i : Nat} {x : Str} {e : Expr} {pos' : Pos} {fe : AF} (hN : X.N.Nodup) (hi : X.N[i]? = some x) (hx : Loc X.env.scope x) (h : DN X Er e te fe) (hl : i < w.length := by decide) (hw : sh w 0 = s0 := by rfl) (hs : swapsWith e (some (.Name x pos')) pos.line X.env = pure false := by rfl) (hf : X.fn x = true ∨ X.env.scope.names.lookup x = some .local := by first | exact .inl rfl | exact .inr rfl | assumption) :
    D1 X Er s0 wl w (.Assign [.Name x pos'] e pos) (w.set i .ls) (tAsg te (gName i)) (newS w i fe) := ⟨ps_set hN hi hx h.pe hs hf, drs_new hw hl h.rd⟩
/-- y = [.. for ..] -/
theorem d_newLc {i : Nat} {fe : AF} (h : PS X st (tAsg te (gName i)) ∧ DRn X.K Er te fe) (hl : i < w.length := by decide) (hw : sh w 0 = s0 := by rfl) : D1 X Er s0 wl w st (w.set i .ls) (tAsg te (gName i)) (newS w i fe) := ⟨h.1, drs_new hw hl h.2⟩
theorem dr_frz {fe : AF} (h : DRn K Er te fe) : DRd K Er te (lstE fe) := by
  intro F H σ ρ Q s st p
  refine h F H σ ρ _ s st (Post.imp (Post.bind p) fun F1 H1 ds g1 p1 a vs ha dvs => ?_)
  exact Post.done p1 (Grow.new g1.fh ha) _ (.lst (.inl (.inl upd_same)) (dpAll_mono (Grow.new g1.fh ha).ff ds vs dvs))
theorem d_asgLc {i : Nat} {fe : AF} (h : PS X st (tAsg te (gName i)) ∧ DRn X.K Er te fe) (hw : sh w 0 = s0 := by rfl) : D1 X Er s0 wl w st (w.set i .fz) (tAsg te (gName i)) (asgS w i (lstE fe)) := ⟨h.1, drs_asg hw (dr_frz h.2)⟩
theorem d_drop {e : Expr} {fe : EF} (h : DE X Er e te fe) (hw : sh w 0 = s0 := by rfl) (hs : swapsWith e none pos.line X.env = pure false := by rfl) : D1 X Er s0 wl w (.Expr e pos) w (tDrop te) (dropS w fe) :=
  ⟨ps_expr h.pe hs, fun fr F H σ ρ Dn st p => runA (te := te) hw h.rd st p fun d v F1 H1 s1 st1 dv p1 => p1 _ F1 H1 (same_refl _) st1⟩
theorem d_pass : D1 X Er s0 wl w (.Pass pos) w tNext nxS := ⟨ps_pass, fun fr F H σ ρ Dn st p => p σ F H (same_refl _) st⟩
/-- a, b = e -/
theorem d_tup {tg e : Expr} {g : TG} {tgf : TGF} {js : List Nat} {fe : EF} (h : DE X Er e te fe) (hg : TG1 X tg g tgf js) (hj : ∀ j ∈ js, sh w j = .fz) (hw : sh w 0 = s0 := by rfl) (hs : swapsWithSole [tg] e pos.line X.env = pure false := by rfl) (hsw : swappedStores [tg] e X.env = pure none := by rfl)
    (h1 : (assignEach [tg] X.env).map (·.2) = [assign tg X.env] := by rfl) : D1 X Er s0 wl w (.Assign [tg] e pos) w (tAsg te g) (tupS w fe tgf) := by
  refine ⟨ps_asg h.pe hg.pg hs hsw h1, fun fr F H σ ρ Dn st p => runA (te := te) hw h.rd st p fun d v F1 H1 s1 st1 dv p1 => ?_⟩
  cases e : tgf d with
  | none => simp only [e] at p1; exact p1.elim
  | some as =>
    simp only [e] at p1
    refine hg.rd F1 H1 v d as σ _ st1.fh dv e fun vs hv hjs => ?_
    have q := st1.setMany (as := as) (by rw [hjs]; exact hj) hv
    rw [hjs] at q
    exact p1 _ F1 H1 (same_refl _) q
theorem d_tupB {tg e : Expr} {g : TG} {tgf : TGF} {js : List Nat} {fe : EF} (h : DE X Er e te fe) (hg : TG1 X tg g tgf js) (hj : ∀ j ∈ js, sh w j = .fz) (hw : sh w 0 = s0 := by rfl) (hs : swapsWithSole [tg] e pos.line X.env = pure false := by rfl) (hsw : swappedStores [tg] e X.env = pure none := by rfl)
    (h1 : (assignEach [tg] X.env).map (·.2) = [assign tg X.env] := by rfl) : D1 X Er s0 wl w (.Assign [tg] e pos) w (tAsg te g) (tupB w fe tgf) := by
  refine ⟨ps_asg h.pe hg.pg hs hsw h1, fun fr F H σ ρ Dn st p => runV (te := te) hw h.rd st p fun d v F1 H1 s1 st1 dv p1 => ?_⟩
  by_cases n : noList d = true
  · rw [if_pos n] at p1
    cases e : tgf d with
    | none => simp only [e] at p1; exact p1.elim
    | some as =>
      simp only [e] at p1
      refine hg.rd F1 H1 v d as σ _ st1.fh (dv n) e fun vs hv hjs => ?_
      have q := st1.setMany (as := as) (by rw [hjs]; exact hj) hv
      rw [hjs] at q
      exact p1 _ F1 H1 (same_refl _) q
  · rw [if_neg n] at p1
    exact p1.elim
/-- a, b = x, y: two plain local names -/
theorem d_par {i j : Nat} {x y : Str} {a b : Expr} {fa : AF} {px py pt : Pos} {kt k2 pt2} (hc : X.calm = true) (hN : X.N.Nodup) (hi : X.N[i]? = some x) (hj : X.N[j]? = some y) (hij : i ≠ j)
    (hx : X.env.scope.names.lookup x = some .local) (hy : X.env.scope.names.lookup y = some .local) (ha : DA X Er [a, b] ta fa)
    (hsw : swappedStores [.Tuple [.Name x px, .Name y py] kt pt] (.Tuple [a, b] k2 pt2) X.env = pure (some [x, y])) (hw : sh w 0 = s0 := by rfl)
    (hs : swapsWithSole [.Tuple [.Name x px, .Name y py] kt pt] (.Tuple [a, b] k2 pt2) pos.line X.env = pure false := by rfl) :
    D1 X Er s0 wl w (.Assign [.Tuple [.Name x px, .Name y py] kt pt] (.Tuple [a, b] k2 pt2) pos) ((w.set i .fz).set j .fz) (tPar i j ta) (parS w fa i j) := by
  refine ⟨ps_par hc hN hi hj hij hx hy ha.pe hsw hs, fun fr F H σ ρ Dn st p => runAs (ta := ta) hw ha.rd st p fun ds vs F1 H1 s1 st1 dv p1 => ?_⟩
  match ds, vs, dv, p1 with
  | [d, e], [v, u], .cons h1 (.cons h2 .nil), p1 => exact ⟨v, u, rfl, p1 _ F1 H1 (same_refl _) ((st1.set_fz h1).set_fz h2)⟩
  | [], _, _, p1 => exact p1.elim
  | [_], _, _, p1 => exact p1.elim
  | _ :: _ :: _ :: _, _, _, p1 => exact p1.elim
/-! ### lists that are owned -/
theorem lsAt_post {fr : Fr} {F H : Hp} {σ : St} {ρ : Env} {Dn : Ends} {i : Nat} {k : List D → Out} (hi : sh w i = .ls) (st : SR K fr w F H σ ρ) (p : PostS K fr s0 wl w' F Er (lsAt ρ i k) Dn) :
    ∃ a vs ds, ρ[i]? = some (some (.list ds)) ∧ σ[i]? = some (some (.ref a)) ∧ H a = some (.lst vs) ∧ DpAll K F vs ds ∧ (∀ vs' ds', DpAll K F vs' ds' → SR K fr w F (upd H a (.lst vs')) σ (ρ.set i (some (.list ds')))) ∧ PostS K fr s0 wl w' F Er (k ds) Dn := by
  unfold lsAt at p
  cases e : ρ[i]? with
  | none => simp only [e] at p; exact p.elim
  | some o =>
    cases o with
    | none => simp only [e] at p; exact p.elim
    | some d =>
      obtain ⟨a, vs, ds, q1, rfl, q2, q3, q4, _⟩ := st.get_ls hi e
      simp only [e] at p
      exact ⟨a, vs, ds, rfl, q1, q2, q3, q4, p⟩
theorem ls_again {fr : Fr} {F H : Hp} {σ : St} {ρ : Env} {i : Nat} {a : Addr} {ds : List D} (hi : sh w i = .ls) (st : SR K fr w F H σ ρ) (e : ρ[i]? = some (some (.list ds))) (q1 : σ[i]? = some (some (.ref a))) :
    ∃ vs, H a = some (.lst vs) ∧ DpAll K F vs ds ∧ (∀ vs' ds', DpAll K F vs' ds' → SR K fr w F (upd H a (.lst vs')) σ (ρ.set i (some (.list ds')))) := by
  obtain ⟨a', vs, ds', z1, z2, z3, z4, z5, _⟩ := st.get_ls hi e
  rw [q1] at z1
  cases z1
  cases z2
  exact ⟨vs, z3, z4, z5⟩
theorem d_app {i : Nat} {x : Str} {e : Expr} {p1 p2 p3 : Pos} {fe : EF} (hi : sh w i = .ls) (hN : X.N[i]? = some x) (hv : Vis X.env.scope x) (h : DE X Er e te fe) (hps : PS X (.Expr (.Call (.Attribute (.Name x p1) "append" p2) [e] [] p3) pos) (tDrop (tBM X.K "list" rAppend (tVar i) (tCons te tNil)))) (hw : sh w 0 = s0 := by rfl) :
    D1 X Er s0 wl w (.Expr (.Call (.Attribute (.Name x p1) "append" p2) [e] [] p3) pos) w (tDrop (tBM X.K "list" rAppend (tVar i) (tCons te tNil))) (appS w i fe) := by
  refine ⟨hps, fun fr F H σ ρ Dn st p => ?_⟩
  obtain ⟨a, vs, ds, e1, q1, q2, q3, q4, p⟩ := lsAt_post hi st p
  refine ⟨_, q1, .inl ⟨rfl, _, SqL.of q2⟩, runA (te := te) hw h.rd st p fun d v F1 H1 s1 st1 dv p1 => ?_⟩
  obtain ⟨vs1, z1, z2, z3⟩ := ls_again hi st1 e1 q1
  by_cases hl : ds.length < 1000000
  · rw [if_pos hl] at p1
    refine ⟨a, vs1, v, rfl, rfl, z1, sz_lt (by rw [dpAll_len z2]; exact hl), ?_⟩
    exact p1 _ F1 _ (same_refl _) (z3 _ _ (dpAll_app z2 (.cons dv .nil)))
  · rw [if_neg hl] at p1
    exact p1.elim
theorem d_appB {i : Nat} {x : Str} {e : Expr} {p1 p2 p3 : Pos} {fe : EF} (hi : sh w i = .ls) (hN : X.N[i]? = some x) (hv : Vis X.env.scope x) (h : DE X Er e te fe) (hps : PS X (.Expr (.Call (.Attribute (.Name x p1) "append" p2) [e] [] p3) pos) (tDrop (tBM X.K "list" rAppend (tVar i) (tCons te tNil)))) (hw : sh w 0 = s0 := by rfl) :
    D1 X Er s0 wl w (.Expr (.Call (.Attribute (.Name x p1) "append" p2) [e] [] p3) pos) w (tDrop (tBM X.K "list" rAppend (tVar i) (tCons te tNil))) (appB w i fe) := by
  refine ⟨hps, fun fr F H σ ρ Dn st p => ?_⟩
  obtain ⟨a, vs, ds, e1, q1, q2, q3, q4, p⟩ := lsAt_post hi st p
  refine ⟨_, q1, .inl ⟨rfl, _, SqL.of q2⟩, runV (te := te) hw h.rd st p fun d v F1 H1 s1 st1 dv p1 => ?_⟩
  obtain ⟨vs1, z1, z2, z3⟩ := ls_again hi st1 e1 q1
  by_cases hl : ds.length < 1000000 ∧ noList d = true
  · rw [if_pos hl] at p1
    refine ⟨a, vs1, v, rfl, rfl, z1, sz_lt (by rw [dpAll_len z2]; exact hl.1), ?_⟩
    exact p1 _ F1 _ (same_refl _) (z3 _ _ (dpAll_app z2 (.cons (dv hl.2) .nil)))
  · rw [if_neg hl] at p1
    exact p1.elim
theorem d_ext {i : Nat} {x : Str} {e : Expr} {p1 p2 p3 : Pos} {fe : AF} (hi : sh w i = .ls) (hN : X.N[i]? = some x) (hv : Vis X.env.scope x) (h : DN X Er e te fe) (hps : PS X (.Expr (.Call (.Attribute (.Name x p1) "extend" p2) [e] [] p3) pos) (tDrop (tBM X.K "list" rExtend (tVar i) (tCons te tNil)))) (hw : sh w 0 = s0 := by rfl) :
    D1 X Er s0 wl w (.Expr (.Call (.Attribute (.Name x p1) "extend" p2) [e] [] p3) pos) w (tDrop (tBM X.K "list" rExtend (tVar i) (tCons te tNil))) (extS w i fe) := by
  refine ⟨hps, fun fr F H σ ρ Dn st p => ?_⟩
  obtain ⟨a, vs, ds, e1, q1, q2, q3, q4, p⟩ := lsAt_post hi st p
  refine ⟨_, q1, .inl ⟨rfl, _, SqL.of q2⟩, runN (te := te) hw h.rd st p fun es b us F1 H1 s1 st1 hb dus p1 => ?_⟩
  obtain ⟨vs1, z1, z2, z3⟩ := ls_again hi st1 e1 q1
  have nab : a ≠ b := ne_of_none z1 hb
  by_cases hl : ds.length + es.length ≤ 1000000
  · rw [if_pos hl] at p1
    refine ⟨a, b, vs1, us, rfl, rfl, by rw [upd_ne nab]; exact z1, upd_same, sz_of (by rw [dpAll_len z2, dpAll_len dus]; exact hl), ?_⟩
    have comm : upd (upd H1 b (.lst us)) a (.lst (vs1 ++ us)) = upd (upd H1 a (.lst (vs1 ++ us))) b (.lst us) := by
      funext c
      unfold upd
      by_cases c1 : c = a
      · subst c1
        rw [if_pos rfl, if_neg nab, if_pos rfl]
      · rw [if_neg c1, if_neg c1]
    rw [comm]
    have st2 := z3 _ _ (dpAll_app z2 dus)
    have g := Grow.new (o := .lst us) (p := b) st2.fh (by rw [upd_ne (Ne.symm nab)]; exact hb)
    exact p1 _ _ _ (same_upd (none_of_same st1.fh.s hb)) (st2.grow g)
  · rw [if_neg hl] at p1
    exact p1.elim
theorem runV' {fr : Fr} {F H : Hp} {σ : St} {ρ : Env} {Dn : Ends} {fe : EF} {k : D → Out} {Q : VK} (hw : sh w 0 = s0) (h : DRd K Er te fe) (st : SR K fr w F H σ ρ) (p : PostS K fr s0 wl w' F Er (runR (fe (hidO w ρ)) ρ k) Dn)
    (q : ∀ d v F1 H1, Same F F1 → SR K fr w F1 H1 σ ρ → (∀ n, d = .int n → v = .int n) → (noList d = true → Dp K F1 v d) → PostS K fr s0 wl w' F1 Er (k d) Dn → Q v H1) : te σ H Q :=
  runV hw h st p fun d v F1 H1 s1 st1 dv p1 => q d v F1 H1 s1 st1 (fun n e => by subst e; have z := dv rfl; cases z; rfl) dv p1
theorem d_set {i : Nat} {x : Str} {e ix : Expr} {p1 p2 : Pos} {fe fi : EF} {ti : TE} (hi : sh w i = .ls) (hN : X.N[i]? = some x) (hv : Vis X.env.scope x) (h : DE X Er e te fe) (hx : DE X Er ix ti fi)
    (hps : PS X (.Assign [.Subscript (.Name x p1) ix p2] e pos) (tAsg te (gSub (tVar i) ti rSetL))) (hw : sh w 0 = s0 := by rfl) :
    D1 X Er s0 wl w (.Assign [.Subscript (.Name x p1) ix p2] e pos) w (tAsg te (gSub (tVar i) ti rSetL)) (setS w i fe fi) := by
  refine ⟨hps, fun fr F H σ ρ Dn st p => runV (te := te) hw h.rd st p fun d v F1 H1 s1 st1 dv p1 => ?_⟩
  obtain ⟨a, vs, ds, e1, q1, q2, q3, q4, p1⟩ := lsAt_post hi st1 p1
  refine ⟨_, q1, runV' (te := ti) hw hx.rd st1 p1 fun y u F2 H2 s2 st2 du _ p2 => ?_⟩
  obtain ⟨vs2, z1, z2, z3⟩ := ls_again hi st2 e1 q1
  cases y with
  | int n =>
    have eu := du n rfl
    subst eu
    simp only [intD] at p2
    cases hj : ixN ds.length n with
    | none => simp only [hj] at p2; exact p2.elim
    | some j =>
      simp only [hj] at p2
      by_cases nl : noList d = true
      · rw [if_pos nl] at p2
        refine ⟨a, vs2, n, j, rfl, rfl, z1, by rw [dpAll_len z2]; exact hj, ?_⟩
        exact p2 _ F2 _ (same_refl _) (z3 _ _ (dpAll_set j z2 (dp_mono s2 _ _ (dv nl))))
      · rw [if_neg nl] at p2
        exact p2.elim
  | _ => exact p2.elim
/-! ### if, return, raise -/
theorem d_if {c : Expr} {a b : List Stmt} {fc : TF} {ta' tb' : TS} {fa fb : SF} (hc : DT X Er c tt fc) (ha : DS X Er s0 wl w a w' ta' fa) (hb : DS X Er s0 wl w b w' tb' fb) (hw : sh w 0 = s0 := by rfl) : D1 X Er s0 wl w (.If c a b pos) w' (tIfS tt ta' tb') (ifS w fc fa fb) := by
  refine ⟨ps_if hc.pe ha.ps hb.ps, fun fr F H σ ρ Dn st p => runT (tt := tt) hw hc.rd st p fun k F1 H1 s1 st1 p1 => ?_⟩
  cases k with
  | true => exact ha.rd fr F1 H1 σ ρ Dn st1 p1
  | false => exact hb.rd fr F1 H1 σ ρ Dn st1 p1
theorem d_ret {e : Expr} {fe : EF} (h : DE X Er e te fe) (hw : sh w 0 = s0 := by rfl) : D1 X Er s0 wl w (.Return (some e) pos) w' (tRet te) (retS w fe) :=
  ⟨ps_ret h.pe, fun fr F H σ ρ Dn st p => runA (te := te) hw h.rd st p fun d v F1 H1 s1 st1 dv p1 => p1 _ F1 H1 v w hw st1 dv⟩
theorem d_retB {e : Expr} {fe : EF} (h : DE X Er e te fe) (hw : sh w 0 = s0 := by rfl) : D1 X Er s0 wl w (.Return (some e) pos) w' (tRet te) (retB w fe) :=
  ⟨ps_ret h.pe, fun fr F H σ ρ Dn st p => runV (te := te) hw h.rd st p fun d v F1 H1 s1 st1 dv p1 => by
    by_cases n : noList d = true
    · rw [if_pos n] at p1
      exact p1 _ F1 H1 v w hw st1 (dv n)
    · rw [if_neg n] at p1
      exact p1.elim⟩
theorem d_retN (hw : sh w 0 = s0 := by rfl) : D1 X Er s0 wl w (.Return none pos) w' tRetN retN :=
  ⟨ps_retN, fun fr F H σ ρ Dn st p => p _ F H _ w hw st .non⟩
/-- the list that slot i owns is handed back -/
theorem d_retO {i : Nat} {x : Str} {p : Pos} (hi : sh w i = .ls) (h0 : i ≠ 0) (hN : X.N[i]? = some x) (hv : Vis X.env.scope x) (hw : sh w 0 = s0 := by rfl) (hd : (x == ("__debug__" : Str)) = false := by decide) (hcd : (x == ("__classdict__" : Str)) = false := by decide) :
    D1 X Er s0 wl w (.Return (some (.Name x p)) pos) w' (tRet (tVar i)) (retO i) :=
  ⟨ps_ret (pe_var hN hv hd hcd), fun fr F H σ ρ Dn st p => by
    unfold retO at p
    cases e : ρ[i]? with
    | none => simp only [e] at p; exact p.elim
    | some o =>
      cases o with
      | none => simp only [e] at p; exact p.elim
      | some d =>
        simp only [e] at p
        obtain ⟨a, vs, ds, q1, rfl, q2, q3, _, q5, q6⟩ := st.get_ls hi e
        exact ⟨_, q1, p _ _ H _ (w.set i .fz) (by rw [sh_set_ne h0]; exact hw) q5 (.lst (.inl (.inl upd_same)) (dpAll_mono q6 _ _ q3))⟩⟩
theorem d_raise {W : WX} {c : Str} {C : Addr} {e : Expr} (hc : X.calm = true) (tk : Takes X W) (he : PMk X e (fun _ H Q => Q (.ref C) none H)) (hE : ∀ H σ, Er c H → W (.ref C) none σ H) (hw : sh w 0 = s0 := by rfl) :
    D1 X Er s0 wl w (.Raise (some e) none pos) w' (fun _ σ H => W (.ref C) none σ H) (raiseS c) :=
  ⟨ps_raise hc tk he, fun fr F H σ ρ Dn st p => hE H σ (p σ F H w hw st)⟩
/-! ### for, while -/
theorem post_for {fr : Fr} {F : Hp} {Dn : Ends} {tgf : TGF} {body : SF} {ks : List Nat} {ds : List D} {ρ : Env} {N : St → Hp → Prop}
    (p : PostS K fr s0 wl w F Er (match body ρ with
      | .nx ρ' => forL tgf body ks ds (killE ρ' ks)
      | .bk ρ' => .nx ρ'
      | o => o) Dn)
    (q : ∀ σ' F' H' ρ', Same F F' → SR K fr w F' H' σ' ρ' → PostS K fr s0 wl w F' Er (forL tgf body ks ds ρ') Dn → N σ' H') : PostS K fr s0 w w F Er (body ρ) { Dn with nx := N, ct := N, bk := Dn.nx } := by
  cases e : body ρ with
  | nx ρ' =>
    rw [e] at p
    exact fun σ' F' H' s' st' => q σ' F' H' _ s' (st'.kill ks) (PostS.mono p s')
  | bk ρ' => rw [e] at p; exact p
  | rt d ρ' => rw [e] at p; exact p
  | err c ρ' => rw [e] at p; exact p
  | bad => rw [e] at p; exact p
theorem d_for {tg iter : Expr} {body : List Stmt} {wi : TI} {g : TG} {tgf : TGF} {js ks : List Nat} {tb' : TS} {fi : AF} {fb : SF} (hp : PassesOwn (model X.prog X.w) X.A X.env X.xe) (hc : X.calm = true) (hi : DI X Er tg iter wi fi) (hg : TG1 X tg g tgf js) (hj : ∀ j ∈ js, sh w j = .fz)
    (hb : DS X Er s0 w w body w tb' fb) (hw : sh w 0 = s0 := by rfl) (hs : ∀ x, foldedSetIterable iter X.env x = pure x := by intro _; rfl) : D1 X Er s0 wl w (.For tg iter body [] pos) w (tFor wi g tb') (forS w fi tgf fb ks) := by
  refine ⟨ps_for hp hc hi.pi hg.pg hb.ps hs, fun fr F H σ ρ Dn st p => ?_⟩
  refine hi.rd F H σ _ _ st.fh st.envA ?_
  unfold forS at p
  cases e : fi (hidA w ρ) with
  | err c =>
    rw [e] at p
    exact fun F' H' gr => p σ F' H' w hw (st.grow gr)
  | bad => rw [e] at p; exact p
  | ok ds =>
    rw [e, runR_ok] at p
    intro F1 H1 gr J dit
    refine ⟨fun i m σ H => m = ds.length - i ∧ i ≤ ds.length ∧ ∃ F' ρ, Same F1 F' ∧ SR X.K fr w F' H σ ρ ∧ PostS X.K fr s0 wl w F' Er (forL tgf fb ks (ds.drop i) ρ) Dn, ⟨ds.length, by simp, Nat.zero_le _, F1, _, same_refl _, (st.grow gr).kill ks, by simpa using PostS.mono p gr.ff⟩, ?_⟩
    rintro i m σ2 H2 ⟨rfl, hle, F2, ρ2, s2, st2, p2⟩
    by_cases hlt : i < ds.length
    · refine .inr ⟨dit.go i F2 H2 s2 st2.fh hlt, _, fun σ' H' h => ⟨ds.length - (i + 1), by omega, h⟩, fun x H3 y => ?_⟩
      obtain ⟨d, hd⟩ : ∃ d, ds[i]? = some d := ⟨ds[i], by simp [hlt]⟩
      have hdrop : ds.drop i = d :: ds.drop (i + 1) := by
        obtain ⟨h1, h2⟩ := List.getElem?_eq_some_iff.mp hd
        rw [← h2]
        exact List.drop_eq_getElem_cons hlt
      rw [hdrop] at p2
      obtain ⟨F3, gy, dx⟩ := dit.yld i F2 H2 x H3 d s2 st2.fh hd y
      have st3 := st2.grow gy
      have p3 := PostS.mono p2 gy.ff
      unfold forL at p3
      cases eas : tgf d with
      | none => simp only [eas] at p3; exact p3.elim
      | some as =>
        simp only [eas] at p3
        refine hg.rd F3 H3 x d as σ2 _ gy.fh dx eas fun us hus hjs => ?_
        have st4 := st3.setMany (as := as) (by rw [hjs]; exact hj) hus
        rw [hjs] at st4
        exact hb.rd fr F3 H3 _ _ _ st4 (post_for p3 fun σ' F' H' ρ' s' st' q => ⟨rfl, hlt, F', ρ', same_trans (same_trans s2 gy.ff) s', st', q⟩)
    · have e : i = ds.length := by omega
      subst e
      rw [List.drop_length] at p2
      exact .inl ⟨dit.stop F2 H2 s2 st2.fh, p2 σ2 F2 H2 (same_refl _) st2⟩
theorem d_while {c : Expr} {body : List Stmt} {fc : TF} {ks : List Nat} {tb' : TS} {fb : SF} (n : Nat) (hp : PassesOwn (model X.prog X.w) X.A X.env X.xe) (hc : DT X Er c tt fc) (hb : DS X Er s0 w w body w tb' fb) (hw : sh w 0 = s0 := by rfl) : D1 X Er s0 wl w (.While c body [] pos) w (tWhile tt tb') (whileS w n fc fb ks) := by
  refine ⟨ps_while hp hc.pe hb.ps, fun fr F H σ ρ Dn st p => ?_⟩
  refine ⟨fun m σ H => ∃ F' ρ, Same F F' ∧ SR X.K fr w F' H σ ρ ∧ PostS X.K fr s0 wl w F' Er (whileL w fc fb ks m ρ) Dn, ⟨n, F, _, same_refl _, st.kill ks, p⟩, ?_⟩
  rintro m σ2 H2 ⟨F2, ρ2, s2, st2, p2⟩
  cases m with
  | zero => exact p2.elim
  | succ m =>
    refine runT (tt := tt) hw hc.rd st2 p2 fun k F3 H3 s3 st3 p3 => ?_
    cases k with
    | false => exact p3 σ2 F3 H3 (same_refl _) st3
    | true =>
      rw [if_pos rfl]
      refine ⟨fun σ' H' => ∃ F' ρ, Same F F' ∧ SR X.K fr w F' H' σ' ρ ∧ PostS X.K fr s0 wl w F' Er (whileL w fc fb ks m ρ) Dn, fun σ' H' h => ⟨m, Nat.lt_succ_self _, h⟩, ?_⟩
      refine hb.rd fr F3 H3 σ2 ρ2 _ st3 ?_
      rw [if_pos rfl] at p3
      cases e : fb ρ2 with
      | nx ρ' =>
        rw [e] at p3
        exact fun σ' F' H' s' st' => ⟨F', _, same_trans (same_trans s2 s3) s', st'.kill ks, PostS.mono p3 s'⟩
      | bk ρ' => rw [e] at p3; exact p3
      | rt d ρ' => rw [e] at p3; exact p3
      | err c ρ' => rw [e] at p3; exact p3
      | bad => rw [e] at p3; exact p3
end
/-! ### a def -/
def runD (m : Nat) (f : SF) (ds : List D) : R D := match f (ds.map some ++ List.replicate (m - ds.length) none) with
  | .nx _ => .ok .none
  | .rt d _ => .ok d
  | .err c _ => .err c
  | .bk _ => .bad
  | .bad => .bad
section
variable {P : Program} {w' : World} {K : PySem.W.Frag} {mg : Str → Option Value} {base : Heap}
theorem start_env {F : Hp} {ds : List D} {vs : List V} (h : DQAll K F vs ds) (N : List Str) (i : Nat) (d : D) (e : (ds.map some ++ List.replicate (N.length - ds.length) none)[i]? = some (some d)) : ∃ v, (L2.start N vs)[i]? = some (some v) ∧ DQ K F v d := by
  by_cases hi : i < ds.length
  · rw [List.getElem?_append_left (by simpa using hi), List.getElem?_map] at e
    cases q : ds[i]? with
    | none => rw [q] at e; cases e
    | some d' =>
      rw [q] at e
      cases e
      obtain ⟨v, q1, q2⟩ := dqAll_get h q
      refine ⟨v, ?_, q2⟩
      unfold L2.start
      rw [List.getElem?_append_left (by simp; rw [dqAll_len h]; exact hi), List.getElem?_map, q1]
      rfl
  · rw [List.getElem?_append_right (by simp; omega)] at e
    have := List.mem_of_getElem? e
    rw [List.mem_replicate] at this
    exact absurd this.2 (by simp)
def fzAll (w : List Sh) : Bool := w.all fun s => match s with | .fz => true | _ => false
theorem fzAll_ok {w : List Sh} (h : fzAll w = true) (i : Nat) : sh w i = .fz := by
  unfold sh
  rw [List.getD_eq_getElem?_getD]
  cases e : w[i]? with
  | none => rfl
  | some s =>
    have := List.all_eq_true.mp h s (List.mem_of_getElem? e)
    cases s <;> first | rfl | (simp at this)
theorem fn_ok {x qual : Str} {st : Stmt} {f : Addr} {fd : FuncData} {N ps : List Str} {k : Nat} {n : Nat} {fb : SF} {ws : List Sh} (F : Fun K x qual st f fd) (S : FnScope N ps (defScope st)) (hn : ps.length = n) (hws : fzAll ws = true)
    (body : ∀ [Mem] (cdv : Value) (A : Around) (outer : List PySem.Env) (s : Shared) (H : Hp) (E : XK), Room k (A.deeper (envOfC qual (defScope st) s.heap.objs.size f cdv)) →
      ∃ t ws', DS (cxOf (L2.CX P w') P w' K mg base N qual (defScope st) f cdv A outer s H E) (erX mg E) .fz [] ws (defBody st) ws' t fb) : FnOk P w' K mg base (L2.CX P w') (k + 1) f fd ps (spD K mg n (runD N.length fb)) := by
  refine F.okX S (fun vs H Q E h => by rw [hn]; exact h.1) (fun cdv A outer s H vs Q E hr h => ?_)
  obtain ⟨hl, M, F0, ds, s0, dv, p⟩ := h
  obtain ⟨t, ws', h1, h2⟩ := body cdv A outer s H E hr
  refine ⟨t, h1, ?_⟩
  refine h2 ⟨F0, H⟩ F0 H _ (ds.map some ++ List.replicate (N.length - ds.length) none) _ ⟨fun _ => emp, s0, fun _ _ _ h => h, same_refl _, fun a h _ => h, fun i a o z => by (cases z), fun i a z => absurd rfl z, fun i d e => ?_, ?_, fun i a z => absurd rfl z⟩ ?_
  · obtain ⟨v, q1, q2⟩ := start_env dv N i d e
    exact ⟨v, q1, by rw [fzAll_ok hws i]; exact q2⟩
  · have := dqAll_len dv
    simp [L2.start, this]
  · have gr : ∀ {w'' σ' F' H' ρ'}, SR K ⟨F0, H⟩ w'' F' H' σ' ρ' → Grow F0 H F' H' := fun {w'' σ' F' H' ρ'} st => by
      obtain ⟨os, q⟩ := st
      exact ⟨q.f0, q.gh, q.fh, q.nw⟩
    unfold runD at p
    cases e : fb (ds.map some ++ List.replicate (N.length - ds.length) none) with
    | nx ρ' =>
      rw [e] at p
      exact fun σ' F' H' s' st' => p F' H' (gr st') _ .non
    | rt d ρ' =>
      rw [e] at p
      exact fun σ' F' H' v w'' _ st' dv' => p F' H' (gr st') v dv'
    | err c ρ' =>
      rw [e] at p
      exact fun σ' F' H' w'' _ st' => p F' H' (gr st')
    | bk ρ' => rw [e] at p; exact p.elim
    | bad => rw [e] at p; exact p.elim
end
end DL

set_option maxHeartbeats 1000000
/-! DL5: short forms. -/
namespace DL
open PySem PySem.Spec L2
open PyProof.Rows hiding St
variable [Mem]
/-- all slots of a list are frozen -/
def allFz (w : List Sh) : List Nat → Bool
  | [] => true
  | j :: js => (match sh w j with | .fz => true | _ => false) && allFz w js
theorem allFz_ok {w : List Sh} : ∀ {js : List Nat}, allFz w js = true → ∀ j ∈ js, sh w j = .fz
  | [], _, j, hj => by cases hj
  | i :: is, h, j, hj => by
    unfold allFz at h
    rw [Bool.and_eq_true] at h
    rcases List.mem_cons.mp hj with e | hj
    · subst e
      revert h
      cases sh w j <;> simp
    · exact allFz_ok h.2 j hj
section
variable {X : Cx} {Er : ErT} {s0 : Sh} {wl w w' : List Sh} {te : TE} {ta : TA} {pos : Pos}
theorem dv (i : Nat) {x : Str} {pos : Pos} (hN : X.N[i]? = some x := by rfl) (hv : Vis X.env.scope x := by first | exact Or.inl rfl | exact Or.inr (Or.inl rfl) | exact Or.inr (Or.inr rfl)) (hd : (x == ("__debug__" : Str)) = false := by decide) (hcd : (x == ("__classdict__" : Str)) = false := by decide) : DE X Er (.Name x pos) (tVar i) (vE i) :=
  de_var hN hv hd hcd
theorem r64 {k : Nat} {A : Around} (r : Room k A) : A.units + 64 < cLine := r.units
theorem r65 {k : Nat} {A : Around} (r : Room k A) : A.units + 65 < cLine := by have := r.un; omega
theorem pass_no {P : Program} {w : World} {X : Cx} : Passes (L2.CX P w) X (fun _ _ _ => False) := fun _ _ _ _ _ _ _ h => by
  obtain ⟨_, _, _, _, _, _, _, _, _, _, _, _, h⟩ := h
  exact h.elim
theorem tgn (i : Nat) {x : Str} {pos : Pos} (hN : X.N.Nodup) (hi : X.N[i]? = some x := by rfl) (hx : Loc X.env.scope x := by first | exact Or.inl rfl | exact Or.inr rfl) (hf : X.fn x = true ∨ X.env.scope.names.lookup x = some .local := by first | exact .inl rfl | exact .inr rfl) : TG1 X (.Name x pos) (gName i) (tgN i) [i] := tg_name hN hi hx hf
theorem pgn (i : Nat) {x : Str} {pos : Pos} (hN : X.N.Nodup) (hi : X.N[i]? = some x := by rfl) (hx : Loc X.env.scope x := by first | exact Or.inl rfl | exact Or.inr rfl) (hf : X.fn x = true ∨ X.env.scope.names.lookup x = some .local := by first | exact .inl rfl | exact .inr rfl) : PG X (.Name x pos) (gName i) := pg_name hN hi hx hf
theorem s_asg (i : Nat) {x : Str} {e : Expr} {pos' : Pos} {fe : EF} (hN : X.N.Nodup) (h : DE X Er e te fe) (hi : X.N[i]? = some x := by rfl) (hx : Loc X.env.scope x := by first | exact Or.inl rfl | exact Or.inr rfl) (hw : sh w 0 = s0 := by rfl) (hs : swapsWith e (some (.Name x pos')) pos.line X.env = pure false := by rfl) (hf : X.fn x = true ∨ X.env.scope.names.lookup x = some .local := by first | exact .inl rfl | exact .inr rfl) :
    D1 X Er s0 wl w (.Assign [.Name x pos'] e pos) (w.set i .fz) (tAsg te (gName i)) (asgS w i fe) := d_asg hN hi hx h hw hs hf
theorem s_asgB (i : Nat) {x : Str} {e : Expr} {pos' : Pos} {fe : EF} (hN : X.N.Nodup) (h : DE X Er e te fe) (hi : X.N[i]? = some x := by rfl) (hx : Loc X.env.scope x := by first | exact Or.inl rfl | exact Or.inr rfl) (hw : sh w 0 = s0 := by rfl) (hs : swapsWith e (some (.Name x pos')) pos.line X.env = pure false := by rfl) (hf : X.fn x = true ∨ X.env.scope.names.lookup x = some .local := by first | exact .inl rfl | exact .inr rfl) :
    D1 X Er s0 wl w (.Assign [.Name x pos'] e pos) (w.set i .fz) (tAsg te (gName i)) (asgB w i fe) := d_asgB hN hi hx h hw hs hf
theorem s_new (i : Nat) {x : Str} {e : Expr} {pos' : Pos} {fe : AF} (hN : X.N.Nodup) (h : DN X Er e te fe) (hi : X.N[i]? = some x := by rfl) (hx : Loc X.env.scope x := by first | exact Or.inl rfl | exact Or.inr rfl) (hl : i < w.length := by decide) (hw : sh w 0 = s0 := by rfl) (hs : swapsWith e (some (.Name x pos')) pos.line X.env = pure false := by rfl) (hf : X.fn x = true ∨ X.env.scope.names.lookup x = some .local := by first | exact .inl rfl | exact .inr rfl) :
    D1 X Er s0 wl w (.Assign [.Name x pos'] e pos) (w.set i .ls) (tAsg te (gName i)) (newS w i fe) := d_new hN hi hx h hl hw hs hf
theorem s_app (i : Nat) {x : Str} {e : Expr} {p1 p2 p3 : Pos} {fe : EF} (h : DE X Er e te fe) (hi : sh w i = .ls := by rfl) (hN : X.N[i]? = some x := by rfl) (hv : Vis X.env.scope x := by first | exact Or.inl rfl | exact Or.inr (Or.inl rfl) | exact Or.inr (Or.inr rfl)) (hw : sh w 0 = s0 := by rfl)
    (hs : swapsWith (.Call (.Attribute (.Name x p1) "append" p2) [e] [] p3) none pos.line X.env = pure false := by rfl) (hbase : attributeBase (.Name x p1) "append" X.env (eval (.Name x p1) X.env) = eval (.Name x p1) X.env := by rfl)
    (hfew : ((backTo p3 (starEach [e] X.env)).all (fun x => !x.1) && (backToKw p3 (keywordEach [] X.env)).all (fun x => x.1.isSome) && decide ([e].length + ([] : List Keyword).length + (if ([] : List Keyword).isEmpty then 0 else 1) < 30)) = true := by rfl)
    (hline : (p2.endLine == p3.line) = true := by rfl) (hst : starEach [e] X.env = (false, eval e X.env) :: starEach [] X.env := by rfl) (hplain : (backTo p3 (starEach [] X.env)).any (·.1) = false := by rfl)
    (hd : (x == ("__debug__" : Str)) = false := by decide) (hcd : (x == ("__classdict__" : Str)) = false := by decide) :
    D1 X Er s0 wl w (.Expr (.Call (.Attribute (.Name x p1) "append" p2) [e] [] p3) pos) w (tDrop (tBM X.K "list" rAppend (tVar i) (tCons te tNil))) (appS w i fe) :=
  d_app hi hN hv h (ps_expr (pe_bm PySem.F.plainAttrs_list PySem.F.slot_list_append PySem.F.type_list_append mt_append (pe_var hN hv hd hcd) (pa_cons h.pe pa_nil hst) hbase hfew hline hst hplain) hs) hw
theorem s_appB (i : Nat) {x : Str} {e : Expr} {p1 p2 p3 : Pos} {fe : EF} (h : DE X Er e te fe) (hi : sh w i = .ls := by rfl) (hN : X.N[i]? = some x := by rfl) (hv : Vis X.env.scope x := by first | exact Or.inl rfl | exact Or.inr (Or.inl rfl) | exact Or.inr (Or.inr rfl)) (hw : sh w 0 = s0 := by rfl)
    (hs : swapsWith (.Call (.Attribute (.Name x p1) "append" p2) [e] [] p3) none pos.line X.env = pure false := by rfl) (hbase : attributeBase (.Name x p1) "append" X.env (eval (.Name x p1) X.env) = eval (.Name x p1) X.env := by rfl)
    (hfew : ((backTo p3 (starEach [e] X.env)).all (fun x => !x.1) && (backToKw p3 (keywordEach [] X.env)).all (fun x => x.1.isSome) && decide ([e].length + ([] : List Keyword).length + (if ([] : List Keyword).isEmpty then 0 else 1) < 30)) = true := by rfl)
    (hline : (p2.endLine == p3.line) = true := by rfl) (hst : starEach [e] X.env = (false, eval e X.env) :: starEach [] X.env := by rfl) (hplain : (backTo p3 (starEach [] X.env)).any (·.1) = false := by rfl)
    (hd : (x == ("__debug__" : Str)) = false := by decide) (hcd : (x == ("__classdict__" : Str)) = false := by decide) :
    D1 X Er s0 wl w (.Expr (.Call (.Attribute (.Name x p1) "append" p2) [e] [] p3) pos) w (tDrop (tBM X.K "list" rAppend (tVar i) (tCons te tNil))) (appB w i fe) :=
  d_appB hi hN hv h (ps_expr (pe_bm PySem.F.plainAttrs_list PySem.F.slot_list_append PySem.F.type_list_append mt_append (pe_var hN hv hd hcd) (pa_cons h.pe pa_nil hst) hbase hfew hline hst hplain) hs) hw
theorem s_ext (i : Nat) {x : Str} {e : Expr} {p1 p2 p3 : Pos} {fe : AF} (h : DN X Er e te fe) (hi : sh w i = .ls := by rfl) (hN : X.N[i]? = some x := by rfl) (hv : Vis X.env.scope x := by first | exact Or.inl rfl | exact Or.inr (Or.inl rfl) | exact Or.inr (Or.inr rfl)) (hw : sh w 0 = s0 := by rfl)
    (hs : swapsWith (.Call (.Attribute (.Name x p1) "extend" p2) [e] [] p3) none pos.line X.env = pure false := by rfl) (hbase : attributeBase (.Name x p1) "extend" X.env (eval (.Name x p1) X.env) = eval (.Name x p1) X.env := by rfl)
    (hfew : ((backTo p3 (starEach [e] X.env)).all (fun x => !x.1) && (backToKw p3 (keywordEach [] X.env)).all (fun x => x.1.isSome) && decide ([e].length + ([] : List Keyword).length + (if ([] : List Keyword).isEmpty then 0 else 1) < 30)) = true := by rfl)
    (hline : (p2.endLine == p3.line) = true := by rfl) (hst : starEach [e] X.env = (false, eval e X.env) :: starEach [] X.env := by rfl) (hplain : (backTo p3 (starEach [] X.env)).any (·.1) = false := by rfl)
    (hd : (x == ("__debug__" : Str)) = false := by decide) (hcd : (x == ("__classdict__" : Str)) = false := by decide) :
    D1 X Er s0 wl w (.Expr (.Call (.Attribute (.Name x p1) "extend" p2) [e] [] p3) pos) w (tDrop (tBM X.K "list" rExtend (tVar i) (tCons te tNil))) (extS w i fe) :=
  d_ext hi hN hv h (ps_expr (pe_bm PySem.F.plainAttrs_list PySem.F.slot_list_extend PySem.F.type_list_extend mt_extend (pe_var hN hv hd hcd) (pa_cons h.pe pa_nil hst) hbase hfew hline hst hplain) hs) hw
theorem s_retO (i : Nat) {x : Str} {p : Pos} (hi : sh w i = .ls := by rfl) (h0 : i ≠ 0 := by decide) (hN : X.N[i]? = some x := by rfl) (hv : Vis X.env.scope x := by first | exact Or.inl rfl | exact Or.inr (Or.inl rfl) | exact Or.inr (Or.inr rfl)) (hw : sh w 0 = s0 := by rfl) (hd : (x == ("__debug__" : Str)) = false := by decide) (hcd : (x == ("__classdict__" : Str)) = false := by decide) :
    D1 X Er s0 wl w (.Return (some (.Name x p)) pos) w' (tRet (tVar i)) (retO i) := d_retO hi h0 hN hv hw hd hcd
theorem s_set (i : Nat) {x : Str} {e ix : Expr} {p1 p2 : Pos} {fe fi : EF} {ti : TE} (h : DE X Er e te fe) (hx : DE X Er ix ti fi) (hi : sh w i = .ls := by rfl) (hN : X.N[i]? = some x := by rfl) (hv : Vis X.env.scope x := by first | exact Or.inl rfl | exact Or.inr (Or.inl rfl) | exact Or.inr (Or.inr rfl)) (hw : sh w 0 = s0 := by rfl)
    (ha : ∀ v, assign (.Subscript (.Name x p1) ix p2) X.env v = (do
      let ov ← holding [v] (eval (.Name x p1) X.env)
      let iv ← holding [v, ov] (eval ix X.env)
      standAt p2
      holding [v, ov, iv] (setItem ov iv v)
      release [v, ov, iv] []) := by intro _; rfl)
    (hs : swapsWithSole [.Subscript (.Name x p1) ix p2] e pos.line X.env = pure false := by rfl) (hsw : swappedStores [.Subscript (.Name x p1) ix p2] e X.env = pure none := by rfl)
    (h1 : (assignEach [.Subscript (.Name x p1) ix p2] X.env).map (·.2) = [assign (.Subscript (.Name x p1) ix p2) X.env] := by rfl)
    (hd : (x == ("__debug__" : Str)) = false := by decide) (hcd : (x == ("__classdict__" : Str)) = false := by decide) :
    D1 X Er s0 wl w (.Assign [.Subscript (.Name x p1) ix p2] e pos) w (tAsg te (gSub (tVar i) ti rSetL)) (setS w i fe fi) :=
  d_set hi hN hv h hx (ps_asg h.pe (pg_sub (pe_var hN hv hd hcd) hx.pe set_list ha) hs hsw h1) hw
theorem s_tup (js : List Nat) {tg e : Expr} {g : TG} {fe : EF} (h : DE X Er e te fe) (hg : TG1 X tg g (tgT js) js) (hj : ∀ j ∈ js, sh w j = .fz := by exact allFz_ok rfl) (hw : sh w 0 = s0 := by rfl) (hs : swapsWithSole [tg] e pos.line X.env = pure false := by rfl) (hsw : swappedStores [tg] e X.env = pure none := by rfl)
    (h1 : (assignEach [tg] X.env).map (·.2) = [assign tg X.env] := by rfl) : D1 X Er s0 wl w (.Assign [tg] e pos) w (tAsg te g) (tupS w fe (tgT js)) := d_tup h hg hj hw hs hsw h1

/-! ### the written part named outright -/
theorem kix (K : PySem.W.Frag) (hK : X.K = K := by rfl) : IxR X (rIx K) := by subst hK; exact ix_seq
theorem kadd (K : PySem.W.Frag) (hK : X.K = K := by rfl) : OpR X (binaryOp .Add) (rAddA K) := by subst hK; exact op_addA
theorem kmul (K : PySem.W.Frag) (hK : X.K = K := by rfl) : OpR X (binaryOp .Mult) (rMulA K) := by subst hK; exact op_mulA
theorem keq (K : PySem.W.Frag) (hu : X.A.units + 64 < cLine) (hK : X.K = K := by rfl) : OpR X (compareOp .Eq) (rEqD K) := by subst hK; exact op_eqD hu
theorem kne (K : PySem.W.Frag) (hu : X.A.units + 64 < cLine) (hK : X.K = K := by rfl) : OpR X (compareOp .NotEq) (rNeD K) := by subst hK; exact op_neD hu
theorem kin (K : PySem.W.Frag) (hu : X.A.units + 65 < cLine) (hK : X.K = K := by rfl) : OpR X (compareOp .In) (rInA K) := by subst hK; exact op_inA hu
theorem knin (K : PySem.W.Frag) (hu : X.A.units + 65 < cLine) (hK : X.K = K := by rfl) : OpR X (compareOp .NotIn) (rNotInA K) := by subst hK; exact op_notInA hu
theorem klen (K : PySem.W.Frag) (hK : X.K = K := by rfl) : CallR X (.builtin "len") (rLenX K) := by subst hK; exact call_len
theorem kall (K : PySem.W.Frag) (hc : X.calm = true := by rfl) (hK : X.K = K := by rfl) : CallR X (.builtin "all") (rAll K) := by subst hK; exact cr_all hc
theorem kany (K : PySem.W.Frag) (hc : X.calm = true := by rfl) (hK : X.K = K := by rfl) : CallR X (.builtin "any") (rAny K) := by subst hK; exact cr_any hc
theorem ksum (K : PySem.W.Frag) (hc : X.calm = true := by rfl) (hK : X.K = K := by rfl) : CallR X (.builtin "sum") (rSum K) := by subst hK; exact cr_sum hc
theorem ktup (K : PySem.W.Frag) (hK : X.K = K := by rfl) : CallR X (.type "tuple") (rTupleX K) := by subst hK; exact call_tuple_of
theorem ksl (K : PySem.W.Frag) {e : Expr} {lo hi : Option Expr} {p2 pos : Pos} {f : EF} {fl fh : OF} {tl th : TO} (h : DE X Er e te f) (hl : DO X Er lo tl fl) (hh : DO X Er hi th fh) (hK : X.K = K := by rfl) : DE X Er (.Subscript e (.Slice lo hi none p2) pos) (tSl (rSlX K) te tl th) (sliceE f fl fh) := by subst hK; exact de_sl h hl hh
theorem kisi (K : PySem.W.Frag) {T : String} {g : D → Bool} {x : Str} {e : Expr} {f : EF} {p p2 pos : Pos} (kt : Kits T g) (hg : Gl X "isinstance") (hm : X.mg "isinstance" = none) (hg2 : Gl X x) (hm2 : X.mg x = none) (hv2 : bootBuiltins x = some (.type T)) (h : DE X Er e te f)
    (hn2 : x ≠ "__name__" := by decide) (hd2 : (x == ("__debug__" : Str)) = false := by decide)
    (hs1 : starEach [e, .Name x p2] X.env = (false, eval e X.env) :: starEach [.Name x p2] X.env := by rfl) (hpl : (backTo pos (starEach [.Name x p2] X.env)).any (·.1) = false := by rfl) (hK : X.K = K := by rfl) :
    DE X Er (.Call (.Name "isinstance" p) [e, .Name x p2] [] pos) (tCB (rIsi K) (tCons te (tCons (tC (.ty T)) tNil))) (isiE g f) := by subst hK; exact de_isi kt hg hm hg2 hm2 hv2 h hn2 hd2 hs1 hpl
theorem kseq (K : PySem.W.Frag) {tg e : Expr} {f : EF} (h : DE X Er e te f) (hK : X.K = K := by rfl) : DI X Er tg e (iSeq K te) (seqI f) := by subst hK; exact di_seq h
theorem ktg (K : PySem.W.Frag) {es : List Expr} {k : Nat} {pos : Pos} (js : List Nat) (hc : X.calm = true) (h : PGs X es (gNames js)) (hn : (assignEach es X.env).length = js.length := by rfl) (hst : (assignEach es X.env).findIdx? (·.1) = none := by rfl) (hK : X.K = K := by rfl) :
    TG1 X (.Tuple es k pos) (gTup K js.length (gNames js)) (tgT js) js := by subst hK; exact tg_tup js hc h hn hst
theorem klist (K : PySem.W.Frag) {x : Str} {p pos : Pos} {e : Expr} {es : List Expr} {fa : AF} (hg : Gl X x) (hm : X.mg x = none) (hv : bootBuiltins x = some (.type "list")) (ha : DA X Er (e :: es) ta fa) (hn : x ≠ "__name__" := by decide) (hdb : (x == ("__debug__" : Str)) = false := by decide)
    (he : starEach (e :: es) X.env = (false, eval e X.env) :: starEach es X.env := by rfl) (hpl : (backTo pos (starEach es X.env)).any (·.1) = false := by rfl) (hK : X.K = K := by rfl) : DN X Er (.Call (.Name x p) (e :: es) [] pos) (tCB (rListX K) ta) (callN listN fa) := by subst hK; exact dn_list hg hm hv ha hn hdb he hpl
theorem kown (K : PySem.W.Frag) (mg : Str → Option Value) {CX : CXT} {k n : Nat} {f : Addr} {fd : FuncData} {ps : List Str} {g : List D → R D} {E : XK} {x : Str} {p pos : Pos} {e : Expr} {es : List Expr} {fa : AF}
    (F : FnOk X.prog X.w K mg X.base CX k f fd ps (spD K mg n g)) (hr : Room k X.A) (hg : Gl X x) (hm : mg x = some (.ref f)) (hk : PySem.W.keepIn K (.ref f) = true) (hb : Binds K fd ps []) (hx : Passes CX X E)
    (he : ∀ c H', Er c H' → erX mg E c H') (ha : DA X Er (e :: es) ta fa) (hn : ∀ ρ ds, fa ρ = .ok ds → ds.length = n)
    (hd : (x == ("__debug__" : Str)) = false := by decide) (hs : starEach (e :: es) X.env = (false, eval e X.env) :: starEach es X.env := by rfl) (hpl : (backTo pos (starEach es X.env)).any (·.1) = false := by rfl) (hK : X.K = K := by rfl) (hG : X.mg = mg := by rfl) :
    DE X Er (.Call (.Name x p) (e :: es) [] pos) (tCall (spD K mg n g) [] E ta) (ownE g fa) := by subst hK; subst hG; exact de_own F hr hg hm hk hb hx he (daq_of ha) hn hd hs hpl
theorem kownq (K : PySem.W.Frag) (mg : Str → Option Value) {CX : CXT} {k n : Nat} {f : Addr} {fd : FuncData} {ps : List Str} {g : List D → R D} {E : XK} {x : Str} {p pos : Pos} {e : Expr} {es : List Expr} {fa : AF}
    (F : FnOk X.prog X.w K mg X.base CX k f fd ps (spD K mg n g)) (hr : Room k X.A) (hg : Gl X x) (hm : mg x = some (.ref f)) (hk : PySem.W.keepIn K (.ref f) = true) (hb : Binds K fd ps []) (hx : Passes CX X E)
    (he : ∀ c H', Er c H' → erX mg E c H') (ha : DAq X Er (e :: es) ta fa) (hn : ∀ ρ ds, fa ρ = .ok ds → ds.length = n)
    (hd : (x == ("__debug__" : Str)) = false := by decide) (hs : starEach (e :: es) X.env = (false, eval e X.env) :: starEach es X.env := by rfl) (hpl : (backTo pos (starEach es X.env)).any (·.1) = false := by rfl) (hK : X.K = K := by rfl) (hG : X.mg = mg := by rfl) :
    DE X Er (.Call (.Name x p) (e :: es) [] pos) (tCall (spD K mg n g) [] E ta) (ownE g fa) := by subst hK; subst hG; exact de_own F hr hg hm hk hb hx he ha hn hd hs hpl
end
end DL
namespace DL
open PySem PySem.Spec L2
/-- a def of the module, as it stands behind the top -/
structure FnI (K : PySem.W.Frag) (mg : Str → Option Value) (x : Str) (st : Stmt) (ps : List Str) where
  f : Addr
  fd : FuncData
  F : Fun K x x st f fd
  m : mg x = some (.ref f)
  b : Binds K fd ps []
structure CoI (mg : Str → Option Value) (x : Str) (i : Int) where
  t : Tok
  h : mg x = some (.int i t)
structure CoS (mg : Str → Option Value) (x : Str) (i : Str) where
  t : Tok
  h : mg x = some (.str i t)
end DL

set_option maxHeartbeats 1000000
/-! DL6: enumerate, zip, range with a step. -/
namespace DL
open PySem PySem.Spec L2
open AutoSeq1 (wpAny_loadPart')
variable [Mem]
open PyProof.Rows hiding St
open RZ (ItzT iZipA pi_zipA)

/-! ### range(a, b, c) -/
def stepL (i c : Int) (n : Nat) : List D := (List.range n).map fun (k : Nat) => .int (i + (k : Int) * c)
def range3D : List D → Option (List D)
  | [.int i, .int j, .int c] => if 0 < c ∧ c < 1000000 ∧ -1000000 ≤ i ∧ i ≤ 1000000 ∧ -1000000 ≤ j ∧ j ≤ 1000000 then some (stepL i c (Builtin.Range.rangeSize i j c).toNat) else none
  | _ => none
theorem range3D_some {ds r : List D} (h : range3D ds = some r) : ∃ i j c, ds = [.int i, .int j, .int c] ∧ (0 < c ∧ c < 1000000 ∧ -1000000 ≤ i ∧ i ≤ 1000000 ∧ -1000000 ≤ j ∧ j ≤ 1000000) ∧ r = stepL i c (Builtin.Range.rangeSize i j c).toNat := by
  unfold range3D at h
  split at h
  · split at h <;> cases h
    rename_i i j c hn
    exact ⟨i, j, c, rfl, hn, rfl⟩
  · cases h
theorem rgC_of {i j c : Int} (h : 0 < c ∧ c < 1000000 ∧ -1000000 ≤ i ∧ i ≤ 1000000 ∧ -1000000 ≤ j ∧ j ≤ 1000000) : RgC i j c (Builtin.Range.rangeSize i j c).toNat := by
  obtain ⟨h1, h2, h3, h4, h5, h6⟩ := h
  have hs : 0 ≤ Builtin.Range.rangeSize i j c ∧ Builtin.Range.rangeSize i j c ≤ 2000001 := by
    unfold Builtin.Range.rangeSize
    rw [if_pos h1]
    split
    · have := Int.ediv_nonneg (show 0 ≤ j - i - 1 by omega) (Int.le_of_lt h1)
      have := Int.ediv_le_self c (show 0 ≤ j - i - 1 by omega)
      omega
    · omega
  refine ⟨by omega, by omega, ?_, by omega⟩
  unfold Builtin.Range.small Builtin.Range.rangeFitsLong
  generalize Builtin.Range.rangeSize i j c = z at hs
  have hc : c > 0 := h1
  simp only [Bool.and_eq_true, Bool.or_eq_true, decide_eq_true_eq, beq_iff_eq, if_pos hc]
  omega
theorem dit_step {K : PySem.W.Frag} {F0 : Hp} {i c : Int} {n : Nat} : DIt K (Itc i c n) F0 (stepL i c n) where
  go := fun k F H _ _ hk => by show k < n; simpa [stepL] using hk
  stop := fun F H _ _ => by show n ≤ _; simp [stepL]
  yld := fun k F H x H' d _ s2 hd y => by
    obtain ⟨rfl, rfl⟩ := y
    have hk : k < n := by
      have := (List.getElem?_eq_some_iff.mp hd).1
      simpa [stepL] using this
    simp only [stepL, List.getElem?_map, List.getElem?_range hk, Option.map_some, Option.some.injEq] at hd
    subst hd
    exact ⟨F, .refl s2, .int _⟩
section
variable {X : Cx} {Er : ErT} {te : TE} {ta : TA} {K : PySem.W.Frag}
theorem di_range3 {tg a b c : Expr} {p pos : Pos} {fa : AF} (hg : Gl X "range") (hm : X.mg "range" = none) (ha : DA X Er [a, b, c] ta fa) (hs : starEach [a, b, c] X.env = (false, eval a X.env) :: starEach [b, c] X.env := by rfl) (hpl : (backTo pos (starEach [b, c] X.env)).any (·.1) = false := by rfl) : DI X Er tg (.Call (.Name "range" p) [a, b, c] [] pos) (iRng3 ta) (rangeI range3D fa) := by
  refine ⟨pi_range3 hg hm ha.pe hs hpl, fun F H σ ρ R s st p => ?_⟩
  refine ha.rd F H σ ρ _ s st (Post.imp (Post.bind p) fun F1 H1 ds g1 p1 vs dvs => ?_)
  obtain ⟨r, e, p1⟩ := of_ok p1
  obtain ⟨i, j, c, rfl, h1, rfl⟩ := range3D_some e
  cases dvs with
  | cons z1 z2 =>
    cases z1
    cases z2 with
    | cons z2 z3 =>
      cases z2
      cases z3 with
      | cons z3 z4 =>
        cases z3
        cases z4
        exact ⟨i, j, c, _, rfl, rgC_of h1, Post.now p1 g1.fh _ dit_step⟩

/-! ### enumerate -/
def enumL (ds : List D) : List D := ds.zipIdx.map fun p => .tuple [.int (p.2 : Nat), p.1]
theorem enumL_get {ds : List D} {i : Nat} {d : D} (h : (enumL ds)[i]? = some d) : ∃ e, ds[i]? = some e ∧ d = .tuple [.int (i : Nat), e] := by
  unfold enumL at h
  rw [List.getElem?_map, List.getElem?_zipIdx] at h
  cases e : ds[i]? with
  | none => rw [e] at h; cases h
  | some x => rw [e] at h; cases h; exact ⟨x, rfl, by simp⟩
theorem enumL_len (ds : List D) : (enumL ds).length = ds.length := by simp [enumL]
theorem dit_enum {F0 : Hp} {a : Addr} {xs : List V} {ds : List D} (h1 : SqL K F0 a xs) (h2 : DpAll K F0 xs ds) : DIt K (Ite K a) F0 (enumL ds) where
  go := fun i F H s1 s2 hi => ⟨xs, xs[i]'(by rw [dpAll_len h2, ← enumL_len]; exact hi), same_seqL s2.s (same_seqL s1 h1), by simp⟩
  stop := fun F H s1 s2 => ⟨xs, same_seqL s2.s (same_seqL s1 h1), by rw [dpAll_len h2, enumL_len]; exact Nat.le_refl _⟩
  yld := fun i F H x H' d s1 s2 hd y => by
    obtain ⟨T, x', rfl, hT, rfl, y⟩ := y
    have e := y xs (same_seqL s2.s (same_seqL s1 h1))
    obtain ⟨d', hd', rfl⟩ := enumL_get hd
    obtain ⟨v, e1, e2⟩ := dpAll_get h2 hd'
    rw [e] at e1; cases e1
    exact ⟨_, Grow.new s2 hT, .tup (.inl (.inl upd_same)) (.cons (.int _) (.cons (dp_mono (Grow.new s2 hT).ff _ _ (dp_mono s1 _ _ e2)) .nil))⟩
/-- enumerate(tuple) -/
def IteT (K : PySem.W.Frag) (a : Addr) : It where
  go := fun i H => ∃ (xs : List V) (x : V), SqT K H a xs ∧ xs[i]? = some x
  yld := fun i H v H' => ∃ T x, v = .ref T ∧ H T = none ∧ H' = upd H T (.tup [.int (i : Nat), x]) ∧ ∀ xs, SqT K H a xs → xs[i]? = some x
  stop := fun i H => ∃ xs : List V, SqT K H a xs ∧ xs.length = i
theorem dit_enumT {F0 : Hp} {a : Addr} {xs : List V} {ds : List D} (h1 : SqT K F0 a xs) (h2 : DpAll K F0 xs ds) : DIt K (IteT K a) F0 (enumL ds) where
  go := fun i F H s1 s2 hi => ⟨xs, xs[i]'(by rw [dpAll_len h2, ← enumL_len]; exact hi), same_seqT s2.s (same_seqT s1 h1), by simp⟩
  stop := fun F H s1 s2 => ⟨xs, same_seqT s2.s (same_seqT s1 h1), by rw [dpAll_len h2, enumL_len]⟩
  yld := fun i F H x H' d s1 s2 hd y => by
    obtain ⟨T, x', rfl, hT, rfl, y⟩ := y
    have e := y xs (same_seqT s2.s (same_seqT s1 h1))
    obtain ⟨d', hd', rfl⟩ := enumL_get hd
    obtain ⟨v, e1, e2⟩ := dpAll_get h2 hd'
    rw [e] at e1; cases e1
    exact ⟨_, Grow.new s2 hT, .tup (.inl (.inl upd_same)) (.cons (.int _) (.cons (dp_mono (Grow.new s2 hT).ff _ _ (dp_mono s1 _ _ e2)) .nil))⟩
end
theorem meets_enumT (t : Addr) (items : Array Value) (n : Nat) (dct : Option Addr) (sl : Array (Option Value)) :
    Meets (Builtin.«enumerate.__new__» ⟨[.type "enumerate", .ref t], []⟩) (fun _ R s =>
      s.heap.get? t = some { cls := .type "tuple", dict := dct, data := .seq items n, slots := sl } ∧
      R (.ok (.ret (.ref (s.heap.push { cls := .type "tuple_iterator", data := .fields #[.ref t, .int 0 0] }).objs.size)))
        { s with heap := (s.heap.push { cls := .type "tuple_iterator", data := .fields #[.ref t, .int 0 0] }).push { cls := .type "enumerate", data := .fields #[.none, .bool false, .ref s.heap.objs.size, rawInt 0, .none, .none] } }) :=
  .of_wp fun prog w A R s h => by
    obtain ⟨hp, g, d, tk, os⟩ := s
    obtain ⟨ht, h⟩ := h
    have hsub := sub_enumerate
    have hT : Heap.IsTuple (Shared.heap ⟨hp, g, d, tk, os⟩) t items := ⟨_, ht, rfl, n, rfl⟩
    wp_walk using wpAny_loadPart' ht
    refine wpAny_stack_any fun st => wpAny_pure ?_
    split
    · rename_i c _ _ _ _ _
      cases (c == Value.type "enumerate") <;> (wp_walk using wpAny_loadPart' ht, wpAny_pyIter_tuple hT; exact ⟨_, rfl, h⟩)
    · wp_walk using wpAny_loadPart' ht, wpAny_pyIter_tuple hT
      exact ⟨_, rfl, h⟩
section
variable {prog : Program} {w : World} {A : Around} {E : Value → Shared → Prop} {s : Shared}
theorem call_enumT {t : Addr} {items : Array Value} {Q : Value → Shared → Prop} (hT : s.heap.IsTuple t items)
    (h : ∀ h', IsEnum h' (s.heap.objs.size + 1) s.heap.objs.size 0 .none → h'.IsTupleIter s.heap.objs.size t 0 → (∀ b o, s.heap.get? b = some o → h'.get? b = some o) → Q (.ref (s.heap.objs.size + 1)) { s with heap := h' }) :
    wpAny (model prog w) A (call (.type "enumerate") [.ref t]) Q E s := by
  obtain ⟨⟨c, dct, dt, sl⟩, ht, hc, n, hd⟩ := hT
  obtain rfl : c = .type "tuple" := hc
  obtain rfl : dt = .seq items n := hd
  refine callType_new F.called_enumerate (by decide) (F.typeCall_enumerate_1 _) (F.newCall_enumerate_1 _) (fun obj => F.args_object_init_2 obj _) F.entry_enumerate_new (meets_enumT t items n dct sl) ⟨ht, ?_⟩
  have hz : (s.heap.push { cls := .type "tuple_iterator", data := .fields #[.ref t, .int 0 0] }).objs.size = s.heap.objs.size + 1 := Heap.size_push ..
  have he : IsEnum ((s.heap.push { cls := .type "tuple_iterator", data := .fields #[.ref t, .int 0 0] }).push { cls := .type "enumerate", data := .fields #[.none, .bool false, .ref s.heap.objs.size, rawInt 0, .none, .none] }) (s.heap.objs.size + 1) s.heap.objs.size 0 .none := by
    have q := Heap.get?_push_size (s.heap.push { cls := .type "tuple_iterator", data := .fields #[.ref t, .int 0 0] }) (o := { cls := .type "enumerate", data := .fields #[.none, .bool false, .ref s.heap.objs.size, rawInt 0, .none, .none] }) rfl
    rw [hz] at q
    exact q
  show _ ∧ _
  rw [hz]
  exact ⟨⟨_, he, rfl⟩, h _ he ⟨_, Heap.get?_push_of_some _ (Heap.get?_push_size _ rfl), rfl, rfl⟩ fun b o x => Heap.get?_push_of_some _ (Heap.get?_push_of_some _ x)⟩
end
theorem turn_enumT {P : Program} {w : World} {K : PySem.W.Frag} {elts : List Expr} {kk : Nat} {tpos : Pos} (a e it : Addr) :
    Turn P w K (.Tuple elts kk tpos) (IteT K a) [e, it] e (fun i h => (∃ old, IsEnum h e it ((i : Nat) : Int) old) ∧ h.IsTupleIter it a i ∧ e ≠ it ∧ a ≠ it) where
  mem := by simp
  obj := fun i h st b hb => by
    obtain ⟨⟨old, he⟩, ⟨o, ho, hc, hd⟩, _⟩ := st
    rcases (show b = e ∨ b = it by simpa using hb) with rfl | rfl
    · exact ⟨_, he, fun v q => nomatch q⟩
    · exact ⟨o, ho, fun v q => by rw [hd] at q; cases q⟩
  keep := fun i h h' st k => by
    obtain ⟨⟨old, he⟩, hi, hne⟩ := st
    exact ⟨⟨old, k e (by simp) _ he⟩, hi.at fun o q => k it (by simp) o q, hne⟩
  item := by
    intro X hP hw hK hc i pins s σ H E I hf st hg
    subst hP hw hK
    obtain ⟨⟨old, he⟩, hit, hne, hai⟩ := st
    obtain ⟨xs, x, hq, hx⟩ := hg
    obtain ⟨its, rv, p, _⟩ := I.tuple hq
    obtain ⟨u, hu, ru⟩ := rv.get hx
    have lt1 : e < s.heap.objs.size := Heap.lt_size he
    have lt2 : it < s.heap.objs.size := let ⟨_, q, _⟩ := hit; Heap.lt_size q
    have hlt : i < its.toArray.size := by
      have := (List.getElem?_eq_some_iff.mp hu).1
      simpa using this
    refine wpAny_pyNext_enum_itemD (Draws.tuple (show X.A.in1.handled = none from I.ok.hd hc) it a hai its.toArray) he ⟨hit, p⟩ hlt hne (by simp [hne]; intro z; subst z; obtain ⟨o, q, c, _⟩ := p; rw [he] at q; cases q; exact absurd c (by simp)) fun x2 h' tk hP ho st' hT hsz hk => ?_
    have ex : x2 = u := by
      have q : its.toArray[i]? = some u := by simpa using hu
      rw [hP] at q
      exact Option.some.inj q
    subst ex
    refine ⟨_, rfl, wpAny_letOwnedTupleGo_enum (s := { s with heap := h', toks := tk + 1 }) ho fun h'' he' sb => ?_⟩
    have hT2 := (sb.2 _ (Nat.ne_of_gt lt1)).trans hT
    have new : ObjOk X.prog X.w (upd H s.heap.objs.size (.tup [.int (i : Nat), x])) h'' s.heap.objs.size (.tup [.int (i : Nat), x]) := by
      refine ⟨?_, [.int i tk, x2], .cons ⟨tk, rfl⟩ (.cons ru .nil), _, hT2, rfl, _, rfl⟩
      show 2 ≤ sizeLine
      decide
    have J := I.turnedNew (t' := tk + 1) (ch := [e, it]) (fun b ob hb q => (sb.2 b (fun z => hb (by simp [z]))).trans (hk b ob (fun z => hb (by simp [z])) (fun z => hb (by simp [z])) q)) hf (Nat.le_refl _) new
    refine ⟨.ref s.heap.objs.size, _, J, rfl, ⟨_, x, rfl, I.hok.fresh (Nat.le_refl _), rfl, fun ys hy => ?_⟩, ⟨⟨x2, ?_⟩, st'.1.at fun o q => (sb.2 it (Ne.symm hne)).trans q, hne, hai⟩, fun b hb => ?_⟩
    · rw [I.tuple_inj hy hq]
      exact hx
    · have e1 : ((i + 1 : Nat) : Int) = (i : Int) + 1 := by omega
      rw [e1]
      exact he'
    · have lt3 : b < s.heap.objs.size := by
        rcases (show b = e ∨ b = it by simpa using hb) with z | z
        · rw [z]; exact lt1
        · rw [z]; exact lt2
      rw [upd_ne (Nat.ne_of_lt lt3)]
      exact (hf b hb).1
  done := by
    intro X hP hw hK hc i pins s σ H E I hf st hg
    subst hP hw hK
    obtain ⟨⟨old, he⟩, hit, hne, hai⟩ := st
    obtain ⟨xs, hq, hx⟩ := hg
    obtain ⟨its, rv, p, _⟩ := I.tuple hq
    have hl := rv.length
    obtain ⟨f0, f1, f2, f3, f4, f5⟩ := hf it (by simp)
    have ei : i = its.toArray.size := by simp; omega
    exact wpAny_pyNext_enum_endD (Draws.tuple (show X.A.in1.handled = none from I.ok.hd hc) it a hai its.toArray) he (by rw [← ei]; exact ⟨hit, p⟩) fun h' eb => ⟨rfl, I.turned (t' := s.toks) (fun b o hb q => eb b o hb q) f0 f1 f3 f4 f5⟩
  self := fun A i s Q E st h => by
    obtain ⟨⟨_, he⟩, _⟩ := st
    exact wpAny_pyIter_enum he h
section
variable {X : Cx} {Er : ErT} {te : TE} {ta : TA} {K : PySem.W.Frag}
/-- enumerate of a list or a tuple -/
def iEnumA (K : PySem.W.Frag) (ta : TA) : TI := fun σ H R => ta σ H fun vs H1 => ∃ a, vs = [.ref a] ∧ (((∃ xs, SqL K H1 a xs) ∧ R (Ite K a) H1) ∨ ((∃ xs, SqT K H1 a xs) ∧ R (IteT K a) H1))
theorem pi_enumA {e : Expr} {p pos tpos : Pos} {elts : List Expr} {kk : Nat} (hg : Gl X "enumerate") (hm : X.mg "enumerate" = none) (ha : PA X [e] ta) (hs : starEach [e] X.env = [(false, eval e X.env)] := by rfl) :
    PI X (.Tuple elts kk tpos) (.Call (.Name "enumerate" p) [e] [] pos) (iEnumA X.K ta) := by
  refine ⟨fun pins s σ H R I h => ?_⟩
  refine Call_ (ld_blt I hg hm boot_enumerate (PyProof.Rows.callWith_type1 (thn (ha.run pos pins s σ H _ I h) fun us s1 hq => ?_) hs rfl))
  obtain ⟨vs, H1, I1, r1, a, rfl, q1⟩ := hq
  cases r1 with
  | cons r rr =>
    cases rr
    cases r
    have fresh2 : ∀ b ∈ [s1.heap.objs.size + 1, s1.heap.objs.size], FpOk X pins H1 b := fun b hb => by
      have hle : s1.heap.objs.size ≤ b := by
        rcases (show b = s1.heap.objs.size + 1 ∨ b = s1.heap.objs.size by simpa using hb) with z | z
        · rw [z]; exact Nat.le_add_right _ _
        · rw [z]; exact Nat.le_refl _
      exact I1.fpOk hle (I1.hok.fresh hle)
    rcases q1 with ⟨⟨xs, hq⟩, q⟩ | ⟨⟨xs, hq⟩, q⟩
    · obtain ⟨its, rv, pl, _⟩ := I1.list hq
      refine call_enumerate_list pl.isList fun h' he hit hsz hk => wpAny_pyIter_enum he ?_
      exact ⟨_, _, _, _, H1, rfl, I1.kept (h' := h') (t' := s1.toks) hk, turn_enum a (s1.heap.objs.size + 1) s1.heap.objs.size, ⟨⟨.none, he⟩, hit, Nat.succ_ne_self _⟩, fresh2, q⟩
    · obtain ⟨its, rv, pl, _⟩ := I1.tuple hq
      refine call_enumT (show s1.heap.IsTuple a its.toArray from pl) fun h' he hit hk => wpAny_pyIter_enum he ?_
      exact ⟨_, _, _, _, H1, rfl, I1.kept (h' := h') (t' := s1.toks) hk, turn_enumT a (s1.heap.objs.size + 1) s1.heap.objs.size, ⟨⟨.none, he⟩, hit, Nat.succ_ne_self _, Nat.ne_of_lt pl.lt⟩, fresh2, q⟩
def enumD : List D → Option (List D)
  | [.list xs] => some (enumL xs)
  | [.tuple xs] => some (enumL xs)
  | _ => none
theorem enumD_some {ds r : List D} (h : enumD ds = some r) : (∃ xs, ds = [.list xs] ∧ r = enumL xs) ∨ (∃ xs, ds = [.tuple xs] ∧ r = enumL xs) := by
  unfold enumD at h
  split at h
  · cases h; exact .inl ⟨_, rfl, rfl⟩
  · cases h; exact .inr ⟨_, rfl, rfl⟩
  · cases h
theorem di_enum {e : Expr} {p pos tpos : Pos} {elts : List Expr} {kk : Nat} {fa : AF} (hg : Gl X "enumerate") (hm : X.mg "enumerate" = none) (ha : DA X Er [e] ta fa) (hs : starEach [e] X.env = [(false, eval e X.env)] := by rfl) :
    DI X Er (.Tuple elts kk tpos) (.Call (.Name "enumerate" p) [e] [] pos) (iEnumA X.K ta) (rangeI enumD fa) := by
  refine ⟨pi_enumA hg hm ha.pe hs, fun F H σ ρ R s st p => ?_⟩
  refine ha.rd F H σ ρ _ s st (Post.imp (Post.bind p) fun F1 H1 ds g1 p1 vs dvs => ?_)
  obtain ⟨r, e, p1⟩ := of_ok p1
  rcases enumD_some e with ⟨xs, rfl, rfl⟩ | ⟨xs, rfl, rfl⟩
  · cases dvs with
    | cons z1 z2 =>
      cases z2
      cases z1 with
      | lst h1 h2 => exact ⟨_, rfl, .inl ⟨⟨_, same_seqL g1.fh.s h1⟩, Post.now p1 g1.fh _ (dit_enum h1 h2)⟩⟩
  · cases dvs with
    | cons z1 z2 =>
      cases z2
      cases z1 with
      | tup h1 h2 => exact ⟨_, rfl, .inr ⟨⟨_, same_seqT g1.fh.s h1⟩, Post.now p1 g1.fh _ (dit_enumT h1 h2)⟩⟩
/-! ### zip of two lists, of two tuples -/
def zipL (xs ys : List D) : List D := (xs.zip ys).map fun p => .tuple [p.1, p.2]
theorem zipL_get {xs ys : List D} {i : Nat} {d : D} (h : (zipL xs ys)[i]? = some d) : ∃ x y, xs[i]? = some x ∧ ys[i]? = some y ∧ d = .tuple [x, y] := by
  unfold zipL at h
  rw [List.getElem?_map] at h
  cases e : (xs.zip ys)[i]? with
  | none => rw [e] at h; cases h
  | some q =>
    rw [e] at h
    cases h
    obtain ⟨x, y⟩ := q
    obtain ⟨h1, h2⟩ := List.getElem?_zip_eq_some.mp e
    exact ⟨x, y, h1, h2, rfl⟩
theorem zipL_len (xs ys : List D) : (zipL xs ys).length = min xs.length ys.length := by simp [zipL]
theorem dit_zip {F0 : Hp} {a b : Addr} {xs ys : List V} {ds es : List D} (h1 : SqL K F0 a xs) (h2 : DpAll K F0 xs ds) (k1 : SqL K F0 b ys) (k2 : DpAll K F0 ys es) : DIt K (Itz K a b) F0 (zipL ds es) where
  go := fun i F H s1 s2 hi => by
    rw [zipL_len] at hi
    have l1 := dpAll_len h2
    have l2 := dpAll_len k2
    exact ⟨xs, ys, xs[i]'(by omega), ys[i]'(by omega), same_seqL s2.s (same_seqL s1 h1), same_seqL s2.s (same_seqL s1 k1), by simp, by simp⟩
  stop := fun F H s1 s2 => by
    have l1 := dpAll_len h2
    have l2 := dpAll_len k2
    refine ⟨xs, ys, same_seqL s2.s (same_seqL s1 h1), same_seqL s2.s (same_seqL s1 k1), ?_⟩
    rw [zipL_len]
    omega
  yld := fun i F H x H' d s1 s2 hd y => by
    obtain ⟨T, x', y', rfl, hT, rfl, y1, y2⟩ := y
    obtain ⟨d1, d2, e1, e2, rfl⟩ := zipL_get hd
    obtain ⟨v1, z1, w1⟩ := dpAll_get h2 e1
    obtain ⟨v2, z2, w2⟩ := dpAll_get k2 e2
    have q1 := y1 xs (same_seqL s2.s (same_seqL s1 h1))
    have q2 := y2 ys (same_seqL s2.s (same_seqL s1 k1))
    rw [z1] at q1; cases q1
    rw [z2] at q2; cases q2
    have st := same_trans s1 (Grow.new (o := .tup [x', y']) s2 hT).ff
    exact ⟨_, Grow.new s2 hT, .tup (.inl (.inl upd_same)) (.cons (dp_mono st _ _ w1) (.cons (dp_mono st _ _ w2) .nil))⟩
theorem dit_zipT {F0 : Hp} {a b : Addr} {xs ys : List V} {ds es : List D} (h1 : SqT K F0 a xs) (h2 : DpAll K F0 xs ds) (k1 : SqT K F0 b ys) (k2 : DpAll K F0 ys es) : DIt K (ItzT K a b) F0 (zipL ds es) where
  go := fun i F H s1 s2 hi => by
    rw [zipL_len] at hi
    have l1 := dpAll_len h2
    have l2 := dpAll_len k2
    exact ⟨xs, ys, xs[i]'(by omega), ys[i]'(by omega), same_seqT s2.s (same_seqT s1 h1), same_seqT s2.s (same_seqT s1 k1), by simp, by simp⟩
  stop := fun F H s1 s2 => by
    have l1 := dpAll_len h2
    have l2 := dpAll_len k2
    refine ⟨xs, ys, same_seqT s2.s (same_seqT s1 h1), same_seqT s2.s (same_seqT s1 k1), ?_⟩
    rw [zipL_len]
    omega
  yld := fun i F H x H' d s1 s2 hd y => by
    obtain ⟨T, x', y', rfl, hT, rfl, y1, y2⟩ := y
    obtain ⟨d1, d2, e1, e2, rfl⟩ := zipL_get hd
    obtain ⟨v1, z1, w1⟩ := dpAll_get h2 e1
    obtain ⟨v2, z2, w2⟩ := dpAll_get k2 e2
    have q1 := y1 xs (same_seqT s2.s (same_seqT s1 h1))
    have q2 := y2 ys (same_seqT s2.s (same_seqT s1 k1))
    rw [z1] at q1; cases q1
    rw [z2] at q2; cases q2
    have st := same_trans s1 (Grow.new (o := .tup [x', y']) s2 hT).ff
    exact ⟨_, Grow.new s2 hT, .tup (.inl (.inl upd_same)) (.cons (dp_mono st _ _ w1) (.cons (dp_mono st _ _ w2) .nil))⟩
def zipD : List D → Option (List D)
  | [.list xs, .list ys] => some (zipL xs ys)
  | [.tuple xs, .tuple ys] => some (zipL xs ys)
  | _ => none
theorem zipD_some {ds r : List D} (h : zipD ds = some r) : (∃ xs ys, ds = [.list xs, .list ys] ∧ r = zipL xs ys) ∨ (∃ xs ys, ds = [.tuple xs, .tuple ys] ∧ r = zipL xs ys) := by
  unfold zipD at h
  split at h
  · cases h; exact .inl ⟨_, _, rfl, rfl⟩
  · cases h; exact .inr ⟨_, _, rfl, rfl⟩
  · cases h
theorem di_zip {e e2 : Expr} {p pos tpos : Pos} {elts : List Expr} {kk : Nat} {fa : AF} (hg : Gl X "zip") (hm : X.mg "zip" = none) (ha : DA X Er [e, e2] ta fa)
    (hs : starEach [e, e2] X.env = (false, eval e X.env) :: starEach [e2] X.env := by rfl) (hpl : (backTo pos (starEach [e2] X.env)).any (·.1) = false := by rfl) :
    DI X Er (.Tuple elts kk tpos) (.Call (.Name "zip" p) [e, e2] [] pos) (iZipA X.K ta) (rangeI zipD fa) := by
  refine ⟨pi_zipA hg hm ha.pe hs hpl, fun F H σ ρ R s st p => ?_⟩
  refine ha.rd F H σ ρ _ s st (Post.imp (Post.bind p) fun F1 H1 ds g1 p1 vs dvs => ?_)
  obtain ⟨r, e, p1⟩ := of_ok p1
  rcases zipD_some e with ⟨xs, ys, rfl, rfl⟩ | ⟨xs, ys, rfl, rfl⟩
  · cases dvs with
    | cons z1 z2 =>
      cases z2 with
      | cons z2 z3 =>
        cases z3
        cases z1 with
        | lst h1 h2 =>
          cases z2 with
          | lst h3 h4 => exact ⟨_, _, _, _, rfl, .inl ⟨same_seqL g1.fh.s h1, same_seqL g1.fh.s h3, Post.now p1 g1.fh _ (dit_zip h1 h2 h3 h4)⟩⟩
  · cases dvs with
    | cons z1 z2 =>
      cases z2 with
      | cons z2 z3 =>
        cases z3
        cases z1 with
        | tup h1 h2 =>
          cases z2 with
          | tup h3 h4 => exact ⟨_, _, _, _, rfl, .inr ⟨same_seqT g1.fh.s h1, same_seqT g1.fh.s h3, Post.now p1 g1.fh _ (dit_zipT h1 h2 h3 h4)⟩⟩
/-! with the written part named -/
theorem kenum (K : PySem.W.Frag) {e : Expr} {p pos tpos : Pos} {elts : List Expr} {kk : Nat} {fa : AF} (hg : Gl X "enumerate") (hm : X.mg "enumerate" = none) (ha : DA X Er [e] ta fa) (hs : starEach [e] X.env = [(false, eval e X.env)] := by rfl) (hK : X.K = K := by rfl) :
    DI X Er (.Tuple elts kk tpos) (.Call (.Name "enumerate" p) [e] [] pos) (iEnumA K ta) (rangeI enumD fa) := by subst hK; exact di_enum hg hm ha hs
theorem kzip (K : PySem.W.Frag) {e e2 : Expr} {p pos tpos : Pos} {elts : List Expr} {kk : Nat} {fa : AF} (hg : Gl X "zip") (hm : X.mg "zip" = none) (ha : DA X Er [e, e2] ta fa)
    (hs : starEach [e, e2] X.env = (false, eval e X.env) :: starEach [e2] X.env := by rfl) (hpl : (backTo pos (starEach [e2] X.env)).any (·.1) = false := by rfl) (hK : X.K = K := by rfl) :
    DI X Er (.Tuple elts kk tpos) (.Call (.Name "zip" p) [e, e2] [] pos) (iZipA K ta) (rangeI zipD fa) := by subst hK; exact di_zip hg hm ha hs hpl
end
end DL

set_option maxHeartbeats 1000000
/-! DL7: int(), extend by a standing list, reversed slices, small built-ins. -/
namespace DL
open PySem PySem.Spec L2
open PyProof.Rows hiding St
variable [Mem]
open HT (slicePart_)

/-! ### int(x) of numbers and flags -/
def intC : List D → Option D
  | [.int i] => some (.int i)
  | [.bool b] => some (.int (if b then 1 else 0))
  | _ => none
def rInt1 : List V → Hp → VK → Prop := fun xs H Q => (∃ i, xs = [.int i] ∧ Q (.int i) H) ∨ ∃ k, xs = [.bl k] ∧ Q (.int (if k then 1 else 0)) H
theorem cg_int (K : PySem.W.Frag) : CallG K rInt1 intC := by
  intro F H vs ds d Q s h e k
  match ds, h, e with
  | [.int i], .cons (.int _) .nil, e => cases e; exact .inl ⟨i, rfl, k _ F H (.refl s) (.int _)⟩
  | [.bool b], .cons (.bl _) .nil, e => cases e; exact .inr ⟨b, rfl, k _ F H (.refl s) (.int _)⟩
/-! ### abs, min, max of two -/
def absD : List D → Option D
  | [.int i] => some (.int (if i < 0 then -i else i))
  | _ => none
def rAbs1 : List V → Hp → VK → Prop := fun xs H Q => ∃ i, xs = [.int i] ∧ Q (.int (if i < 0 then -i else i)) H
theorem cg_abs (K : PySem.W.Frag) : CallG K rAbs1 absD := by
  intro F H vs ds d Q s h e k
  match ds, h, e with
  | [.int i], .cons (.int _) .nil, e => cases e; exact ⟨i, rfl, k _ F H (.refl s) (.int _)⟩
def min2D : List D → Option D
  | [.int i, .int j] => some (.int (if j < i then j else i))
  | _ => none
def rMin2 : List V → Hp → VK → Prop := fun xs H Q => ∃ i j, xs = [.int i, .int j] ∧ Q (.int (if j < i then j else i)) H
theorem cg_min2 (K : PySem.W.Frag) : CallG K rMin2 min2D := by
  intro F H vs ds d Q s h e k
  match ds, h, e with
  | [.int i, .int j], .cons (.int _) (.cons (.int _) .nil), e => cases e; exact ⟨i, j, rfl, k _ F H (.refl s) (.int _)⟩
/-! min of a list of numbers -/
def minLD : List D → Option D
  | [.list ds] => match intsOf ds with
    | some (n :: ns) => some (.int (ns.foldl min n))
    | _ => none
  | _ => none
theorem foldl_min_le : ∀ (ns : List Int) (n : Int), ns.foldl min n ≤ n ∧ (∀ z ∈ ns, ns.foldl min n ≤ z) ∧ (ns.foldl min n = n ∨ ns.foldl min n ∈ ns)
  | [], n => ⟨Int.le_refl _, (fun _ h => nomatch h), .inl rfl⟩
  | m :: ns, n => by
    obtain ⟨h1, h2, h3⟩ := foldl_min_le ns (min n m)
    refine ⟨Int.le_trans h1 (Int.min_le_left _ _), fun z hz => ?_, ?_⟩
    · rcases List.mem_cons.mp hz with rfl | hz
      · exact Int.le_trans h1 (Int.min_le_right _ _)
      · exact h2 z hz
    · rw [List.foldl_cons]
      rcases h3 with h3 | h3
      · rw [h3]
        rcases Int.le_total n m with q | q
        · exact .inl (Int.min_eq_left q)
        · rw [Int.min_eq_right q]; exact .inr List.mem_cons_self
      · exact .inr (List.mem_cons_of_mem _ h3)

/-! ### xs.extend(ys), ys standing anywhere -/
theorem meets_ext (l : Addr) (items : Array Value) (n : Nat) (b : Addr) (items2 : Array Value) (n2 : Nat) (sl2 : Array (Option Value)) (hc0 : ¬(!items.isEmpty && Builtin.List.listTooLong (items.size + items2.size)) = true) (hc1 : items.size ≤ sizeLine) (hs2 : items.size + items2.size ≤ sizeLine + 1) :
    Meets (Builtin.«list.extend» ⟨[.ref l, .ref b], []⟩) (fun _ R s =>
      s.heap.get? l = some { cls := .type "list", dict := none, data := .seq items n, slots := #[] } ∧
      s.heap.get? b = some { cls := .type "list", dict := none, data := .seq items2 n2, slots := sl2 } ∧
      R (.ok (.ret Value.none)) { s with heap := s.heap.update l (Obj.mapSeq fun x => x ++ items2), toks := s.toks }) :=
  .of_wp fun prog w A R s h => by
    obtain ⟨hp, g, d, tk, os⟩ := s
    obtain ⟨hl, hb, h⟩ := h
    have f1 := AutoSeq1.idx_int
    have f2 := AutoSeq1.sub_tuple_tuple
    have f3 := AutoSeq1.sub_list_list
    have f4 := AutoSeq1.sub_tuple_list
    have f5 := AutoSeq1.sub_list_tuple
    have hz' : (items ++ items2).size ≤ sizeLine + 1 := by rw [Array.size_append]; exact hs2
    wp_walk using (wpAny_updateSeq hl rfl (hz := hc1) (_hz' := hz')), AutoSeq1.wpAny_loadPart' hl, AutoSeq1.wpAny_loadPart' hb
    exact ⟨_, rfl, h⟩
section
variable {X : Cx}
def rExtV (K : PySem.W.Frag) : V → List V → Hp → VK → Prop := fun x vs H Q => ∃ l b xs zs, x = .ref l ∧ vs = [.ref b] ∧ H l = some (.lst xs) ∧ SqL K H b zs ∧ xs.length + zs.length ≤ sizeLine ∧ Q .non (upd H l (.lst (xs ++ zs)))
theorem mt_extV : MtM X "list.extend" (rExtV X.K) := by
  intro pins s σ H x vs v us Q I rx rv h
  obtain ⟨l, b, xs, zs, rfl, rfl, hH, hB, hz, q⟩ := h
  cases rx
  obtain ⟨u, rfl, ru⟩ := rv.one
  cases ru
  obtain ⟨z, its, n, r, hl, e⟩ := I.lstM hH
  obtain ⟨its2, r2, ⟨⟨c2, d2, dt2, sl2⟩, n2, e2, hc2, hd2, hdt2⟩, hl2⟩ := I.list hB
  obtain rfl : c2 = .type "list" := hc2
  obtain rfl : d2 = none := hd2
  obtain rfl : dt2 = .seq its2.toArray n2 := hdt2
  have q1 := r2.length
  have hsz : its.toArray.size + its2.toArray.size ≤ sizeLine := by rw [List.size_toArray, List.size_toArray]; omega
  have hlong : ¬ (!its.toArray.isEmpty && Builtin.List.listTooLong (its.toArray.size + its2.toArray.size)) = true := by
    rw [notLongL hsz, Bool.and_false]
    exact Bool.false_ne_true
  refine call_meets PySem.F.slot_list_extend ⟨_, e, rfl⟩ PySem.F.entry_list_extend (PySem.F.args_list_extend_2 _ _) (meets_ext l its.toArray n b its2.toArray n2 sl2 hlong (by rw [List.size_toArray]; omega) (by omega)) ⟨e, e2, ?_⟩
  refine ⟨.non, _, I.lset (its' := its ++ its2) hH e (by simp) (r.append r2) ?_, rfl, q⟩
  simp only [List.length_append]
  omega
end
def extV (w : List Sh) (i : Nat) (f : EF) : SF := fun ρ => lsAt ρ i fun ds => runR (f (hidA w ρ)) ρ fun d => match d with
  | .list es => if ds.length + es.length ≤ 1000000 then .nx (ρ.set i (some (.list (ds ++ es)))) else .bad
  | _ => .bad
section
variable {X : Cx} {Er : ErT} {s0 : Sh} {wl w : List Sh} {te : TE} {K : PySem.W.Frag} {pos : Pos}
theorem d_extV {i : Nat} {x : Str} {e : Expr} {p1 p2 p3 : Pos} {fe : EF} (hi : sh w i = .ls) (hN : X.N[i]? = some x) (hv : Vis X.env.scope x) (h : DE X Er e te fe) (hps : PS X (.Expr (.Call (.Attribute (.Name x p1) "extend" p2) [e] [] p3) pos) (tDrop (tBM X.K "list" (rExtV X.K) (tVar i) (tCons te tNil)))) (hw : sh w 0 = s0 := by rfl) :
    D1 X Er s0 wl w (.Expr (.Call (.Attribute (.Name x p1) "extend" p2) [e] [] p3) pos) w (tDrop (tBM X.K "list" (rExtV X.K) (tVar i) (tCons te tNil))) (extV w i fe) := by
  refine ⟨hps, fun fr F H σ ρ Dn st p => ?_⟩
  obtain ⟨a, vs, ds, e1, q1, q2, q3, q4, p⟩ := lsAt_post hi st p
  refine ⟨_, q1, .inl ⟨rfl, _, SqL.of q2⟩, runA (te := te) hw h.rd st p fun d v F1 H1 s1 st1 dv p1 => ?_⟩
  obtain ⟨vs1, z1, z2, z3⟩ := ls_again hi st1 e1 q1
  cases dv with
  | lst h1 h2 =>
    rename_i b us es
    by_cases hl : ds.length + es.length ≤ 1000000
    · simp only [if_pos hl] at p1
      refine ⟨a, b, vs1, us, rfl, rfl, z1, same_seqL st1.fh.s h1, sz_of (by rw [dpAll_len z2, dpAll_len h2]; exact hl), ?_⟩
      exact p1 _ F1 _ (same_refl _) (z3 _ _ (dpAll_app z2 h2))
    · simp only [if_neg hl] at p1
      exact p1.elim
  | _ => exact p1.elim
theorem s_extV (i : Nat) {x : Str} {e : Expr} {p1 p2 p3 : Pos} {fe : EF} (h : DE X Er e te fe) (hi : sh w i = .ls := by rfl) (hN : X.N[i]? = some x := by rfl) (hv : Vis X.env.scope x := by first | exact Or.inl rfl | exact Or.inr (Or.inl rfl) | exact Or.inr (Or.inr rfl)) (hw : sh w 0 = s0 := by rfl)
    (hs : swapsWith (.Call (.Attribute (.Name x p1) "extend" p2) [e] [] p3) none pos.line X.env = pure false := by rfl) (hbase : attributeBase (.Name x p1) "extend" X.env (eval (.Name x p1) X.env) = eval (.Name x p1) X.env := by rfl)
    (hfew : ((backTo p3 (starEach [e] X.env)).all (fun x => !x.1) && (backToKw p3 (keywordEach [] X.env)).all (fun x => x.1.isSome) && decide ([e].length + ([] : List Keyword).length + (if ([] : List Keyword).isEmpty then 0 else 1) < 30)) = true := by rfl)
    (hline : (p2.endLine == p3.line) = true := by rfl) (hst : starEach [e] X.env = (false, eval e X.env) :: starEach [] X.env := by rfl) (hplain : (backTo p3 (starEach [] X.env)).any (·.1) = false := by rfl)
    (hd : (x == ("__debug__" : Str)) = false := by decide) (hcd : (x == ("__classdict__" : Str)) = false := by decide) :
    D1 X Er s0 wl w (.Expr (.Call (.Attribute (.Name x p1) "extend" p2) [e] [] p3) pos) w (tDrop (tBM X.K "list" (rExtV X.K) (tVar i) (tCons te tNil))) (extV w i fe) :=
  d_extV hi hN hv h (ps_expr (pe_bm PySem.F.plainAttrs_list PySem.F.slot_list_extend PySem.F.type_list_extend mt_extV (pe_var hN hv hd hcd) (pa_cons h.pe pa_nil hst) hbase hfew hline hst hplain) hs) hw
end

/-! ### xs[::-1], t[::-1] -/
section
variable {prog : Program} {w : World} {A : Around} {E : Value → Shared → Prop} {s : Shared}
theorem adjust_neg (n : Nat) : Builtin.Slice.sliceAdjust none none (-1) (n : Int) = ((n : Int) - 1, -1) := rfl
theorem places_neg (n : Nat) : Builtin.Slice.slicePlaces ((n : Int) - 1) (-1) (-1) = n := by
  unfold Builtin.Slice.slicePlaces
  rw [if_neg (by decide)]
  have e : (-(-1 : Int)) = 1 := by decide
  rw [e, Int.ediv_one]
  split <;> omega
theorem sliceApplied_neg {sl : Addr} {vl vu vs : Value} {n : Nat} {Q : Int × Int × Nat → Shared → Prop} (hs : s.heap.IsSliceOf sl vl vu vs) (pl : IsPart vl none) (pu : IsPart vu none) (ps : IsPart vs (some (-1)))
    (h : Q ((n : Int) - 1, -1, n) s) : wpAny (model prog w) A (Builtin.Slice.sliceApplied (.ref sl) (pure (n : Int))) Q E s := by
  obtain ⟨os, hos, hcs, hds⟩ := id hs
  unfold Builtin.Slice.sliceApplied Builtin.Slice.sliceFields
  refine wpAny_bind (wpAny_bind (wpAny_field hos hds (x := vl) rfl (wpAny_bind (wpAny_field hos hds (x := vu) rfl (wpAny_bind (wpAny_field hos hds (x := vs) rfl (wpAny_pure ?_)))))))
  refine wpAny_bind (slicePart_ ps ?_)
  show wpAny _ _ (if ((-1 : Int) == 0) = true then _ else _) _ _ s
  rw [if_neg (by decide)]
  refine wpAny_bind (slicePart_ pl (wpAny_bind (slicePart_ pu (wpAny_bind (wpAny_pure ?_)))))
  show wpAny _ _ (match Builtin.Slice.sliceAdjust none none (-1) (n : Int) with | (lo, hi) => pure (lo, (-1 : Int), Builtin.Slice.slicePlaces lo hi (-1))) _ _ s
  rw [adjust_neg n]
  show wpAny _ _ (pure ((n : Int) - 1, (-1 : Int), Builtin.Slice.slicePlaces ((n : Int) - 1) (-1) (-1))) _ _ s
  rw [places_neg]
  exact wpAny_pure h
theorem fm_all {α : Type} : ∀ l : List α, (List.range l.length).filterMap (fun m => l[m]?) = l
  | [] => rfl
  | x :: l => by
    rw [List.length_cons, List.range_succ_eq_map, List.filterMap_cons]
    simp only [List.getElem?_cons_zero, List.filterMap_map]
    congr 1
    exact fm_all l
theorem fm_congr {α β : Type} {f g : α → Option β} : ∀ {l : List α}, (∀ x ∈ l, f x = g x) → l.filterMap f = l.filterMap g
  | [], _ => rfl
  | x :: l, h => by
    rw [List.filterMap_cons, List.filterMap_cons, h x List.mem_cons_self, fm_congr fun y hy => h y (List.mem_cons_of_mem _ hy)]
theorem pick_neg (xs : Array Value) : ((List.range xs.size).filterMap fun (m : Nat) => xs[((xs.size : Int) - 1 + (m : Int) * (-1)).toNat]?).toArray = xs.toList.reverse.toArray := by
  congr 1
  have e : ∀ m ∈ List.range xs.size, xs[((xs.size : Int) - 1 + (m : Int) * (-1)).toNat]? = xs.toList.reverse[m]? := fun m hm => by
    have hm := List.mem_range.mp hm
    rw [List.getElem?_reverse (by simpa using hm), Array.getElem?_toList, Array.length_toList]
    congr 1
    omega
  rw [fm_congr e]
  have := fm_all xs.toList.reverse
  rw [List.length_reverse, Array.length_toList] at this
  exact this
theorem getItem_tuple_rev {t sl : Addr} {items : Array Value} {vl vu vs : Value} {Q : Value → Shared → Prop} (ht : IsTup s.heap t items) (hs : s.heap.IsSliceOf sl vl vu vs) (pl : IsPart vl none) (pu : IsPart vu none) (ps : IsPart vs (some (-1)))
    (h : Q (.ref s.heap.objs.size) { s with heap := s.heap.push { cls := .type "tuple", data := .seq items.toList.reverse.toArray } })
    (hsz : items.size ≤ sizeLine) : wpAny (model prog w) A (getItem (.ref t) (.ref sl)) Q E s := by
  have htake : sizeOk (.seq items.toList.reverse.toArray) := by
    show items.toList.reverse.toArray.size ≤ sizeLine
    rw [List.size_toArray, List.length_reverse, Array.length_toList]
    exact hsz
  obtain ⟨os, hos, hcs, hds⟩ := id hs
  have hTs : s.TypeIs (.ref sl) "slice" := ⟨os, hos, hcs⟩
  unfold getItem
  try with_reducible refine wpAny_holding ?_
  first | refine wpAny_bind (wpAny_pure ?_) | skip
  refine wpAny_bind (wpAny_sequenceKey ht.typeIs (by decide) ?_)
  refine wpAny_bind (wpAny_callSpecial?_slot (name := Str.ofString "__getitem__") ht.typeIs PyProof.Rows.slot_tuple_getitem
    (wpAny_call_entry PyProof.Rows.slot_tuple_getitem ht.typeIs entry_tuple_getitem ?_ (args_tuple_getitem _ _)))
  show wpAny _ _ (Builtin.Tuple.tupleItemsOf (.ref t) >>= _) _ _ s
  refine wpAny_bind (tupleItemsOf_ ht ?_)
  refine wpAny_bind (wpAny_typeOf hTs ?_)
  rw [if_pos (by decide)]
  refine wpAny_bind (sliceApplied_neg hs pl pu ps ?_)
  have hno : ¬ (((items.size : Int) - 1 == 0 && (-1 : Int) == 1 && items.size == items.size) = true) := by
    intro q
    rw [Bool.and_eq_true, Bool.and_eq_true] at q
    exact absurd q.1.2 (by decide)
  show wpAny _ _ (if ((items.size : Int) - 1 == 0 && (-1 : Int) == 1 && items.size == items.size) = true then _ else _) _ _ s
  rw [if_neg hno, pick_neg]
  first
    | exact wpAny_bind (m := Builtin.Tuple.tupleExact _) (wpAny_newObj_type (wpAny_pure ⟨_, rfl, wpAny_pure h⟩) htake)
    | exact wpAny_bind (m := Builtin.Tuple.tupleExact _) (wpAny_newObj_type (wpAny_bind (wpAny_pure (wpAny_pure ⟨_, rfl, wpAny_pure h⟩))) htake)
    | exact wpAny_bind (wpAny_bind (m := Builtin.Tuple.tupleExact _) (wpAny_newObj_type (wpAny_pure (wpAny_pure ⟨_, rfl, wpAny_pure h⟩)) htake))
    | exact wpAny_bind (wpAny_bind (m := Builtin.Tuple.tupleExact _) (wpAny_newObj_type (wpAny_pure ⟨_, rfl, wpAny_pure h⟩) htake))
end
section
variable {X : Cx} {Er : ErT} {te : TE} {K : PySem.W.Frag}
/-- a list or a tuple turned about -/
def tRevA (K : PySem.W.Frag) (te : TE) : TE := fun σ H Q => te σ H fun x H1 => ∃ a xs, x = .ref a ∧ ((SqL K H1 a xs ∧ ∀ p, H1 p = none → Q (.ref p) (upd H1 p (.lst xs.reverse))) ∨ (SqT K H1 a xs ∧ ∀ p, H1 p = none → Q (.ref p) (upd H1 p (.tup xs.reverse))))
theorem pe_revA {e : Expr} {k : Nat} {p1 p2 p3 pos : Pos} (he : PE X e te) : PE X (.Subscript e (.Slice none none (some (.UnaryOp .USub (.Constant (.int 1) k p1) p2)) p3) pos) (tRevA X.K te) := by
  refine ⟨fun pins s σ H Q I h => ?_⟩
  refine Subscript_ (thn (he.run pins s σ H _ I h) fun v s1 ⟨x, H1, I1, r1, q1⟩ => ?_)
  obtain ⟨a, xs, ex, q⟩ := q1
  subst ex
  cases r1
  have hst : PO X (some (.UnaryOp .USub (.Constant (.int 1) k p1) p2)) (tPart (tUn (rU fun i => .int (-i)) (tC (.int 1)))) := po_some (pe_un un_neg pe_int)
  refine wpAny_Slice (thn (po_none.run pins s1 σ H1 (fun o H2 => o = none ∧ H2 = H1) I1 ⟨rfl, rfl⟩) fun vl s2 ⟨l, H2, I2, pl, el, e2⟩ => ?_)
  subst el e2
  refine thn (po_none.run pins s2 σ H2 (fun o H3 => o = none ∧ H3 = H2) I2 ⟨rfl, rfl⟩) fun vu s3 ⟨u, H3, I3, pu, eu, e3⟩ => ?_
  subst eu e3
  refine thn (hst.run pins s3 σ H3 (fun o H4 => o = some (-1) ∧ H4 = H3) I3 ⟨1, rfl, -1, rfl, rfl, rfl⟩) fun vs s4 ⟨o, H4, I4, ps, eo, e4⟩ => ?_
  subst eo e4
  have I5 : Inv X pins σ H4 { s4 with heap := s4.heap.push { cls := .type "slice", data := .fields #[vl, vu, vs] } } := I4.kept (t' := s4.toks) fun b ob q => Heap.get?_push_of_some _ q
  show wpAny (model X.prog X.w) X.A (subscriptTail e (.Slice none none (some (.UnaryOp .USub (.Constant (.int 1) k p1) p2)) p3) (.ref a) (.ref s4.heap.objs.size)) (EP X pins σ Q) X.xe { s4 with heap := s4.heap.push { cls := .type "slice", data := .fields #[vl, vu, vs] } }
  rcases q with ⟨hx, q⟩ | ⟨hx, q⟩
  · obtain ⟨its, r, ht, hz⟩ := I5.list hx
    have hlen := r.length
    refine tail_any (ops := [.ref a, .ref s4.heap.objs.size]) ht.isList.typeIs (PySem.slot_list_getitem.lookup) ?_ (by with_unfolding_all rfl)
    refine wpAny_getItem_list_slice ht.isList (Heap.IsSliceOf.new _ vl vu vs) pl pu ps (by decide) ?_ (by rw [List.size_toArray]; omega)
    rw [PySem.W.krv_pick]
    refine ⟨.ref _, _, I5.laid (t' := s4.toks) (o := .lst xs.reverse) (fun b ob q => Heap.get?_push_of_some _ q) (Nat.le_refl _) ?_, rfl, q _ (I5.hok.fresh (Nat.le_refl _))⟩
    exact ⟨by rw [List.length_reverse]; exact hz, _, 0, r.reverse, Heap.get?_push_size _ rfl⟩
  · obtain ⟨its, r, ht, hz⟩ := I5.tuple hx
    have hlen := r.length
    refine tail_any (ops := [.ref a, .ref s4.heap.objs.size]) ht.typeIs (PyProof.Rows.slot_tuple_getitem.lookup) ?_ (by with_unfolding_all rfl)
    refine getItem_tuple_rev ht (Heap.IsSliceOf.new _ vl vu vs) pl pu ps ?_ (by rw [List.size_toArray]; omega)
    refine ⟨.ref _, _, I5.laid (t' := s4.toks) (o := .tup xs.reverse) (fun b ob q => Heap.get?_push_of_some _ q) (Nat.le_refl _) ?_, rfl, q _ (I5.hok.fresh (Nat.le_refl _))⟩
    exact ⟨by rw [List.length_reverse]; exact hz, _, r.reverse, IsTup.new _ _⟩
def revD : D → Option D
  | .list xs => some (.list xs.reverse)
  | .tuple xs => some (.tuple xs.reverse)
  | _ => none
theorem de_rev {e : Expr} {k : Nat} {p1 p2 p3 pos : Pos} {f : EF} (h : DE X Er e te f) : DE X Er (.Subscript e (.Slice none none (some (.UnaryOp .USub (.Constant (.int 1) k p1) p2)) p3) pos) (tRevA X.K te) (op1E revD f) := by
  refine ⟨pe_revA h.pe, fun F H σ ρ Q s st p => ?_⟩
  refine h.rd F H σ ρ _ s st (Post.imp (Post.bind p) fun F1 H1 d g1 p1 v dv => ?_)
  unfold oE at p1
  cases dv with
  | lst h1 h2 =>
    refine ⟨_, _, rfl, .inl ⟨same_seqL g1.fh.s h1, fun p hp => ?_⟩⟩
    exact Post.done p1 (Grow.new g1.fh hp) _ (.lst (.inl (.inl upd_same)) (dpAll_mono (Grow.new g1.fh hp).ff _ _ (dpAll_rev h2)))
  | tup h1 h2 =>
    refine ⟨_, _, rfl, .inr ⟨same_seqT g1.fh.s h1, fun p hp => ?_⟩⟩
    exact Post.done p1 (Grow.new g1.fh hp) _ (.tup (.inl (.inl upd_same)) (dpAll_mono (Grow.new g1.fh hp).ff _ _ (dpAll_rev h2)))
  | _ => exact p1.elim
theorem krev (K : PySem.W.Frag) {e : Expr} {k : Nat} {p1 p2 p3 pos : Pos} {f : EF} (h : DE X Er e te f) (hK : X.K = K := by rfl) : DE X Er (.Subscript e (.Slice none none (some (.UnaryOp .USub (.Constant (.int 1) k p1) p2)) p3) pos) (tRevA K te) (op1E revD f) := by subst hK; exact de_rev h
theorem kint (K : PySem.W.Frag) : CallR X (.type "int") rInt1 := call_int1
theorem kabs (K : PySem.W.Frag) : CallR X (.builtin "abs") rAbs1 := call_abs
theorem kmin2 (K : PySem.W.Frag) (hc : X.calm = true := by rfl) : CallR X (.builtin "min") rMin2 := call_min2 hc
end
end DL

set_option maxHeartbeats 1000000
/-! DL8: own exceptions raised. -/
namespace DL
open PySem PySem.Spec L2
open PyProof.Rows hiding St
variable [Mem]
/-- a class over ValueError (at any distance), as it stands behind the top -/
structure ExI (K : PySem.W.Frag) (mg : Str → Option Value) (x : Str) where
  C : Addr
  g : mg x = some (.ref C)
  q : PySem.W.excIn K C [.type "ValueError", .type "Exception", .type "BaseException", .type "object"] "ValueError.__new__" = true
  k : PySem.W.keepIn K (.ref C) = true
  b : PySem.W.subIn K (.ref C) (.type "BaseException") = some true
  t : PySem.W.typeIn K (.ref C) = some (.type "type")
section
variable {X : Cx} {K : PySem.W.Frag} {mg : Str → Option Value} {x m : Str} {j : Nat} {p p2 pos : Pos}
theorem ExI.mk' (T : ExI K mg x) (hg : Gl X x) (hK : X.K = K := by rfl) (hG : X.mg = mg := by rfl) (hdb : (x == ("__debug__" : Str)) = false := by decide) :
    PMk X (.Call (.Name x p) [.Constant (.str m) j p2] [] pos) (fun _ H Q => Q (.ref T.C) none H) := by
  subst hK
  subst hG
  exact pmk_own PySem.F.excBase_ValueError T.q T.g T.k (raises_own T.b T.t) hg hdb
end
end DL

set_option maxHeartbeats 1000000
/-! DL9: dicts of whole numbers: grown by a tally, then read. -/
namespace DL
open PySem PySem.Spec L2
open PyProof.Rows hiding St
variable [Mem]
def dcO : Own := ⟨fun _ v _ o d => ∃ (a : Addr) (kvs : List (Int × Int)), v = .ref a ∧ d = IntDic kvs ∧ o = upd emp a (kvO kvs), fun h _ => h⟩
section
variable {K : PySem.W.Frag} {fr : Fr} {w : List Sh} {F H F' H' : Hp} {σ : St} {ρ : Env}
theorem SR.set_dc {i : Nat} {p : Addr} {kvs : List (Int × Int)} (h : SR K fr w F H σ ρ) (hp : H p = none) (hi : i < w.length) : SR K fr (w.set i (.ob dcO)) F (upd H p (kvO kvs)) (σ.set i (some (.ref p))) (ρ.set i (some (IntDic kvs))) := by
  obtain ⟨os, s⟩ := h
  have nH : ∀ {A : Hp}, Same A H → A p = none := fun {A} sa => none_of_same sa hp
  have sH : Same H (upd H p (kvO kvs)) := same_upd hp
  refine ⟨fun j => if j = i then upd emp p (kvO kvs) else os j, s.fh.upd hp, sameM_trans s.gh (sameM_of sH), s.f0, s.nw, fun j => ?_, fun j a h1 => ?_, fun j e q => ?_, by simpa using s.len, fun j a h1 => by
    by_cases hj : j = i
    · rw [if_pos hj] at h1
      have ha : a = p := by
        by_cases ha : a = p
        · exact ha
        · rw [upd_ne ha] at h1; exact absurd rfl h1
      subst ha
      exact s.fh.no hp
    · rw [if_neg hj] at h1; exact s.om j a h1⟩
  · by_cases hj : j = i
    · rw [if_pos hj]
      intro a o z
      by_cases ha : a = p
      · subst ha; rw [upd_same] at z ⊢; exact z
      · rw [upd_ne ha] at z; cases z
    · rw [if_neg hj]; exact same_trans (s.oh j) sH
  · by_cases hj : j = i
    · rw [if_pos hj] at h1
      have ha : a = p := by
        by_cases ha : a = p
        · exact ha
        · rw [upd_ne ha] at h1; exact absurd rfl h1
      subst ha
      refine ⟨nH s.fh.s, none_of_sameM s.gh s.fh hp, fun k hk => ?_⟩
      rw [if_neg (fun z => hk (z.trans hj.symm))]
      exact nH (s.oh k)
    · rw [if_neg hj] at h1
      obtain ⟨q1, q2, q3⟩ := s.ow j a h1
      refine ⟨q1, q2, fun k hk => ?_⟩
      by_cases hki : k = i
      · rw [if_pos hki]
        have ha : a ≠ p := fun z => h1 (by rw [z]; exact nH (s.oh j))
        rw [upd_ne ha]; rfl
      · rw [if_neg hki]; exact q3 k hk
  · rcases env_set q with ⟨rfl, rfl, hv⟩ | ⟨ne, q⟩
    · refine ⟨.ref p, by rw [List.getElem?_set_self (by rw [← s.len]; exact hv)], ?_⟩
      rw [sh_set_self hi, if_pos rfl]
      exact ⟨p, kvs, rfl, rfl, rfl⟩
    · rw [List.getElem?_set_ne ne, sh_set_ne ne, if_neg (Ne.symm ne)]
      exact s.sl j e q
/-- the dict that slot i owns -/
theorem SR.get_dc {i : Nat} {d : D} (h : SR K fr w F H σ ρ) (hw : sh w i = .ob dcO) (e : ρ[i]? = some (some d)) : ∃ a kvs, σ[i]? = some (some (.ref a)) ∧ d = IntDic kvs ∧ H a = some (kvO kvs) ∧
    (∀ kvs', SR K fr w F (upd H a (kvO kvs')) σ (ρ.set i (some (IntDic kvs')))) ∧ SR K fr (w.set i .fz) (upd F a (kvO kvs)) H σ ρ ∧ Same F (upd F a (kvO kvs)) := by
  obtain ⟨os, s⟩ := h
  obtain ⟨v, e1, hh⟩ := s.sl i d e
  rw [hw] at hh
  obtain ⟨a, kvs, rfl, rfl, eo⟩ := hh
  have ho : os i a = some (kvO kvs) := by rw [eo, upd_same]
  have hH : H a = some (kvO kvs) := s.oh i a _ ho
  obtain ⟨na, ng, no⟩ := s.ow i a (by rw [ho]; simp)
  have nM : ¬ Mem.is a := s.om i a (by rw [ho]; simp)
  have nMb : ∀ b, Mem.is b → b ≠ a := fun b z h => nM (h ▸ z)
  have hil : i < ρ.length := by
    rcases Nat.lt_or_ge i ρ.length with z | z
    · exact z
    · rw [List.getElem?_eq_none z] at e; cases e
  refine ⟨a, kvs, e1, rfl, hH, fun kvs' => ?_, ?_, same_upd na⟩
  · have up : ∀ {A : Hp}, Same A H → A a = none → Same A (upd H a (kvO kvs')) := fun {A} sa n b o z => by
      rw [upd_ne (ne_of_none z n)]; exact sa b o z
    refine ⟨fun j => if j = i then upd emp a (kvO kvs') else os j, ⟨up s.fh.s na, fun b z => by
      obtain ⟨e1, u, e2, e3⟩ := s.fh.m b z
      exact ⟨e1, u, by rw [upd_ne (nMb b z)]; exact e2, e3⟩⟩, fun b o nb z => by rw [upd_ne (ne_of_none z ng)]; exact s.gh b o nb z, s.f0, s.nw, fun j => ?_, fun j b h1 => ?_, fun j e' q => ?_, by simpa using s.len, fun j b h1 => by
      by_cases hj : j = i
      · rw [if_pos hj] at h1
        have hb : b = a := by
          by_cases hb : b = a
          · exact hb
          · rw [upd_ne hb] at h1; exact absurd rfl h1
        subst hb
        exact nM
      · rw [if_neg hj] at h1; exact s.om j b h1⟩
    · by_cases hj : j = i
      · rw [if_pos hj]
        intro b o z
        by_cases hb : b = a
        · subst hb; rw [upd_same] at z ⊢; exact z
        · rw [upd_ne hb] at z; cases z
      · rw [if_neg hj]; exact up (s.oh j) (no j hj)
    · by_cases hj : j = i
      · rw [if_pos hj] at h1
        have hb : b = a := by
          by_cases hb : b = a
          · exact hb
          · rw [upd_ne hb] at h1; exact absurd rfl h1
        subst hb
        exact ⟨na, ng, fun k hk => by rw [if_neg (fun z => hk (z.trans hj.symm))]; exact no k (fun z => hk (z.trans hj.symm))⟩
      · rw [if_neg hj] at h1
        obtain ⟨q1, q2, q3⟩ := s.ow j b h1
        refine ⟨q1, q2, fun k hk => ?_⟩
        by_cases hki : k = i
        · rw [if_pos hki]
          have hb : b ≠ a := fun z => h1 (by rw [z]; exact no j hj)
          rw [upd_ne hb]; rfl
        · rw [if_neg hki]; exact q3 k hk
    · rcases env_set q with ⟨rfl, rfl, hv⟩ | ⟨ne, q⟩
      · refine ⟨.ref a, e1, ?_⟩
        rw [hw, if_pos rfl]
        exact ⟨a, kvs', rfl, rfl, rfl⟩
      · rw [if_neg (Ne.symm ne)]
        exact s.sl j e' q
  · have sF : Same F (upd F a (kvO kvs)) := same_upd na
    refine ⟨fun j => if j = i then emp else os j, ⟨?_, fun b z => by
      obtain ⟨e1, u, e2, e3⟩ := s.fh.m b z
      exact ⟨by rw [upd_ne (nMb b z)]; exact e1, u, e2, Mem.mono e3 sF⟩⟩, s.gh, same_trans s.f0 sF, fun b h1 h2 => ?_, fun j => ?_, fun j b h1 => ?_, fun j e' q => ?_, s.len, fun j b h1 => s.om j b (by
    by_cases hj : j = i
    · rw [if_pos hj] at h1; exact absurd rfl h1
    · rw [if_neg hj] at h1; exact h1)⟩
    · intro b o z
      by_cases hb : b = a
      · subst hb; rw [upd_same] at z; rw [← z]; exact hH
      · rw [upd_ne hb] at z; exact s.fh.s b o z
    · by_cases hb : b = a
      · subst hb; exact absurd ng h2
      · rw [upd_ne hb] at h1; exact s.nw b h1 h2
    · by_cases hj : j = i
      · rw [if_pos hj]; intro b o z; cases z
      · rw [if_neg hj]; exact s.oh j
    · by_cases hj : j = i
      · rw [if_pos hj] at h1; exact absurd rfl h1
      · rw [if_neg hj] at h1
        obtain ⟨q1, q2, q3⟩ := s.ow j b h1
        have hb : b ≠ a := fun z => h1 (by rw [z]; exact no j hj)
        refine ⟨by rw [upd_ne hb]; exact q1, q2, fun k hk => ?_⟩
        by_cases hki : k = i
        · rw [if_pos hki]; rfl
        · rw [if_neg hki]; exact q3 k hk
    · by_cases hj : i = j
      · subst hj
        rw [e] at q
        cases q
        exact ⟨.ref a, e1, by rw [sh_set_fz]; exact .inr (.inl ⟨a, kvs, rfl, rfl, upd_same⟩)⟩
      · rw [sh_set_ne hj, if_neg (Ne.symm hj)]
        obtain ⟨v, q1, q2⟩ := s.sl j e' q
        exact ⟨v, q1, q2.mono sF⟩
theorem SR.freezeD {i : Nat} (h : SR K fr w F H σ ρ) (hw : sh w i = .ob dcO) : ∃ F', Same F F' ∧ SR K fr (w.set i .fz) F' H σ ρ := by
  have none' : (∀ d, ρ[i]? ≠ some (some d)) → ∃ F', Same F F' ∧ SR K fr (w.set i .fz) F' H σ ρ := fun hn => by
    obtain ⟨os, s⟩ := h
    refine ⟨F, same_refl _, os, s.fh, s.gh, s.f0, s.nw, s.oh, s.ow, fun j d q => ?_, s.len, s.om⟩
    have hj : i ≠ j := fun z => by subst z; exact hn d q
    rw [sh_set_ne hj]
    exact s.sl j d q
  cases e : ρ[i]? with
  | none => exact none' fun d z => by rw [e] at z; cases z
  | some o =>
    cases o with
    | none => exact none' fun d z => by rw [e] at z; cases z
    | some d =>
      obtain ⟨a, kvs, _, _, _, _, q, sf⟩ := h.get_dc hw e
      exact ⟨_, sf, q⟩
end
/-! ### the numbers of a dict -/
def getI (kvs : List (Int × Int)) (k : Int) : Option Int := (kvs.find? fun p => decide (p.1 = k)).map (·.2)
def putI (kvs : List (Int × Int)) (k v : Int) : List (Int × Int) := if (kvs.any fun p => decide (p.1 = k)) = true then kvs.map (fun p => if p.1 = k then (p.1, v) else p) else kvs ++ [(k, v)]
abbrev kvM (kvs : List (Int × Int)) : List (Key × V) := kvs.map fun p => (Sum.inl p.1, V.int p.2)
theorem valV_kv (k : Int) : ∀ kvs : List (Int × Int), valV (kvM kvs) (Sum.inl k) = (getI kvs k).map V.int
  | [] => rfl
  | p :: r => by
    by_cases h : p.1 = k
    · rw [show kvM (p :: r) = (Sum.inl p.1, V.int p.2) :: kvM r from rfl, valV_pos (by rw [h])]
      simp [getI, h]
    · rw [show kvM (p :: r) = (Sum.inl p.1, V.int p.2) :: kvM r from rfl, valV_neg (fun z => h (by cases z; rfl)), valV_kv k r]
      simp [getI, h]
theorem putK_kv (k v : Int) (kvs : List (Int × Int)) : putK (kvM kvs) (Sum.inl k) (V.int v) = kvM (putI kvs k v) := by
  unfold putK putI kvM
  have e1 : ((kvs.map fun p => ((Sum.inl p.1 : Key), V.int p.2)).any fun kv => decide (kv.1 = Sum.inl k)) = kvs.any fun p => decide (p.1 = k) := by
    rw [List.any_map]
    congr 1
    funext p
    simp
  rw [e1]
  split
  · simp only [List.map_map]
    refine List.map_congr_left fun p _ => ?_
    simp only [Function.comp]
    by_cases h : p.1 = k
    · simp [h]
    · simp [h]
  · simp
def kvsOf : List (D × D) → Option (List (Int × Int))
  | [] => some []
  | (.int k, .int v) :: r => (kvsOf r).map ((k, v) :: ·)
  | _ => none
theorem kvsOf_map (kvs : List (Int × Int)) : kvsOf (kvs.map fun p => (.int p.1, .int p.2)) = some kvs := by
  induction kvs with
  | nil => rfl
  | cons p r ih => simp [kvsOf, ih]
def dcOf : D → Option (List (Int × Int))
  | .dict ds => kvsOf ds
  | _ => none
theorem dcOf_dic (kvs : List (Int × Int)) : dcOf (IntDic kvs) = some kvs := kvsOf_map kvs
theorem kvsOf_inv : ∀ {ds : List (D × D)} {kvs : List (Int × Int)}, kvsOf ds = some kvs → ds = kvs.map fun p => (.int p.1, .int p.2) := fun {ds} => by
  induction ds with
  | nil => intro kvs h; cases h; rfl
  | cons p ds ih =>
    intro kvs h
    obtain ⟨k, v⟩ := p
    cases k with
    | int k =>
      cases v with
      | int v =>
        have h : (kvsOf ds).map ((k, v) :: ·) = some kvs := h
        cases e : kvsOf ds with
        | none => rw [e] at h; cases h
        | some l => rw [e] at h; cases h; simp [ih e]
      | _ => cases h
    | _ => cases h
theorem dcOf_of {d : D} {kvs : List (Int × Int)} (h : dcOf d = some kvs) : d = IntDic kvs := by
  cases d with
  | dict ds => unfold IntDic; rw [← kvsOf_inv (show kvsOf ds = some kvs from h)]
  | _ => cases h
theorem dcOf_eq {d : D} {kvs kvs2 : List (Int × Int)} (e : d = IntDic kvs) (h : dcOf d = some kvs2) : kvs2 = kvs := by
  subst e
  rw [dcOf_dic] at h
  cases h
  rfl
theorem r1 {k : Nat} {A : Around} (r : Room k A) : A.units + 1 < cLine := by have := r.units; omega
/-! ### x = {} -/
def newD (i : Nat) : SF := fun ρ => .nx (ρ.set i (some (IntDic [])))
/-- x[k] = x.get(k, 0) + e, k in slot j -/
def talO (ρ : Env) (i : Nat) (kvs : List (Int × Int)) (k : Int) (d : D) : Out := match intD d with
  | some m => if kvs.length < 1000000 then .nx (ρ.set i (some (IntDic (putI kvs k ((getI kvs k).getD 0 + m))))) else .bad
  | none => .bad
def talK (k : D) (g : Int → Out) : Out := match intD k with
  | some k => g k
  | none => .bad
def atSlot (ρ : Env) (i : Nat) (k : D → Out) : Out := match ρ[i]? with
  | some (some d) => k d
  | _ => .bad
def talD (ρ : Env) (d : D) (k : List (Int × Int) → Out) : Out := match dcOf d with
  | some kvs => k kvs
  | none => .bad
def talS (w : List Sh) (i j : Nat) (fe : EF) : SF := fun ρ => atSlot ρ i fun d => talD ρ d fun kvs => runR (vE j (hidA w ρ)) ρ fun k => talK k fun k => runR (fe (hidA w ρ)) ρ fun m => talO ρ i kvs k m
section
variable {X : Cx} {Er : ErT} {s0 : Sh} {wl w w' : List Sh} {t : TS} {f : SF} {te : TE} {K : PySem.W.Frag} {pos : Pos} {sts : List Stmt}
theorem ds_frzD (i : Nat) (hi : sh w i = .ob dcO) (h : DS X Er s0 wl (w.set i .fz) sts w' t f) : DS X Er s0 wl w sts w' t f := by
  refine ⟨h.ps, fun fr F H σ ρ Dn st p => ?_⟩
  obtain ⟨F', s, st'⟩ := st.freezeD hi
  exact h.rd fr F' H σ ρ Dn st' (PostS.mono p s)
theorem d_newD (i : Nat) {x : Str} {pos' p2 : Pos} (hN : X.N.Nodup) (hi : X.N[i]? = some x := by rfl) (hx : Loc X.env.scope x := by first | exact Or.inl rfl | exact Or.inr rfl) (hl : i < w.length := by decide) (hs : swapsWith (.Dict [] [] p2) (some (.Name x pos')) pos.line X.env = pure false := by rfl)
    (hf : X.fn x = true ∨ X.env.scope.names.lookup x = some .local := by first | exact .inl rfl | exact .inr rfl | assumption) : D1 X Er s0 wl w (.Assign [.Name x pos'] (.Dict [] [] p2) pos) (w.set i (.ob dcO)) (tAsg tDNewK (gName i)) (newD i) := by
  refine ⟨ps_set hN hi hx pe_dnewK hs hf, fun fr F H σ ρ Dn st p => ?_⟩
  intro q hq
  exact p _ F _ (same_refl _) (st.set_dc (kvs := []) hq hl)
theorem d_tal (i j : Nat) {x y : Str} {e : Expr} {p1 p2 p3 p4 p5 p6 p7 p8 p9 : Pos} {j0 : Nat} {fe : EF} (hu : X.A.units + 1 < cLine) (h : DE X Er e te fe) (hi : sh w i = .ob dcO := by rfl) (hw : sh w 0 = s0 := by rfl) (hN : X.N[i]? = some x := by rfl) (hv : Vis X.env.scope x := by first | exact Or.inl rfl | exact Or.inr (Or.inl rfl) | exact Or.inr (Or.inr rfl))
    (hN2 : X.N[j]? = some y := by rfl) (hv2 : Vis X.env.scope y := by first | exact Or.inl rfl | exact Or.inr (Or.inl rfl) | exact Or.inr (Or.inr rfl))
    (hd : (x == ("__debug__" : Str)) = false := by decide) (hcd : (x == ("__classdict__" : Str)) = false := by decide) (hd2 : (y == ("__debug__" : Str)) = false := by decide) (hcd2 : (y == ("__classdict__" : Str)) = false := by decide)
    (m : M2 X (.Name x p4) "get" p5 (.Name y p6) (.Constant (.int 0) j0 p7) p8 := by exact ⟨by rfl, by rfl, by rfl, by rfl⟩)
    (hs : swapsWith (.BinOp (.Call (.Attribute (.Name x p4) "get" p5) [.Name y p6, .Constant (.int 0) j0 p7] [] p8) .Add e p9) (some (.Subscript (.Name x p1) (.Name y p2) p3)) pos.line X.env = pure false := by rfl) :
    D1 X Er s0 wl w (.Assign [.Subscript (.Name x p1) (.Name y p2) p3] (.BinOp (.Call (.Attribute (.Name x p4) "get" p5) [.Name y p6, .Constant (.int 0) j0 p7] [] p8) .Add e p9) pos) w
      (sDPut (tVar i) (tVar j) (tOp (rI0 fun i j => .int (i + j)) (tDGet2 (tVar i) (tVar j) (tC (.int 0))) te)) (talS w i j fe) := by
  have px : ∀ p, PE X (.Name x p) (tVar i) := fun p => pe_var hN hv hd hcd
  have py : ∀ p, PE X (.Name y p) (tVar j) := fun p => pe_var hN2 hv2 hd2 hcd2
  refine ⟨ps_dput hu (px _) (py _) (pe_op op_add (pe_dget2 hu (px _) (py _) pe_int m) h.pe) hs, fun fr F H σ ρ Dn st p => ?_⟩
  unfold talS atSlot at p
  cases e1 : ρ[i]? with
  | none => rw [e1] at p; exact p.elim
  | some o =>
    cases o with
    | none => rw [e1] at p; exact p.elim
    | some d =>
      rw [e1] at p
      simp only [talD] at p
      cases e2 : dcOf d with
      | none => rw [e2] at p; exact p.elim
      | some kvs =>
        rw [e2] at p
        simp only at p
        obtain ⟨a, kvs', q1, q2, q3, q4, _⟩ := st.get_dc hi e1
        obtain rfl := dcOf_eq q2 e2
        have ga : ∀ {H1 : Hp}, H1 a = some (kvO kvs) → ∀ k : Int, DGet H1 a (.int k) ((getI kvs k).map V.int) := fun hh k => by
          have := DGet.k (k := (Sum.inl k : Key)) hh
          rw [valV_kv] at this
          exact this
        refine ⟨.ref a, q1, a, rfl, .inl ⟨_, .inl q3⟩, ?_⟩
        cases ej : (hidA w ρ)[j]? with
        | none =>
          simp only [vE, ej] at p
          exact p.elim
        | some oj =>
          cases oj with
          | none =>
            simp only [vE, ej] at p
            exact p.elim
          | some dj =>
            simp only [vE, ej] at p
            obtain ⟨vk, hj, dq⟩ := st.envA.sl j dj ej
            have dvk : Dp X.K F vk dj := by
              cases k : okD dj with
              | ok z => exact (dq_dp dq k).1
              | err c => exact absurd k (okD_ne dj c)
              | bad => rw [k] at p; exact p.elim
            cases dvk with
            | int k =>
              have p1 : PostS X.K fr s0 wl w F Er (runR (fe (hidA w ρ)) ρ fun m => talO ρ i kvs k m) Dn := p
              refine ⟨_, hj, _, ga q3 k, ?_⟩
              have eo : ((getI kvs k).map V.int).getD (.int 0) = .int ((getI kvs k).getD 0) := by cases getI kvs k <;> rfl
              refine runA (te := te) hw h.rd st p1 fun dm vm F2 H2 s2 st2 dvm p2 => ?_
              cases dvm with
              | int mm =>
                obtain ⟨a2, kvs2, y1, y2, y3, y4, _⟩ := st2.get_dc hi e1
                rw [q1] at y1
                cases y1
                obtain rfl := dcOf_eq y2 e2
                by_cases hl : kvs.length < 1000000
                · have p2 : PostS X.K fr s0 wl w F2 Er (.nx (ρ.set i (some (IntDic (putI kvs k ((getI kvs k).getD 0 + mm)))))) Dn := by
                    have := p2
                    simp only [talO, intD, if_pos hl] at this
                    exact this
                  refine ⟨_, mm, eo, rfl, .ref a, q1, .int k, hj, a, _, rfl, DPut.k (k := (Sum.inl k : Key)) y3 (sz_lt (by simpa using hl)), ?_⟩
                  have pk := putK_kv k ((getI kvs k).getD 0 + mm) kvs
                  unfold kvM at pk
                  rw [pk]
                  exact p2 _ F2 _ (same_refl _) (y4 _)
                · simp only [talO, intD, if_neg hl] at p2
                  exact False.elim p2
              | _ => exact p2.elim
            | sd e _ _ _ => subst e; exact p.elim
            | _ => exact p.elim
end
end DL

set_option maxHeartbeats 2000000
/-! DL10: sorted(d.items()) of a dict of whole numbers. -/
namespace DL
open PySem PySem.Spec L2
open PyProof.Rows hiding St
variable [Mem]
open SrtO (Srtd Stb lexB swo_lex list_sort_ord pairs_sortableO)
def leP (p q : Int × Int) : Bool := !lexB q p
def sortI (kvs : List (Int × Int)) : List (Int × Int) := kvs.mergeSort leP
theorem leP_iff {p q : Int × Int} : leP p q = true ↔ p.1 < q.1 ∨ (p.1 = q.1 ∧ p.2 ≤ q.2) := by
  unfold leP
  rw [Bool.not_eq_true', SrtO.lexB_no]
  omega
theorem sortI_of {out kvs : List (Int × Int)} (h1 : out.Pairwise fun x y => lexB y x = false) (h2 : out.Perm kvs) : out = sortI kvs := by
  refine List.Perm.eq_of_pairwise (le := fun x y => leP x y = true) (fun a b _ _ h3 h4 => ?_) ?_ ?_ (h2.trans (List.mergeSort_perm _ _).symm)
  · have a1 := leP_iff.mp h3
    have a2 := leP_iff.mp h4
    exact Prod.ext (by omega) (by omega)
  · exact h1.imp fun h => by unfold leP; rw [h]; rfl
  · refine List.pairwise_mergeSort (fun a b c h3 h4 => ?_) (fun a b => ?_) _
    · have a1 := leP_iff.mp h3
      have a2 := leP_iff.mp h4
      exact leP_iff.mpr (by omega)
    · rw [Bool.or_eq_true, leP_iff, leP_iff]
      omega
/-- the pair that a made tuple stands for -/
def kOf (as : List Addr) (kvs : List (Int × Int)) : Value → Int × Int
  | .ref a => kvs.getD (as.idxOf a) (0, 0)
  | _ => (0, 0)
section
variable {prog : Program} {w : World} {A : Around} {E : Value → Shared → Prop} {s : Shared}
theorem kOf_at {as : List Addr} {kvs : List (Int × Int)} (hn : as.Nodup) {j : Nat} {a : Addr} (h : as[j]? = some a) : kOf as kvs (.ref a) = kvs.getD j (0, 0) := by
  have hj := (List.getElem?_eq_some_iff.mp h).1
  have e : as[j] = a := (List.getElem?_eq_some_iff.mp h).2
  show kvs.getD (as.idxOf a) (0, 0) = _
  rw [← e, hn.idxOf_getElem j hj]
theorem kOf_map {as : List Addr} {kvs : List (Int × Int)} (hn : as.Nodup) (hl : as.length = kvs.length) : (as.map Value.ref).map (kOf as kvs) = kvs := by
  rw [List.map_map]
  apply List.ext_getElem
  · simpa using hl
  · intro j h1 h2
    have hj : j < as.length := by simpa using h1
    simp only [List.getElem_map, Function.comp]
    rw [kOf_at hn (List.getElem?_eq_getElem hj), List.getD_eq_getElem?_getD, List.getElem?_eq_getElem h2]
    rfl
/-- sorted(d.items()) -/
theorem sorted_itemsI {r d : Addr} {kvs : List (Int × Int)} {vs : List (Key × Value)} {ep : Nat} {Q : Value → Shared → Prop} (hh : A.handled = none) (hv : s.heap.IsItemsView r d) (hm : s.heap.DictAt (mixKind prog w) d vs ep) (hn : vs.length ≤ sizeLine) (hz : vs.length = kvs.length)
    (hkv : ∀ (j : Nat) (k : Key) (x : Value), vs[j]? = some (k, x) → ∃ i n t, k = Sum.inl i ∧ x = .int n t ∧ kvs[j]? = some (i, n))
    (hkey : ∀ (i : Int) (v : Value), (mixKind prog w).is (Sum.inl i) v = true → ∃ t, v = .int i t)
    (h : ∀ (h3 : Heap) (tk : Nat) (as : List Addr) (L : Addr) (out : List Value), (∀ b o, s.heap.get? b = some o → h3.get? b = some o) → as.Nodup → as.length = kvs.length → (∀ a ∈ as, s.heap.objs.size ≤ a) → s.heap.get? L = none → L ∉ as →
      (∀ (j : Nat) (a : Addr), as[j]? = some a → ∃ i n t u c, kvs[j]? = some (i, n) ∧ h3.get? a = some { cls := .type "tuple", data := .seq #[.int i t, .int n u] c }) →
      (∃ c, h3.get? L = some (seqObj "list" out.toArray c)) → out.Perm (as.map Value.ref) → out.map (kOf as kvs) = sortI kvs → Q (.ref L) { s with heap := h3, toks := tk }) :
    wpAny (model prog w) A (call (.builtin "sorted") [.ref r]) Q E s := by
  refine Calls.call_function_entry kind_sorted plain_sorted entry_sorted (args_sorted1 _) ?_
  unfold Builtin.«sorted»
  refine wpAny_bind (m := checkCount "sorted" 1 1 _) (wpAny_pure ?_)
  refine wpAny_bind (PySem.W.kdx_collect (A := A.in1) (knd := mixKind prog w) (kvs := vs) (ep := ep) hh hv hm hn fun h' tk as hk hl hG => ?_)
  refine wpAny_bind (wpAny_newList ?_ (by rw [List.length_map, hl]; exact hn))
  have nd : as.Nodup := List.Pairwise.imp (fun {a b} (h : a < b) => Nat.ne_of_lt h) hG.rise
  have lk : as.length = kvs.length := hl.trans hz
  have hoL : (h'.push (seqObj "list" (as.map Value.ref).toArray 0)).get? h'.objs.size = some (seqObj "list" (as.map Value.ref).toArray 0) := Heap.get?_push_size _ rfl
  have pairs : ∀ (j : Nat) (a : Addr), as[j]? = some a → ∃ i n t u, kvs[j]? = some (i, n) ∧ h'.get? a = some { cls := .type "tuple", data := .seq #[.int i t, .int n u] } := fun j a e => by
    obtain ⟨key, k, x, f1, f2, f3⟩ := hG.pairs j a e
    obtain ⟨i, n, t, rfl, rfl, g⟩ := hkv j k x f1
    obtain ⟨t', rfl⟩ := hkey i key f2
    exact ⟨i, n, t', t, g, f3⟩
  have there : ∀ a ∈ as, a < h'.objs.size := fun a ha => by
    obtain ⟨j, hj⟩ := List.mem_iff_getElem?.mp ha
    obtain ⟨_, _, _, _, _, e⟩ := pairs j a hj
    exact Heap.lt_size e
  have hp : ∀ v ∈ as.map Value.ref, Srt.IsPair (h'.push (seqObj "list" (as.map Value.ref).toArray 0)) v (kOf as kvs v).1 (kOf as kvs v).2 := fun v hv => by
    obtain ⟨a, ha, rfl⟩ := List.mem_map.mp hv
    obtain ⟨j, hj⟩ := List.mem_iff_getElem?.mp ha
    obtain ⟨i, n, t, u, e1, e2⟩ := pairs j a hj
    have : kOf as kvs (.ref a) = (i, n) := by rw [kOf_at nd hj, List.getD_eq_getElem?_getD, e1]; rfl
    rw [this]
    exact ⟨a, _, t, u, 0, rfl, Heap.get?_push_of_some _ e2, rfl, rfl⟩
  have hlen : (as.map Value.ref).length ≤ sizeLine := by rw [List.length_map, hl]; exact hn
  refine wpAny_bind (wpAny_holding (wpAny_call_entry slot_list_sort ⟨_, hoL, rfl⟩ entry_list_sort (list_sort_ord (ltv := fun v u => lexB (kOf as kvs v) (kOf as kvs u)) (swo_lex (kOf as kvs)) hoL hlen (fun h2 => ?_) fun out h1 h2 => ⟨_, rfl, ?_⟩) (args_list_sort _)))
  · refine pairs_sortableO (by omega) hp fun o e => ?_
    have e' : some o = some (seqObj "list" (as.map Value.ref).toArray 0) := e.symm.trans hoL
    cases e'
    intro c
    exact absurd (Value.type.inj c) (by decide)
  · have old : ∀ b o, h'.get? b = some o → (sortedHeap (h'.push (seqObj "list" (as.map Value.ref).toArray 0)) h'.objs.size (as.map Value.ref) out.toArray).get? b = some o := fun b o e => by
      have hb : b < h'.objs.size := Heap.lt_size e
      rw [sortedHeap_old (Nat.ne_of_lt hb) (by rw [Heap.size_push]; exact Nat.lt_succ_of_lt hb)]
      exact Heap.get?_push_of_some _ e
    have hLs : s.heap.get? h'.objs.size = none := by
      cases e : s.heap.get? h'.objs.size with
      | none => rfl
      | some o => exact absurd (Heap.lt_size (hk _ _ e)) (Nat.lt_irrefl _)
    refine wpAny_pure ⟨_, rfl, h _ tk as h'.objs.size out (fun b o e => old b o (hk b o e)) nd lk (fun a ha => Nat.le_of_lt (hG.above a ha)) hLs (fun z => Nat.lt_irrefl _ (there _ z)) (fun j a e => ?_) (sortedHeap_at hoL) h2.perm (sortI_of ?_ ?_)⟩
    · obtain ⟨i, n, t, u, e1, e2⟩ := pairs j a e
      exact ⟨i, n, t, u, 0, e1, old _ _ e2⟩
    · rw [List.pairwise_map]
      exact h1
    · have := h2.perm.map (kOf as kvs)
      rw [kOf_map nd lk] at this
      exact this
end
section
variable {X : Cx}
open LiI (putT putT_off putT_at paired_ix)
theorem made_laid {pins : List (Addr × Obj)} {σ : St} {H : Hp} {s : Shared} {h3 : Heap} {tk : Nat} {kvs : List (Int × Int)} {as : List Addr} {L : Addr} {out : List Value} (I : Inv X pins σ H s) (hk : ∀ b o, s.heap.get? b = some o → h3.get? b = some o)
    (nd : as.Nodup) (lk : as.length = kvs.length) (na : ∀ a ∈ as, s.heap.objs.size ≤ a) (nL : s.heap.get? L = none) (hLas : L ∉ as)
    (pairs : ∀ (j : Nat) (a : Addr), as[j]? = some a → ∃ i n t u c, kvs[j]? = some (i, n) ∧ h3.get? a = some { cls := .type "tuple", data := .seq #[.int i t, .int n u] c })
    (hL : ∃ c, h3.get? L = some (seqObj "list" out.toArray c)) (hout : ∀ u ∈ out, ∃ a, u = Value.ref a) (hz : out.length ≤ sizeLine) :
    ∃ H2 : Hp, Same H H2 ∧ (∀ b, H2 b ≠ none → H b ≠ none ∨ b = L ∨ b ∈ as) ∧ H L = none ∧ (∀ t ∈ as, H t = none) ∧ H2 L = some (.lst (out.map backV)) ∧
      (∀ (j : Nat) (a : Addr), as[j]? = some a → ∃ q, kvs[j]? = some q ∧ H2 a = some (.tup [.int q.1, .int q.2])) ∧ Inv X pins σ H2 { s with heap := h3, toks := tk } := by
  have hLn : H L = none := by
    cases e : H L with
    | none => rfl
    | some u =>
      obtain ⟨o, q⟩ := objOk_get (I.hok L u e)
      rw [nL] at q
      cases q
  have hAn : ∀ t ∈ as, H t = none := fun t ht => I.hok.fresh (na t ht)
  let B : Hp := upd H L (.lst (out.map backV))
  let H2 : Hp := putT B as (kvM kvs)
  have offA : ∀ b, b ∉ as → b ≠ L → H2 b = H b := fun b z1 z2 => (putT_off as (kvM kvs) B z1).trans (upd_ne z2)
  have atL : H2 L = some (.lst (out.map backV)) := (putT_off as (kvM kvs) B hLas).trans upd_same
  have atA := putT_at as (kvM kvs) B (by simpa using lk) nd
  have old : ∀ b o, s.heap.get? b = some o → b ∉ as ∧ b ≠ L := fun b o e => ⟨fun z => absurd (Heap.lt_size e) (Nat.not_lt.mpr (na b z)), fun z => by rw [z, nL] at e; cases e⟩
  have same : Same H H2 := fun b u e => by
    rw [offA b (fun z => by rw [hAn b z] at e; cases e) (fun z => by rw [z, hLn] at e; cases e)]
    exact e
  have tup : ∀ (j : Nat) (a : Addr), as[j]? = some a → ∃ q, kvs[j]? = some q ∧ H2 a = some (.tup [.int q.1, .int q.2]) := fun j a e => by
    obtain ⟨j2, pk, f1, f2, f3⟩ := paired_ix atA (List.mem_of_getElem? e)
    have hj : j < as.length := (List.getElem?_eq_some_iff.mp e).1
    have ej : j2 = j := by
      have hj2 : j2 < as.length := (List.getElem?_eq_some_iff.mp f1).1
      have g1 := (List.getElem?_eq_some_iff.mp e).2
      have g2 := (List.getElem?_eq_some_iff.mp f1).2
      exact (List.getElem_inj nd).mp (g2.trans g1.symm)
    subst ej
    rw [List.getElem?_map] at f2
    cases g : kvs[j2]? with
    | none => rw [g] at f2; cases f2
    | some q =>
      rw [g] at f2
      cases f2
      exact ⟨q, rfl, f3⟩
  refine ⟨H2, same, fun b hb => ?_, hLn, hAn, atL, tup, ?_⟩
  · by_cases z1 : b = L
    · exact .inr (.inl z1)
    · by_cases z2 : b ∈ as
      · exact .inr (.inr z2)
      · rw [offA b z2 z1] at hb
        exact .inl hb
  · refine I.call' (ch := []) rfl ⟨fun b o e _ _ _ => hk b o e, fun b o e _ _ _ => ⟨o.slots, hk b o e⟩, fun b o e nn _ => ?_, fun b o e _ => ⟨o, hk b o e⟩, fun b xs e => same b _ e, fun b o u e => same b _ e, fun b ps e => ⟨#[], by rw [same b _ e]; simp⟩⟩ (fun b u e => ?_) I.bare fun b z => by simp at z
    · obtain ⟨z1, z2⟩ := old b o e
      exact (offA b z1 z2).trans nn
    · by_cases hb : b ∈ as
      · obtain ⟨j, hj⟩ := List.mem_iff_getElem?.mp hb
        obtain ⟨q, f1, f2⟩ := tup j b hj
        rw [f2] at e
        cases e
        obtain ⟨i, n, t, u', c, g1, g2⟩ := pairs j b hj
        rw [f1] at g1
        cases g1
        exact ⟨by show 2 ≤ sizeLine; decide, [.int i t, .int n u'], .cons ⟨t, rfl⟩ (.cons ⟨u', rfl⟩ .nil), _, g2, rfl, c, rfl⟩
      · by_cases hb2 : b = L
        · rw [hb2] at e ⊢
          rw [atL] at e
          cases e
          obtain ⟨c, hc⟩ := hL
          exact ⟨by rw [List.length_map]; exact hz, out, c, vals_back hout, hc⟩
        · rw [offA b hb hb2] at e
          exact (I.hok b u e).stay (fun d v _ y => hk d v y) (fun d y => same d _ y) fun d xs y => same d _ y
/-- sorted(x.items()) -/
def rSrtItems : V → Hp → VK → Prop := fun x H Q => ∃ (d : Addr) (kvs : List (Int × Int)), x = .ref d ∧ H d = some (kvO kvs) ∧
  ∀ (H2 : Hp) (p : Addr) (ts : List Addr), Same H H2 → H p = none → (∀ t ∈ ts, H t = none) → p ∉ ts → (∀ b, H2 b ≠ none → H b ≠ none ∨ b = p ∨ b ∈ ts) → H2 p = some (.lst (ts.map V.ref)) → ts.length = (sortI kvs).length →
    (∀ (j : Nat) (t : Addr), ts[j]? = some t → ∃ q, (sortI kvs)[j]? = some q ∧ H2 t = some (.tup [.int q.1, .int q.2])) → Q (.ref p) H2
def tSrtItems (te : TE) : TE := fun σ H Q => te σ H fun x H1 => rSrtItems x H1 Q
theorem outs_of {as : List Addr} : ∀ {out : List Value}, (∀ u ∈ out, ∃ a, u = Value.ref a ∧ a ∈ as) → ∃ ts : List Addr, out = ts.map Value.ref ∧ ∀ t ∈ ts, t ∈ as
  | [], _ => ⟨[], rfl, fun t h => (nomatch h)⟩
  | u :: out, h => by
    obtain ⟨a, rfl, ha⟩ := h u List.mem_cons_self
    obtain ⟨ts, rfl, h2⟩ := outs_of (out := out) fun v hv => h v (List.mem_cons_of_mem _ hv)
    refine ⟨a :: ts, rfl, fun t ht => ?_⟩
    rcases List.mem_cons.mp ht with rfl | ht
    · exact ha
    · exact h2 t ht
theorem pe_srtItems {e : Expr} {te : TE} {p apos cpos pos : Pos} (hc : X.calm = true) (he : PE X e te) (hg : Gl X "sorted") (hm : X.mg "sorted" = none) (hv : bootBuiltins "sorted" = some (.builtin "sorted")) (hbase : attributeBase e "items" X.env (eval e X.env) = eval e X.env := by rfl) (hline : (apos.endLine == cpos.line) = true := by rfl)
    (hs : starEach [.Call (.Attribute e "items" apos) [] [] cpos] X.env = (false, eval (.Call (.Attribute e "items" apos) [] [] cpos) X.env) :: starEach [] X.env := by rfl) :
    PE X (.Call (.Name "sorted" p) [.Call (.Attribute e "items" apos) [] [] cpos] [] pos) (tSrtItems te) := by
  refine ⟨fun pins s σ H Q I hq => ?_⟩
  refine wpAny_Call_Name_kw (ld_blt I hg hm hv ?_)
  refine PyProof.Rows.callWith_builtin1 ?_ hs rfl
  rw [hs]
  show wpAny _ _ (spliced ((false, eval (.Call (.Attribute e "items" apos) [] [] cpos) X.env) :: backTo pos (starEach [] X.env))) _ _ s
  refine Calls.spliced_cons ?_
  refine wpAny_Call_method (T := "dict") (id := "dict.items") hbase rfl hline PySem.F.plainAttrs_dict PySem.F.slot_dict_items PySem.F.type_dict_items (thn (he.run pins s σ H _ I hq) fun u s1 hh => ?_)
  obtain ⟨x, H1, I1, rx, d, kvs, ex, hd, q⟩ := hh
  subst ex
  obtain rfl : u = Value.ref d := rx
  obtain ⟨hz, hs0, vs, kv, hdo⟩ := I1.hok d _ hd
  obtain ⟨ep, hat⟩ := hdo.dictAt
  have lk : (kvM kvs).length = vs.length := Paired.length kv
  have lk2 : vs.length = kvs.length := by rw [← lk]; simp
  have hz2 : kvs.length ≤ sizeLine := by simpa using hz
  have I2 : Inv X pins σ H1 { s1 with heap := s1.heap.push { cls := .type "dict_items", data := .fields #[.ref d] } } := I1.kept (t' := s1.toks) fun b ob z => Heap.get?_push_of_some _ z
  refine ⟨hdo.typeIs, hdo.mapOf.noDict, ?_⟩
  show wpAny _ _ (callWith cpos (.builtin "dict.items") [.ref d] [] []) _ X.xe s1
  refine method_meetsIn PySem.F.slot_dict_items PySem.F.entry_dict_items rfl (PySem.evalArgs_none ⟨rfl, hdo.typeIs, PySem.F.args_dict_items_1 _, _, meets_dict_items (mixKind X.prog X.w) d hs0, ⟨vs, hdo⟩, ?_⟩)
  refine Calls.spliced_nil ?_
  refine sorted_itemsI (kvs := kvs) (vs := vs) (ep := ep) (I1.ok.hd hc) ⟨_, Heap.get?_push_size _ rfl, rfl, rfl⟩ (hat.push _) (by omega) lk2 (fun j k x hj => ?_) (fun i v hi => ?_) fun h3 tk as L out k1 nd l1 na nL hLas pairs hL hperm hsort => ?_
  · obtain ⟨pq, g1, g2, g3⟩ := L2.DX.pget kv hj
    rw [List.getElem?_map] at g1
    cases g : kvs[j]? with
    | none => rw [g] at g1; cases g1
    | some q' =>
      rw [g] at g1
      cases g1
      obtain ⟨t, g3⟩ := g3
      exact ⟨q'.1, q'.2, t, g2.symm, g3, rfl⟩
  · have hi : keyIs (Sum.inl i) v = true := hi
    rcases keyIs_shape hi with ⟨i', t, e1, e2⟩ | ⟨_, _, e1, _⟩
    · cases e1
      exact ⟨t, e2⟩
    · cases e1
  · have hout : ∀ u ∈ out, ∃ a, u = Value.ref a ∧ a ∈ as := fun u hu => by
      obtain ⟨a, ha, e⟩ := List.mem_map.mp (hperm.mem_iff.mp hu)
      exact ⟨a, e.symm, ha⟩
    obtain ⟨ts, rfl, hts⟩ := outs_of hout
    have hlen : (ts.map Value.ref).length ≤ sizeLine := by
      rw [hperm.length_eq, List.length_map, l1]
      exact hz2
    obtain ⟨H2, same, nw, hLn, hAn, atL, tup, J⟩ := made_laid (tk := tk) (kvs := kvs) I2 k1 nd l1 na nL hLas pairs hL (fun u hu => let ⟨a, e, _⟩ := hout u hu; ⟨a, e⟩) hlen
    have hback : (ts.map Value.ref).map backV = ts.map V.ref := by
      rw [List.map_map]
      rfl
    rw [hback] at atL
    have lts : ts.length = (sortI kvs).length := by
      have := congrArg List.length hsort
      simpa using this
    refine ⟨.ref L, H2, J, rfl, q H2 L ts same hLn (fun t ht => hAn t (hts t ht)) (fun z => hLas (hts L z)) (fun b hb => ?_) atL lts fun j t hj => ?_⟩
    · rcases nw b hb with z | z | z
      · exact .inl z
      · exact .inr (.inl z)
      · obtain ⟨u, hu, e⟩ := List.mem_map.mp (hperm.mem_iff.mpr (List.mem_map.mpr ⟨b, z, rfl⟩))
        cases e
        exact .inr (.inr hu)
    · obtain ⟨j2, hj2⟩ := List.mem_iff_getElem?.mp (hts t (List.mem_of_getElem? hj))
      obtain ⟨q', f1, f2⟩ := tup j2 t hj2
      refine ⟨q', ?_, f2⟩
      rw [← hsort, List.map_map, List.getElem?_map, hj]
      show some (kOf as kvs (.ref t)) = _
      rw [kOf_at nd hj2, List.getD_eq_getElem?_getD, f1]
      rfl
variable {Er : ErT} {K : PySem.W.Frag}
/-- sorted(x.items()), x in slot i -/
def itemsD (kvs : List (Int × Int)) : D := .list ((sortI kvs).map fun p => .tuple [.int p.1, .int p.2])
def itO : Option (List (Int × Int)) → R D
  | some kvs => .ok (itemsD kvs)
  | none => .bad
def itE (i : Nat) : EF := fun ρ => match ρ[i]? with
  | some (some d) => itO (dcOf d)
  | _ => .bad
theorem de_srtItems (i : Nat) {x : Str} {p p2 apos cpos pos : Pos} (hm : X.mg "sorted" = none) (hc : X.calm = true := by rfl) (hN : X.N[i]? = some x := by rfl) (hv : Vis X.env.scope x := by first | exact Or.inl rfl | exact Or.inr (Or.inl rfl) | exact Or.inr (Or.inr rfl)) (hg : Gl X "sorted" := by rfl)
    (hd : (x == ("__debug__" : Str)) = false := by decide) (hcd : (x == ("__classdict__" : Str)) = false := by decide) (hb : bootBuiltins "sorted" = some (.builtin "sorted") := by decide +kernel) (hbase : attributeBase (.Name x p2) "items" X.env (eval (.Name x p2) X.env) = eval (.Name x p2) X.env := by rfl) (hline : (apos.endLine == cpos.line) = true := by rfl)
    (hs : starEach [.Call (.Attribute (.Name x p2) "items" apos) [] [] cpos] X.env = (false, eval (.Call (.Attribute (.Name x p2) "items" apos) [] [] cpos) X.env) :: starEach [] X.env := by rfl) :
    DE X Er (.Call (.Name "sorted" p) [.Call (.Attribute (.Name x p2) "items" apos) [] [] cpos] [] pos) (tSrtItems (tVar i)) (itE i) := by
  refine ⟨pe_srtItems hc (pe_var hN hv hd hcd) hg hm hb hbase hline hs, fun F H σ ρ Q s st h => ?_⟩
  unfold itE at h
  cases e : ρ[i]? with
  | none => simp only [e] at h; exact h.elim
  | some o =>
    cases o with
    | none => simp only [e] at h; exact h.elim
    | some d =>
      simp only [e] at h
      obtain ⟨v, e1, h1⟩ := st.sl i d e
      cases ed : dcOf d with
      | none =>
        rw [ed] at h
        exact h.elim
      | some kvs =>
        have ed := dcOf_of ed
        subst ed
        rw [dcOf_dic] at h
        obtain ⟨a, rfl, h3⟩ := dq_int h1
        refine ⟨.ref a, e1, a, kvs, rfl, s.s a _ h3, fun H2 p ts same hp hts hpt nw hp2 hl htup => ?_⟩
        have noF : ∀ b, H b = none → F b = none := fun b hb => none_of_same s.s hb
        let F2 : Hp := fun b => if b = p ∨ b ∈ ts then H2 b else F b
        have fIn : ∀ b, (b = p ∨ b ∈ ts) → F2 b = H2 b := fun b hb => if_pos hb
        have fOut : ∀ b, ¬ (b = p ∨ b ∈ ts) → F2 b = F b := fun b hb => if_neg hb
        have newH : ∀ b, (b = p ∨ b ∈ ts) → H b = none := fun b hb => by
          rcases hb with rfl | hb
          · exact hp
          · exact hts b hb
        have gr : Grow F H F2 H2 := by
          refine ⟨fun b o q => ?_, sameM_of same, ⟨fun b o q => ?_, fun b z => ?_⟩, fun b q1 q2 => ?_⟩
          · rw [fOut b fun z => by rw [noF b (newH b z)] at q; cases q]
            exact q
          · by_cases z : b = p ∨ b ∈ ts
            · rw [fIn b z] at q; exact q
            · rw [fOut b z] at q; exact same b o (s.s b o q)
          · obtain ⟨y1, u, y2, y3⟩ := s.m b z
            have nb : ¬ (b = p ∨ b ∈ ts) := fun k => by rw [newH b k] at y2; cases y2
            exact ⟨by rw [fOut b nb]; exact y1, u, same b u y2, Mem.mono y3 fun c o q => by
              rw [fOut c fun k => by rw [noF c (newH c k)] at q; cases q]
              exact q⟩
          · by_cases z : b = p ∨ b ∈ ts
            · exact absurd (newH b z) q2
            · rw [fOut b z] at q1; exact q1
        refine Post.done h gr _ (.lst (xs := ts.map V.ref) (.inl (.inl ?_)) ?_)
        · rw [fIn p (.inl rfl)]; exact hp2
        · have key : ∀ (us : List Addr) (qs : List (Int × Int)), us.length = qs.length → (∀ t ∈ us, t ∈ ts) → (∀ (j : Nat) (t : Addr), us[j]? = some t → ∃ q, qs[j]? = some q ∧ H2 t = some (.tup [.int q.1, .int q.2])) → DpAll X.K F2 (us.map V.ref) (qs.map fun q => .tuple [.int q.1, .int q.2]) := by
            intro us
            induction us with
            | nil =>
              intro qs hl _ _
              cases qs with
              | nil => exact .nil
              | cons _ _ => cases hl
            | cons t us ih =>
              intro qs hl hin htp
              cases qs with
              | nil => cases hl
              | cons q qs =>
                obtain ⟨q', f1, f2⟩ := htp 0 t rfl
                cases f1
                refine .cons (.tup (.inl (.inl ?_)) (.cons (.int _) (.cons (.int _) .nil))) (ih qs (Nat.succ.inj hl) (fun u hu => hin u (List.mem_cons_of_mem _ hu)) fun j u hu => htp (j + 1) u (by simpa using hu))
                · rw [fIn t (.inr (hin t List.mem_cons_self))]
                  exact f2
          exact key ts (sortI kvs) hl (fun t ht => ht) htup
end
end DL

set_option maxHeartbeats 1000000
/-! DL11: dict(pairs).get(k, x). -/
namespace DL
open PySem PySem.Spec L2
open PyProof.Rows hiding St
variable [Mem]
def pairsOf' : List D → Option (List (Int × Int))
  | [] => some []
  | .tuple [.int k, .int v] :: r => (pairsOf' r).map ((k, v) :: ·)
  | _ => none
theorem pairsOf_eq : ∀ {ds : List D} {kvs : List (Int × Int)}, pairsOf' ds = some kvs → ds = kvs.map fun p => .tuple [.int p.1, .int p.2]
  | [], kvs, h => by cases h; rfl
  | d :: ds, kvs, h => by
    unfold pairsOf' at h
    split at h
    · rename_i e; cases e
    · rename_i k v r e
      cases e
      cases g : pairsOf' ds with
      | none => rw [g] at h; cases h
      | some l =>
        rw [g] at h
        cases h
        rw [pairsOf_eq g]
        rfl
    · cases h
theorem pairsOf_map (kvs : List (Int × Int)) : pairsOf' (kvs.map fun p => .tuple [.int p.1, .int p.2]) = some kvs := by
  induction kvs with
  | nil => rfl
  | cons p r ih => simp [pairsOf', ih]
def mergeI (l : List (Int × Int)) : List (Int × Int) := l.foldl (fun m p => putI m p.1 p.2) []
theorem mergeK_kv (l : List (Int × Int)) : ∀ m : List (Int × Int), mergeK (kvM m) (kvM l) = kvM (l.foldl (fun m p => putI m p.1 p.2) m) := by
  unfold mergeK
  induction l with
  | nil => intro m; rfl
  | cons p l ih =>
    intro m
    have := putK_kv p.1 p.2 m
    unfold kvM at this ih ⊢
    rw [List.map_cons, List.foldl_cons, List.foldl_cons, this]
    exact ih _
def pairsD : D → Option (List (Int × Int))
  | .list ds => pairsOf' ds
  | _ => none
def dgetD (l : List (Int × Int)) (k x : D) : Option D := (intD k).bind fun k => (intD x).map fun x => .int ((getI (mergeI l) k).getD x)
def dgetE (f fk fx : EF) : EF := bE f fun d => bE (oE (pairsD d)) fun l => bE fk fun k => bE fx fun x => oE (dgetD l k x)
theorem pairs_vals {K : PySem.W.Frag} {F : Hp} : ∀ {l : List (Int × Int)} {vs : List V}, DpAll K F vs (l.map fun p => .tuple [.int p.1, .int p.2]) → ∃ ps : List Addr, vs = ps.map V.ref ∧ Paired (fun p (kv : Key × V) => SqT K F p [kV kv.1, kv.2]) ps (kvM l)
  | [], _, .nil => ⟨[], rfl, .nil⟩
  | q :: l, _, .cons h hs => by
    cases h with
    | tup h1 h2 =>
      cases h2 with
      | cons a b =>
        cases a
        cases b with
        | cons a2 b2 =>
          cases a2
          cases b2
          obtain ⟨ps, rfl, e⟩ := pairs_vals hs
          exact ⟨_ :: ps, rfl, .cons h1 e⟩
theorem paired_same {K : PySem.W.Frag} {F H : Hp} (s : Wf F H) : ∀ {ps : List Addr} {kvs : List (Key × V)}, Paired (fun p (kv : Key × V) => SqT K F p [kV kv.1, kv.2]) ps kvs → Paired (fun p (kv : Key × V) => SqT K H p [kV kv.1, kv.2]) ps kvs
  | _, _, .nil => .nil
  | _, _, .cons h t => .cons (same_seqT s.s h) (paired_same s t)
section
variable {X : Cx} {Er : ErT} {te tk tx : TE} {K : PySem.W.Frag}
def rDictI (K : PySem.W.Frag) : List V → Hp → VK → Prop := fun xs H Q => ∃ (a : Addr) (ps : List Addr) (kvs : List (Key × V)), xs = [.ref a] ∧ SqL K H a (ps.map V.ref) ∧ Paired (fun p kv => SqT K H p [kV kv.1, kv.2]) ps kvs ∧ ∀ p, H p = none → Q (.ref p) (upd H p (.dK (mergeK [] kvs)))
theorem de_dictGet {e k x : Expr} {p apos cpos pos : Pos} {fe fk fx : EF} (hu : X.A.units + 1 < cLine) (hg : Gl X "dict") (hm : X.mg "dict" = none) (hr : CallR X (.type "dict") (rDictI X.K)) (h : DE X Er e te fe) (hk : DE X Er k tk fk) (hx : DE X Er x tx fx)
    (hv : bootBuiltins "dict" = some (.type "dict") := by decide +kernel) (m : M2 X (.Call (.Name "dict" p) [e] [] cpos) "get" apos k x pos := by exact ⟨by rfl, by rfl, by rfl, by rfl⟩)
    (hs : starEach [e] X.env = (false, eval e X.env) :: starEach [] X.env := by rfl) :
    DE X Er (.Call (.Attribute (.Call (.Name "dict" p) [e] [] cpos) "get" apos) [k, x] [] pos) (tDGet2 (tCB (rDictI X.K) (tCons te tNil)) tk tx) (dgetE fe fk fx) := by
  refine ⟨pe_dget2 hu (pe_callTy hr hg hm hv (pa_cons h.pe pa_nil hs) (by decide) (by decide) hs (by rfl)) hk.pe hx.pe m, fun F H σ ρ Q s st pq => ?_⟩
  refine h.rd F H σ ρ _ s st (Post.imp (Post.bind pq) fun F1 H1 d g1 p1 v dv => ?_)
  obtain ⟨l, el, p0⟩ := of_ok (Post.bind p1)
  have pb := Post.now p0 g1.fh
  clear p0 p1
  cases dv with
  | lst h1 h2 =>
    obtain rfl := pairsOf_eq el
    obtain ⟨ps, rfl, hp⟩ := pairs_vals h2
    refine ⟨_, ps, kvM l, rfl, same_seqL g1.fh.s h1, paired_same g1.fh hp, fun q hq => ?_⟩
    have em : mergeK [] (kvM l) = kvM (mergeI l) := mergeK_kv l []
    rw [em]
    have gq := Grow.new (o := (HO.dK (kvM (mergeI l)))) g1.fh hq
    have pm := Post.mono pb gq
    refine ⟨q, rfl, .inl ⟨_, .inl upd_same⟩, ?_⟩
    refine hk.rd _ _ σ ρ _ gq.fh ((st.mono g1.ff).mono gq.ff) (Post.imp (Post.bind pm) fun F2 H2 dk g2 p2 vk dvk => ?_)
    refine hx.rd F2 H2 σ ρ _ g2.fh (((st.mono g1.ff).mono gq.ff).mono g2.ff) (Post.imp (Post.bind p2) fun F3 H3 dx g3 p3 vx dvx => ?_)
    have hH3 : H3 q = some (.dK (kvM (mergeI l))) := g3.fh.s q _ (g3.ff q _ (g2.ff q _ upd_same))
    have dvk3 := dp_mono g3.ff _ _ dvk
    cases dvk3 with
    | int k =>
      cases dvx with
      | int x =>
        have dg := DGet.k (k := (Sum.inl k : Key)) hH3
        rw [valV_kv] at dg
        refine ⟨_, dg, ?_⟩
        have p3 : Post F3 H3 Er (R.ok (.int ((getI (mergeI l) k).getD x))) fun F' H' d => ∀ v, Dp X.K F' v d → Q v H' := p3
        have e : ((getI (mergeI l) k).map V.int).getD (.int x) = .int ((getI (mergeI l) k).getD x) := by cases getI (mergeI l) k <;> rfl
        rw [e]
        exact Post.now p3 g3.fh _ (.int _)
      | _ => exact p3.elim
    | _ => exact p3.elim
  | _ => cases el
theorem kdget (K : PySem.W.Frag) {e k x : Expr} {p apos cpos pos : Pos} {fe fk fx : EF} (hu : X.A.units + 1 < cLine) (hg : Gl X "dict") (hm : X.mg "dict" = none) (h : DE X Er e te fe) (hk : DE X Er k tk fk) (hx : DE X Er x tx fx) (hc : X.calm = true := by rfl)
    (hv : bootBuiltins "dict" = some (.type "dict") := by decide +kernel) (m : M2 X (.Call (.Name "dict" p) [e] [] cpos) "get" apos k x pos := by exact ⟨by rfl, by rfl, by rfl, by rfl⟩)
    (hs : starEach [e] X.env = (false, eval e X.env) :: starEach [] X.env := by rfl) (hK : X.K = K := by rfl) :
    DE X Er (.Call (.Attribute (.Call (.Name "dict" p) [e] [] cpos) "get" apos) [k, x] [] pos) (tDGet2 (tCB (rDictI K) (tCons te tNil)) tk tx) (dgetE fe fk fx) := by
  subst hK
  exact de_dictGet hu hg hm (call_dictP hc) h hk hx hv m hs
end
/-! ### list(range(n)) -/
def rangeN : List D → Option (List D)
  | [.int n] => if 0 ≤ n ∧ n ≤ 1000000 then some (rangeL 0 n.toNat) else none
  | _ => none
def rng1E (f : EF) : AF := bE f fun d => oE (rangeN [d])
theorem dpAll_rg {K : PySem.W.Frag} {F : Hp} (n : Int) : DpAll K F (rgV 0 n) (rangeL 0 n.toNat) := by
  unfold rgV rangeL
  rw [Int.sub_zero]
  generalize List.range n.toNat = l
  induction l with
  | nil => exact .nil
  | cons x l ih => exact .cons (.int _) ih
section
variable {X : Cx} {Er : ErT} {te : TE}
theorem dn_listRg {e : Expr} {p p2 pos2 pos : Pos} {f : EF} (hg : Gl X "list") (hm : X.mg "list" = none) (hg2 : Gl X "range") (hm2 : X.mg "range" = none) (h : DE X Er e te f) (hc : X.calm = true := by rfl) (hs2 : starEach [e] X.env = (false, eval e X.env) :: starEach [] X.env := by rfl)
    (hs : starEach [.Call (.Name "range" p2) [e] [] pos2] X.env = (false, eval (.Call (.Name "range" p2) [e] [] pos2) X.env) :: starEach [] X.env := by rfl) :
    DN X Er (.Call (.Name "list" p) [.Call (.Name "range" p2) [e] [] pos2] [] pos) (tLstRg (tRg1 te)) (rng1E f) := by
  refine ⟨pe_listRg hc hg hm (prg_1 hg2 hm2 h.pe hs2) hs, fun F H σ ρ Q s st p => ?_⟩
  refine h.rd F H σ ρ _ s st (Post.imp (Post.bind p) fun F1 H1 d g1 p1 v dv => ?_)
  obtain ⟨r, e, p1⟩ := of_ok p1
  cases dv with
  | int n =>
    simp only [rangeN] at e
    split at e
    · rename_i hn
      cases e
      exact ⟨n, rfl, RgOk.of_le (Int.le_refl _) (by omega) (by omega) (by omega), fun q hq => Post.now p1 g1.fh q _ hq (dpAll_rg n)⟩
    · cases e
  | _ => cases e
end
end DL

set_option maxHeartbeats 1000000
/-! DL12: k not in d. -/
namespace DL
open PySem PySem.Spec L2
open PyProof.Rows hiding St
variable [Mem]
def slotD (ρ : Env) (i : Nat) : Option (List (Int × Int)) := match ρ[i]? with
  | some (some d) => dcOf d
  | _ => none
def dkO (neg : Bool) : D → Option (List (Int × Int)) → R D
  | .int k, some kvs => .ok (.bool (if neg then !(getI kvs k).isSome else (getI kvs k).isSome))
  | _, _ => .bad
def dinE (neg : Bool) (fk : EF) (i : Nat) : EF := fun ρ => (fk ρ).bind fun k => dkO neg k (slotD ρ i)
section
variable {X : Cx} {Er : ErT} {tk : TE} {K : PySem.W.Frag}
theorem slot_dict {F H : Hp} {σ : St} {ρ : Env} {i : Nat} {kvs : List (Int × Int)} (s : Wf F H) (st : EnvR K F σ ρ) (e : slotD ρ i = some kvs) : ∃ a, σ[i]? = some (some (.ref a)) ∧ H a = some (kvO kvs) ∧ F a = some (kvO kvs) := by
  unfold slotD at e
  cases q : ρ[i]? with
  | none => rw [q] at e; cases e
  | some o =>
    cases o with
    | none => rw [q] at e; cases e
    | some d =>
      rw [q] at e
      have e : dcOf d = some kvs := e
      obtain ⟨v, e1, h1⟩ := st.sl i d q
      have ed : d = IntDic kvs := dcOf_of e
      subst ed
      obtain ⟨a, rfl, h3⟩ := dq_int h1
      exact ⟨a, e1, s.s a _ h3, h3⟩
theorem de_dnotin (i : Nat) {k : Expr} {x : Str} {p pos : Pos} {fk : EF} (hu : X.A.units + 1 < cLine) (h : DE X Er k tk fk) (hN : X.N[i]? = some x := by rfl) (hv : Vis X.env.scope x := by first | exact Or.inl rfl | exact Or.inr (Or.inl rfl) | exact Or.inr (Or.inr rfl))
    (hd : (x == ("__debug__" : Str)) = false := by decide) (hcd : (x == ("__classdict__" : Str)) = false := by decide) (hm : behindInMarks .NotIn (.Name x p) = false := by rfl) :
    DE X Er (.Compare k [.NotIn] [.Name x p] pos) (tDNotIn tk (tVar i)) (dinE true fk i) := by
  refine ⟨pe_cmp (pc_dnotin hu h.pe (pe_var hN hv hd hcd)) hm, fun F H σ ρ Q s st q => ?_⟩
  refine h.rd F H σ ρ _ s st (Post.imp (Post.bind q) fun F1 H1 dk g1 p1 vk dvk => ?_)
  cases e : slotD ρ i with
  | none =>
    rw [e] at p1
    cases dvk <;> exact p1.elim
  | some kvs =>
    rw [e] at p1
    obtain ⟨a, e1, _, e3⟩ := slot_dict s st e
    have hH : H1 a = some (.dK (kvM kvs)) := g1.fh.s a _ (g1.ff a _ e3)
    cases dvk with
    | int k =>
      have dg := DGet.k (k := (Sum.inl k : Key)) hH
      rw [valV_kv] at dg
      refine ⟨.ref a, e1, a, _, rfl, dg, ?_⟩
      have p2 : Post F1 H1 Er (R.ok (.bool (!(getI kvs k).isSome))) fun F' H' d => ∀ v, Dp X.K F' v d → Q v H' := p1
      have eo : ((getI kvs k).map V.int).isSome = (getI kvs k).isSome := by cases getI kvs k <;> rfl
      rw [eo]
      exact Post.now p2 g1.fh _ (.bl _)
    | _ => exact p1.elim
theorem dt_dnotin (i : Nat) {k : Expr} {x : Str} {p pos : Pos} {fk : EF} (hu : X.A.units + 1 < cLine) (h : DE X Er k tk fk) (hN : X.N[i]? = some x := by rfl) (hv : Vis X.env.scope x := by first | exact Or.inl rfl | exact Or.inr (Or.inl rfl) | exact Or.inr (Or.inr rfl))
    (hd : (x == ("__debug__" : Str)) = false := by decide) (hcd : (x == ("__classdict__" : Str)) = false := by decide) (hm : behindInMarks .NotIn (.Name x p) = false := by rfl) :
    DT X Er (.Compare k [.NotIn] [.Name x p] pos) (tB (tDNotIn tk (tVar i))) (testE (dinE true fk i)) :=
  ⟨pt_cmp (pc_dnotin hu h.pe (pe_var hN hv hd hcd)) hm, dr_test (de_dnotin (pos := pos) i hu h hN hv hd hcd hm).rd⟩
variable {s0 : Sh} {wl w : List Sh} {pos : Pos}
/-- x, y = {}, {} -/
def newD2 (i j : Nat) : SF := fun ρ => .nx ((ρ.set i (some (IntDic []))).set j (some (IntDic [])))
theorem d_newD2 (i j : Nat) {tg : Expr} {n1 : Nat} {p1 p2 p3 : Pos} (hg : PG X tg (gTup X.K 2 (gNames [i, j]))) (hi : i < w.length := by decide) (hj : j < w.length := by decide) (hs : swapsWithSole [tg] (.Tuple [.Dict [] [] p1, .Dict [] [] p2] n1 p3) pos.line X.env = pure false := by rfl)
    (hsw : swappedStores [tg] (.Tuple [.Dict [] [] p1, .Dict [] [] p2] n1 p3) X.env = pure none := by rfl) (h1 : (assignEach [tg] X.env).map (·.2) = [assign tg X.env] := by rfl) :
    D1 X Er s0 wl w (.Assign [tg] (.Tuple [.Dict [] [] p1, .Dict [] [] p2] n1 p3) pos) ((w.set i (.ob dcO)).set j (.ob dcO)) (tAsg (tTup (tCons tDNewK (tCons tDNewK tNil))) (gTup X.K 2 (gNames [i, j]))) (newD2 i j) := by
  refine ⟨ps_asg (pe_tup (pa_cons pe_dnewK (pa_cons pe_dnewK pa_nil))) hg hs hsw h1, fun fr F H σ ρ Dn st p => ?_⟩
  intro q1 hq1 q2 hq2
  refine ⟨(by show 2 ≤ sizeLine; decide), fun T hT => ?_⟩
  have st1 := st.set_dc (kvs := []) hq1 hi
  have st2 := st1.set_dc (kvs := []) hq2 (by rw [List.length_set]; exact hj)
  have g := Grow.new (o := HO.tup [.ref q1, .ref q2]) st2.fh hT
  refine ⟨T, _, rfl, .inl (.inl upd_same), rfl, gNames_ok [i, j] [.ref q1, .ref q2] σ _ rfl ?_⟩
  exact p _ _ _ g.ff (st2.grow g)
end
end DL

namespace DL
instance (priority := low) memTriv : Mem := Mem.triv
end DL

set_option maxHeartbeats 1000000
/-! DM1: dicts whose keys are nested tuples, tracked by what is true of their object. -/
namespace DL
open PySem PySem.Spec L2
open PyProof.Rows hiding St

def dN (P : Program) (w : World) (k : Addr) (xs : NXs) : HO := .ext (NRaw P w k xs)
theorem nraw_ok {P : Program} {w : World} {H : Hp} {h : Heap} {k : Addr} {xs : NXs} (r : NRaw P w k xs h) : ObjOk P w H h k (dN P w k xs) :=
  let ⟨a, b, o, es, ep, e, c⟩ := r
  ⟨⟨a, b, o, es, ep, e, c⟩, ⟨o, e⟩, fun h1 h2 ⟨a, b, o, es, ep, e, c⟩ k => ⟨a, b, o, es, ep, k o e, c⟩⟩
theorem nraw_of {P : Program} {w : World} {H : Hp} {h : Heap} {k : Addr} {xs : NXs} (ok : HOk P w H h) (e : H k = some (dN P w k xs)) : NRaw P w k xs h := (ok k _ e).1
section
variable {X : Cx} {pins : List (Addr × Obj)} {σ : St} {H : Hp} {s : Shared}
mutual
theorem nested_of (I : Inv X pins σ H s) : ∀ (k : NestedKey) (v : V) (u : Value), Dp X.K H v k.data → RelV v u → NestedIs s.heap k u
  | .none, _, _, h, r => by cases h; cases r; exact .none
  | .num i, _, _, h, r => by cases h; obtain ⟨t, rfl⟩ := r; exact .int _ _
  | .text x, _, _, h, r => by cases h; obtain ⟨t, rfl⟩ := r; exact .text _ _
  | .tup ks, _, _, h, r => by
    cases h with
    | tup h1 h2 =>
      cases r
      obtain ⟨its, rv, ⟨o, ho, hc, n, hd⟩, _⟩ := I.tuple h1
      exact .tup ho hc hd (by simpa using nesteds_of I ks _ its h2 rv)
theorem nesteds_of (I : Inv X pins σ H s) : ∀ (ks : List NestedKey) (vs : List V) (us : List Value), DpAll X.K H vs (NestedKey.datas ks) → Vals vs us → NestedAll s.heap ks us
  | [], _, _, h, r => by cases h; cases r; exact .nil
  | k :: ks, _, _, h, r => by
    cases h with
    | cons h1 h2 =>
      cases r with
      | cons r1 r2 => exact .cons (nested_of I k _ _ h1 r1) (nesteds_of I ks _ _ h2 r2)
end
end
section
variable {X : Cx} {pins : List (Addr × Obj)} {σ : St} {H : Hp} {s : Shared} {d b : Addr} {xs : NXs} {key : NestedKey} {A : Around} {E : Value → Shared → Prop}
theorem nkey_is (I : Inv X pins σ H s) (h : NKey X.K H key b) : (nestedKind X.prog X.w).is s.heap key b := ⟨nested_of I key (.ref b) (.ref b) h.1 rfl, h.2⟩
theorem dictN (I : Inv X pins σ H s) (e : H d = some (dN X.prog X.w d xs)) (hk : ∀ x ∈ xs, NKey X.K H x.1 x.2.1) : (d == sysModules) = false ∧ xs.length ≤ sizeLine ∧ s.heap.DictOfH (nestedKind X.prog X.w) d xs := by
  obtain ⟨a1, a2, o, es, ep, h1, h2, h3, h4, h5⟩ := nraw_of I.hok e
  exact ⟨a1, a2, o, es, ep, h1, h2, h3, h4, fun x hx => nkey_is I (hk x hx), h5⟩
theorem n_notIn {Q : Value → Shared → Prop} (hu : A.units + 16 < cLine) (I : Inv X pins σ H s) (e : H d = some (dN X.prog X.w d xs)) (hk : ∀ x ∈ xs, NKey X.K H x.1 x.2.1) (kb : NKey X.K H key b) (h : ∀ s', Inv X pins σ H s' → Q (.bool (!(atKey xs key).isSome)) s') :
    wpAny (model X.prog X.w) A (compareOp .NotIn (.ref b) (.ref d)) Q E s := by
  obtain ⟨a1, a2, dd⟩ := dictN I e hk
  exact wpAny_notIn_heap (knd := nestedKind X.prog X.w) (by show A.units + 1 + 8 < cLine; omega) (nkey_is I kb) a1 dd (h _ (I.tok _))
theorem n_getItem {p : Addr × Value} {Q : Value → Shared → Prop} (hu : A.units + 16 < cLine) (I : Inv X pins σ H s) (e : H d = some (dN X.prog X.w d xs)) (hk : ∀ x ∈ xs, NKey X.K H x.1 x.2.1) (kb : NKey X.K H key b) (hp : atKey xs key = some p) (h : ∀ s', Inv X pins σ H s' → Q p.2 s') :
    wpAny (model X.prog X.w) A (getItem (.ref d) (.ref b)) Q E s := by
  obtain ⟨a1, a2, dd⟩ := dictN I e hk
  exact wpAny_getItem_heap (knd := nestedKind X.prog X.w) (by show A.units + 1 + 8 < cLine; omega) (nkey_is I kb) dd hp (h _ (I.tok _))
theorem storedH_le {xs : NXs} {k : NestedKey} {a : Addr} {v : Value} : (storedH xs k a v).length ≤ xs.length + 1 := by
  unfold storedH
  split <;> simp
theorem n_setItem {r : Value} {Q : Unit → Shared → Prop} (hu : A.units + 16 < cLine) (I : Inv X pins σ H s) (e : H d = some (dN X.prog X.w d xs)) (hk : ∀ x ∈ xs, NKey X.K H x.1 x.2.1) (kb : NKey X.K H key b) (hl : xs.length < sizeLine)
    (h : ∀ s', Inv X pins σ (upd H d (dN X.prog X.w d (storedH xs key b r))) s' → Q () s') :
    wpAny (model X.prog X.w) A (setItem (.ref d) (.ref b) r) Q E s := by
  obtain ⟨a1, a2, dd⟩ := dictN I e hk
  refine wpAny_setItem_heap (knd := nestedKind X.prog X.w) (hsz := a2) (by show A.units + 1 + 8 < cLine; omega) (nkey_is I kb) dd fun h' dd' hs => h _ ?_
  obtain ⟨q, es, ep, hq, h2, h3, h4, _, h5⟩ := dd'
  exact d_write I (by rw [e]; exact True.intro) hs ⟨q, hq⟩ (nraw_ok ⟨a1, Nat.le_trans storedH_le hl, q, es, ep, hq, h2, h3, h4, h5⟩)
theorem dictN_type (I : Inv X pins σ H s) (e : H d = some (dN X.prog X.w d xs)) : s.TypeIs (.ref d) "dict" := by
  obtain ⟨_, _, o, _, _, h1, h2, _⟩ := nraw_of I.hok e
  exact ⟨o, h1, h2.1⟩
end
/-- the readings -/
def NHas (X : Cx) (H : Hp) (x y : V) (d b : Addr) (xs : NXs) (key : NestedKey) : Prop := x = .ref d ∧ y = .ref b ∧ H d = some (dN X.prog X.w d xs) ∧ (∀ z ∈ xs, NKey X.K H z.1 z.2.1) ∧ NKey X.K H key b
def tNNotIn (X : Cx) (ty td : TE) : TE := fun σ H Q => ty σ H fun y H1 => td σ H1 fun x H2 => ∃ d b xs key, NHas X H2 x y d b xs key ∧ Q (.bl (!(atKey xs key).isSome)) H2
def tNGet (X : Cx) (td ty : TE) : TE := fun σ H Q => td σ H fun x H1 => ty σ H1 fun y H2 => ∃ d b xs key p v, NHas X H2 x y d b xs key ∧ atKey xs key = some p ∧ RelV v p.2 ∧ Q v H2
def sNPut (X : Cx) (td ty tv : TE) : TS := fun D σ H => tv σ H fun v H1 => td σ H1 fun x H2 => ty σ H2 fun y H3 => ∃ d b xs key, NHas X H3 x y d b xs key ∧ xs.length < sizeLine ∧ ∀ u, RelV v u → D.nx σ (upd H3 d (dN X.prog X.w d (storedH xs key b u)))
def tDNewN (X : Cx) : TE := fun _ H Q => ∀ p, H p = none → Q (.ref p) (upd H p (dN X.prog X.w p []))
section
variable {X : Cx} {o i e value : Expr} {pos pos' tpos : Pos} {td ty tv : TE}
theorem pe_nget (hu : X.A.units + 16 < cLine) (ho : PE X o td) (hi : PE X i ty) (hs : NoSl i) : PE X (.Subscript o i pos) (tNGet X td ty) := by
  refine ⟨fun pins s σ H Q I h => ?_⟩
  refine subD_of PySem.F.slot_dict_getitem.lookup hs (thn (ho.run pins s σ H _ I h) fun u s1 ⟨x, H1, I1, rx, q1⟩ => thn (hi.run pins s1 σ H1 _ I1 q1) fun iv s2 ⟨y, H2, I2, ry, d, b, xs, key, p, v, ⟨ex, ey, e, hk, kb⟩, hp, rv, q2⟩ => ?_)
  subst ex ey
  obtain rfl : u = Value.ref d := rx
  obtain rfl : iv = Value.ref b := ry
  exact ⟨dictN_type I2 e, n_getItem hu I2 e hk kb hp fun s3 I3 => ⟨v, H2, I3, rv, q2⟩⟩
theorem pc_nnotin (hu : X.A.units + 16 < cLine) (hi : PE X i ty) (ho : PE X o td) : PC X .NotIn i o (tNNotIn X ty td) := by
  refine ⟨fun pins s σ H Q I h => ?_⟩
  refine thn (hi.run pins s σ H _ I h) fun iv s1 ⟨y, H1, I1, ry, q1⟩ => thn (ho.run pins s1 σ H1 _ I1 q1) fun u s2 ⟨x, H2, I2, rx, d, b, xs, key, ⟨ex, ey, e, hk, kb⟩, q2⟩ => ?_
  subst ex ey
  obtain rfl : u = Value.ref d := rx
  obtain rfl : iv = Value.ref b := ry
  exact n_notIn hu I2 e hk kb fun s3 I3 => ⟨.bl (!(atKey xs key).isSome), H2, I3, rfl, q2⟩
theorem ps_nput (hu : X.A.units + 16 < cLine) (ho : PE X o td) (hi : PE X i ty) (hv : PE X value tv) (hs : swapsWith value (some (.Subscript o i pos')) pos.line X.env = pure false) :
    PS X (.Assign [.Subscript o i pos'] value pos) (sNPut X td ty tv) := by
  refine ⟨fun pins s σ H D I h => ?_⟩
  refine wpAny_Assign_Subscript (thn (hv.run pins s σ H _ I h) fun r s1 ⟨v, H1, I1, rv, q1⟩ => thn (ho.run pins s1 σ H1 _ I1 q1) fun u s2 ⟨x, H2, I2, rx, q2⟩ => thn (hi.run pins s2 σ H2 _ I2 q2) fun iv s3 ⟨y, H3, I3, ry, d, b, xs, key, ⟨ex, ey, e, hk, kb⟩, hl, q3⟩ => ?_) hs
  subst ex ey
  obtain rfl : u = Value.ref d := rx
  obtain rfl : iv = Value.ref b := ry
  exact n_setItem hu I3 e hk kb hl fun s4 I4 => ⟨σ, _, I4, q3 r rv⟩
theorem pe_dnewN : PE X (.Dict [] [] pos) (tDNewN X) := ⟨fun pins s σ H Q I h =>
  wpAny_Dict_empty ⟨.ref s.heap.objs.size, _, I.laid (a := s.heap.objs.size) (o := dN X.prog X.w s.heap.objs.size []) (t' := s.toks) (fun _ _ q => Heap.get?_push_of_some _ q) (Nat.le_refl _)
    (nraw_ok ⟨beq_eq_false_iff_ne.mpr (Ne.symm (Nat.ne_of_lt I.big)), Nat.zero_le _, _, #[], 0, Heap.get?_push_size _ rfl, ⟨rfl, rfl, rfl⟩, rfl, rfl, List.nodup_nil⟩), rfl, h _ (I.hok.fresh (Nat.le_refl _))⟩⟩
end
end DL

set_option maxHeartbeats 1000000
/-! DM2: fields and methods of objects on data. -/
namespace DL
open PySem PySem.Spec L2
open PyProof.Rows hiding St
variable [Mem]

def fldsOf : List (D × D) → Option (List (Str × D))
  | [] => some []
  | (.str f, d) :: r => (fldsOf r).map ((f, d) :: ·)
  | _ => none
theorem fldsOf_map (kvs : List (Str × D)) : fldsOf (kvs.map fun p => (.str p.1, p.2)) = some kvs := by
  induction kvs with
  | nil => rfl
  | cons p r ih => simp [fldsOf, ih]
theorem fldsOf_inv : ∀ {ds : List (D × D)} {kvs : List (Str × D)}, fldsOf ds = some kvs → ds = kvs.map fun p => (.str p.1, p.2) := fun {ds} => by
  induction ds with
  | nil => intro kvs h; cases h; rfl
  | cons p ds ih =>
    intro kvs h
    obtain ⟨k, v⟩ := p
    cases k with
    | str k =>
      have h : (fldsOf ds).map ((k, v) :: ·) = some kvs := h
      cases e : fldsOf ds with
      | none => rw [e] at h; cases h
      | some l => rw [e] at h; cases h; simp [ih e]
    | _ => cases h
def objOf : D → Option (Str × List (Str × D))
  | .dict ((.str o, .str c) :: r) => if o = "obj" then (fldsOf r).map fun l => (c, l) else none
  | _ => none
theorem objOf_obj (c : Str) (kvs : List (Str × D)) : objOf (objD c kvs) = some (c, kvs) := by
  unfold objOf objD
  simp [fldsOf_map]
theorem objOf_inv {d : D} {c : Str} {kvs : List (Str × D)} (h : objOf d = some (c, kvs)) : d = objD c kvs := by
  unfold objOf at h
  split at h
  · split at h
    · rename_i e
      subst e
      cases e2 : fldsOf ‹_› with
      | none => rw [e2] at h; cases h
      | some l =>
        rw [e2] at h
        cases h
        unfold objD
        rw [← fldsOf_inv e2]
    · cases h
  · cases h
theorem objD_inj {c c' : Str} {kvs kvs' : List (Str × D)} (h : objD c kvs = objD c' kvs') : c = c' ∧ kvs = kvs' := by
  have := objOf_obj c kvs
  rw [h, objOf_obj] at this
  cases this
  exact ⟨rfl, rfl⟩
theorem excD_obj (c : Str) : objOf (excD c) = none := by
  unfold objOf excD
  rfl
theorem dq_obj {K : PySem.W.Frag} {F : Hp} {v : V} {d : D} {c : Str} {kvs : List (Str × D)} (h : DQ K F v d) (e : objOf d = some (c, kvs)) : ObQ K F v (objD c kvs) := by
  have ed := objOf_inv e
  subst ed
  rcases h with h | ⟨a, l, _, e1, _⟩ | ⟨c', e1, _⟩ | h | h | h
  · cases h with
    | sd e _ _ _ => simp [sdL] at e
  · exfalso
    cases l with
    | nil => cases e1
    | cons p l => simp [IntDic, objD] at e1
  · rw [e1, excD_obj] at e; cases e
  · exact h
  · obtain ⟨_, _, _, _, e1, _⟩ := h
    exact absurd e1 (ord_ne (by decide +kernel))
  · obtain ⟨_, _, _, _, e1, _⟩ := h
    exact absurd e1 (tup_ne (by decide +kernel))
/-- a class of the program's own, as it stands behind the top -/
structure ClI (K : PySem.W.Frag) (mg : Str → Option Value) (x : Str) where
  C : Addr
  n : PySem.W.nsIn K mainGlobals x = some (some (.ref C))
  m : mg x = some (.ref C)
  cl : Cls K C
theorem ns_inj {K : PySem.W.Frag} {x : Str} {C C' : Addr} (h : PySem.W.nsIn K mainGlobals x = some (some (.ref C))) (k : PySem.W.nsIn K mainGlobals x = some (some (.ref C'))) : C' = C := by
  rw [h] at k; cases k; rfl
/-- what stands at f of an object of one of the classes cns -/
def fldO (cns : List Str) (f : Str) : Option (Str × List (Str × D)) → R D
  | some (c, kvs) => if c ∈ cns then R.of (kvs.lookup f) else .bad
  | none => .bad
/-- e.f, whatever it is -/
def fldQ (cns : List Str) (f : Str) (fe : EF) : EF := bE fe fun d _ => fldO cns f (objOf d)
/-- e.f, data -/
def fldE (cns : List Str) (f : Str) (fe : EF) : EF := bE (fldQ cns f fe) fun d _ => okD d
section
variable {X : Cx} {Er : ErT} {te : TE} {ta : TA} {e : Expr} {fe : EF} {pos : Pos}
theorem deq_fld {cns : List Str} {f : Str} (h : DEq X Er e te fe) (hc : ∀ c ∈ cns, ∀ C, PySem.W.nsIn X.K mainGlobals c = some (some (.ref C)) → Cls X.K C ∧ NoAttr X.K C f) (hb : attributeBase e f X.env (eval e X.env) = eval e X.env := by rfl) :
    DEq X Er (.Attribute e f pos) (tFld X.K te f) (fldQ cns f fe) := by
  refine ⟨pe_fld h.pe hb, fun F H σ ρ Q s st p => ?_⟩
  refine h.rd F H σ ρ _ s st (Post.imp (Post.bind p) fun F1 H1 d g1 p1 v dv => ?_)
  cases eo : objOf d with
  | none => simp only [eo] at p1; exact p1.elim
  | some q =>
    obtain ⟨c, kvs⟩ := q
    simp only [eo, fldO] at p1
    by_cases hcm : c ∈ cns
    · rw [if_pos hcm] at p1
      obtain ⟨a, fs, c', kvs', rfl, e2, e3, e4, e5, e6⟩ := dq_obj dv eo
      obtain ⟨rfl, rfl⟩ := objD_inj e2
      obtain ⟨C, dx, n1, n2, n3⟩ := e4.at_
      obtain ⟨k1, k2⟩ := hc c hcm C n1
      cases el : kvs.lookup f with
      | none => rw [el] at p1; exact p1.elim
      | some d' =>
        rw [el] at p1
        have hm : (f, d') ∈ kvs := by
          have : ∀ l : List (Str × D), l.lookup f = some d' → (f, d') ∈ l := fun l => by
            induction l with
            | nil => intro h; cases h
            | cons x l ih =>
              intro h
              obtain ⟨x1, x2⟩ := x
              by_cases hx : f = x1
              · subst hx
                simp at h
                subst h
                exact List.mem_cons_self
              · rw [List.lookup_cons] at h
                rw [show (f == x1) = false from beq_eq_false_iff_ne.mpr hx] at h
                exact List.mem_cons_of_mem _ (ih h)
          exact this kvs el
        obtain ⟨u, l1, l2⟩ := e5 (f, d') hm
        refine ⟨a, C, dx, fs, u, rfl, g1.fh.s a _ n2, k1, k2, l1, ?_⟩
        refine Post.now p1 g1.fh u ?_
        rcases l2 with l2 | l2
        · exact .inl l2
        · obtain ⟨a, fs, c, kvs, q1, q2, q3, q4, q5, q6⟩ := l2
          exact .inr (.inr (.inr (.inl ⟨a, fs, c, kvs, q1, q2, q3, q4, fun p hp => let ⟨u, y1, y2⟩ := q5 p hp; ⟨u, y1, .inl y2⟩, q6⟩)))
    · rw [if_neg hcm] at p1; exact p1.elim
theorem dr_okq {te : TE} {fe : EF} {K : PySem.W.Frag} (h : DRe K Er te fe) : DRd K Er te (bE fe fun d _ => okD d) := by
  intro F H σ ρ Q s st p
  refine h F H σ ρ _ s st (Post.imp (Post.bind p) fun F1 H1 d g1 p1 v dv => ?_)
  cases k : okD d with
  | ok z =>
    obtain ⟨q1, rfl⟩ := dq_dp dv k
    simp only [k] at p1
    exact Post.now p1 g1.fh v q1
  | err c => exact absurd k (okD_ne d c)
  | bad => simp only [k] at p1; exact p1.elim
theorem de_fld {cns : List Str} {f : Str} (h : DEq X Er e te fe) (hc : ∀ c ∈ cns, ∀ C, PySem.W.nsIn X.K mainGlobals c = some (some (.ref C)) → Cls X.K C ∧ NoAttr X.K C f) (hb : attributeBase e f X.env (eval e X.env) = eval e X.env := by rfl) :
    DE X Er (.Attribute e f pos) (tFld X.K te f) (fldE cns f fe) :=
  ⟨(deq_fld (pos := pos) h hc hb).pe, dr_okq (deq_fld (pos := pos) h hc hb).rd⟩
/-- e.m(..), a method of the class cn -/
def methO (cn m : Str) : Option (Str × List (Str × D)) → Bool
  | some (c, kvs) => decide (c = cn) && (kvs.lookup m).isNone && decide (m ≠ "known")
  | none => false
def methE (cn m : Str) (g : List D → R D) (fe : EF) (fa : AF) : EF := bE fe fun d => if methO cn m (objOf d) = true then bE fa fun ds _ => g (d :: ds) else fun _ => .bad
theorem lookup_none {kvs : List (Str × D)} {m : Str} (h : (kvs.lookup m).isNone = true) : m ∉ kvs.map (·.1) := by
  induction kvs with
  | nil => simp
  | cons x l ih =>
    obtain ⟨x1, x2⟩ := x
    rw [List.lookup_cons] at h
    by_cases hx : m = x1
    · subst hx; simp at h
    · rw [show (m == x1) = false from beq_eq_false_iff_ne.mpr hx] at h
      simp only at h
      have := ih h
      simp only [List.map_cons, List.mem_cons, not_or]
      exact ⟨hx, this⟩
theorem dr_meth {K : PySem.W.Frag} {mg : Str → Option Value} {E : XK} {C : Addr} {cn m : Str} {n : Nat} {g : List D → R D} {fa : AF} (hC : PySem.W.nsIn K mainGlobals cn = some (some (.ref C))) (he : ∀ c H', Er c H' → erX mg E c H') (hn : ∀ ρ ds, fa ρ = .ok ds → ds.length + 1 = n) (h : DRe K Er te fe) (ha : DRq K Er ta fa) :
    DRd K Er (tMeth C m (spD K mg n g) [] E te ta) (methE cn m g fe fa) := by
  intro F H σ ρ Q s st p
  refine h F H σ ρ _ s st (Post.imp (Post.bind p) fun F1 H1 d g1 p1 v dv => ?_)
  cases eo : objOf d with
  | none => simp only [eo, methO] at p1; exact p1.elim
  | some q =>
    obtain ⟨c, kvs⟩ := q
    simp only [eo] at p1
    by_cases hm : methO cn m (some (c, kvs)) = true
    · rw [if_pos hm] at p1
      simp only [methO, Bool.and_eq_true, decide_eq_true_eq] at hm
      obtain ⟨⟨rfl, hm1⟩, hm2⟩ := hm
      have dv' := dv
      obtain ⟨a, fs, c', kvs', rfl, e2, e3, e4, e5, e6⟩ := dq_obj dv eo
      obtain ⟨rfl, rfl⟩ := objD_inj e2
      obtain ⟨C', dx, n1, n2, n3⟩ := e4.at_
      have := ns_inj hC n1
      subst this
      refine ⟨a, dx, fs, rfl, g1.fh.s a _ n2, e6 m hm2 (lookup_none hm1), ?_⟩
      refine ha F1 H1 σ ρ _ g1.fh (st.mono g1.ff) ?_
      have q := Post.bind p1
      cases hr : fa ρ with
      | ok ds =>
        rw [hr] at q
        intro F' H' g' vs dvs
        rw [List.append_nil]
        have := dqAll_len dvs
        have := hn ρ ds hr
        exact ⟨by simp; omega, ‹Mem›, F', d :: ds, g'.fh, ⟨dq_mono g'.ff dv', dvs⟩, Post.er (q F' H' g') he⟩
      | err c => rw [hr] at q; exact q
      | bad => rw [hr] at q; exact q
    · rw [if_neg hm] at p1; exact p1.elim
theorem de_meth {pl : Sem Bool} {CX : CXT} {k n : Nat} {f : Addr} {fd : FuncData} {ps : List Str} {E : XK} {C : Addr} {cn m : Str} {g : List D → R D} {fa : AF} {e1 : Expr} {es : List Expr} {apos : Pos} (h : DEq X Er e te fe) (hC : PySem.W.nsIn X.K mainGlobals cn = some (some (.ref C))) (c : Cls X.K C) (hm : Meth X.K C m f)
    (F : FnOk X.prog X.w X.K X.mg X.base CX k f fd ps (spD X.K X.mg n g)) (hr : Room k X.A) (hb : Binds X.K fd ps []) (hx : Passes CX X E) (he : ∀ c H', Er c H' → erX X.mg E c H') (ha : DAq X Er (e1 :: es) ta fa) (hn : ∀ ρ ds, fa ρ = .ok ds → ds.length + 1 = n)
    (hst : starEach (e1 :: es) X.env = (false, eval e1 X.env) :: starEach es X.env := by rfl) (hpl : (backTo pos (starEach es X.env)).any (·.1) = false := by rfl)
    (ht : eval (.Call (.Attribute e m apos) (e1 :: es) [] pos) X.env = (do
      let ov ← eval e X.env
      standAt apos.atName
      let (f, first) ← holding [ov] (getMethod ov m pl)
      callWith pos f first (backTo pos (starEach (e1 :: es) X.env)) (backToKw pos (keywordEach [] X.env))) := by rfl) :
    DE X Er (.Call (.Attribute e m apos) (e1 :: es) [] pos) (tMeth C m (spD X.K X.mg n g) [] E te ta) (methE cn m g fe fa) :=
  ⟨pe_meth h.pe c hm F hr hb .nil hx ha.pe hst hpl ht, dr_meth hC he hn h.rd ha.rd⟩
end
end DL

set_option maxHeartbeats 1000000
/-! DM3: a memo: if k not in self.known: .. self.known[k] = e; return self.known[k] -/
namespace DL
open PySem PySem.Spec L2
open PyProof.Rows hiding St

/-! ### which keys there can be -/
def allL : Nat → List (List Nat)
  | 0 => [[]]
  | k + 1 => [] :: (List.range 16).flatMap fun d => (allL k).map (d :: ·)
theorem sum_const {α : Type} (c : Nat) (l : List α) : (l.map fun _ => c).sum = l.length * c := by
  induction l with
  | nil => simp
  | cons x l ih => rw [List.map_cons, List.sum_cons, ih, List.length_cons, Nat.succ_mul, Nat.add_comm]
theorem allL_len (k : Nat) : (allL (k + 1)).length = 1 + 16 * (allL k).length := by
  show ([] :: (List.range 16).flatMap fun d => (allL k).map (d :: ·)).length = _
  rw [List.length_cons, List.length_flatMap]
  simp only [List.length_map]
  rw [sum_const, List.length_range, Nat.add_comm]
theorem mem_allL : ∀ (k : Nat) (l : List Nat), l.length ≤ k → (∀ x ∈ l, x < 16) → l ∈ allL k
  | 0, l, h, _ => by rw [List.eq_nil_of_length_eq_zero (Nat.le_zero.mp h)]; simp [allL]
  | k + 1, [], _, _ => by simp [allL]
  | k + 1, x :: l, h, hx => by
    refine List.mem_cons_of_mem _ (List.mem_flatMap.mpr ⟨x, List.mem_range.mpr (hx x List.mem_cons_self), List.mem_map.mpr ⟨l, mem_allL k l (by simpa using h) fun y hy => hx y (List.mem_cons_of_mem _ hy), rfl⟩⟩)
def allKeys : List NestedKey := (List.range 9).flatMap fun at_ => (allL 4).map fun ls => .tup [.num (at_ : Nat), .tup (ls.map fun n => .num (n : Nat))]
theorem allKeys_len : allKeys.length = 629145 := by
  have h : (allL 4).length = 69905 := by
    rw [allL_len 3, allL_len 2, allL_len 1, allL_len 0]
    rfl
  unfold allKeys
  rw [List.length_flatMap]
  simp only [List.length_map, h]
  rw [sum_const, List.length_range]
theorem nodup_len {α : Type} [DecidableEq α] : ∀ (l D : List α), l.Nodup → (∀ x ∈ l, x ∈ D) → l.length ≤ D.length
  | [], _, _, _ => Nat.zero_le _
  | x :: l, D, hn, h => by
    rw [List.nodup_cons] at hn
    have ih := nodup_len l (D.erase x) hn.2 fun y hy => by
      have hyx : y ≠ x := fun e => hn.1 (e ▸ hy)
      exact (List.mem_erase_of_ne hyx).mpr (h y (List.mem_cons_of_mem _ hy))
    have hx := h x List.mem_cons_self
    rw [List.length_erase_of_mem hx] at ih
    have : 0 < D.length := List.length_pos_of_mem hx
    rw [List.length_cons]
    omega
def natOf : D → Option Nat
  | .int i => if 0 ≤ i ∧ i < 16 then some i.toNat else none
  | _ => none
def natsOf : List D → Option (List Nat)
  | [] => some []
  | d :: ds => (natOf d).bind fun n => (natsOf ds).map (n :: ·)
/-- a key (at, last): at below 9, at most four numbers below 16 -/
def keyD : D → Option NestedKey
  | .tuple [.int a, .tuple ls] => if 0 ≤ a ∧ a < 9 ∧ ls.length ≤ 4 then (natsOf ls).map fun l => .tup [.num a, .tup (l.map fun n => .num (n : Nat))] else none
  | _ => none
theorem natsOf_ok : ∀ {ds : List D} {l : List Nat}, natsOf ds = some l → ds = l.map (fun n => .int (n : Nat)) ∧ ∀ x ∈ l, x < 16
  | [], l, h => by cases h; simp
  | d :: ds, l, h => by
    unfold natsOf at h
    cases e : natOf d with
    | none => rw [e] at h; cases h
    | some n =>
      rw [e] at h
      cases e2 : natsOf ds with
      | none => rw [e2] at h; cases h
      | some m =>
        rw [e2] at h
        cases h
        obtain ⟨q1, q2⟩ := natsOf_ok e2
        have q3 : d = .int (n : Nat) ∧ n < 16 := by
          cases d with
          | int i =>
            simp only [natOf] at e
            split at e
            · cases e
              rename_i hi
              exact ⟨by congr 1; omega, by omega⟩
            · cases e
          | _ => cases e
        refine ⟨by rw [q1, q3.1]; rfl, fun x hx => ?_⟩
        rcases List.mem_cons.mp hx with rfl | hx
        · exact q3.2
        · exact q2 x hx
theorem datas_nums (l : List Nat) : NestedKey.datas (l.map fun n => .num (n : Nat)) = l.map fun n => .int (n : Nat) := by
  induction l with
  | nil => rfl
  | cons x l ih => simp [NestedKey.datas, NestedKey.data, ih]
theorem depth_nums (l : List Nat) : NestedKey.depthAll (l.map fun n => .num (n : Nat)) = 0 := by
  induction l with
  | nil => rfl
  | cons x l ih => simp [NestedKey.depthAll, NestedKey.depth, ih]
theorem keyD_ok {d : D} {key : NestedKey} (h : keyD d = some key) : key.data = d ∧ key.depth ≤ 8 ∧ key ∈ allKeys ∧ ∃ (a : Int) (ls : List D), d = .tuple [.int a, .tuple ls] ∧ noList d = true := by
  unfold keyD at h
  split at h
  · rename_i a ls
    split at h
    · rename_i hc
      cases e : natsOf ls with
      | none => rw [e] at h; cases h
      | some l =>
        rw [e] at h
        cases h
        obtain ⟨q1, q2⟩ := natsOf_ok e
        have hl : l.length ≤ 4 := by rw [q1] at hc; simpa using hc.2.2
        refine ⟨?_, ?_, ?_, a, ls, rfl, ?_⟩
        · simp only [NestedKey.data, NestedKey.datas, datas_nums, q1]
        · simp [NestedKey.depth, NestedKey.depthAll, depth_nums]
        · refine List.mem_flatMap.mpr ⟨a.toNat, List.mem_range.mpr (by omega), List.mem_map.mpr ⟨l, mem_allL 4 l hl q2, ?_⟩⟩
          rw [Int.toNat_of_nonneg hc.1]
        · have : ∀ l : List Nat, noListA (l.map fun n => PyData.int (n : Nat)) = true := fun l => by
            induction l with
            | nil => rfl
            | cons x l ih => simp [noListA, noList, ih]
          rw [q1]
          simp [noList, noListA, this]
    · cases h
  · cases h
theorem keyD_inj {d : D} {k k' : NestedKey} (h : keyD d = some k) (h' : keyD k'.data = some k') (e : k'.data = d) : k' = k := by
  rw [e, h] at h'; cases h'; rfl

/-! ### a good memo -/
def memGood (P : Program) (w : World) (K : PySem.W.Frag) (G : D → R D) (F : Hp) (k : Addr) (o : HO) : Prop :=
  ∃ xs, o = dN P w k xs ∧ (xs.map (·.1)).Nodup ∧ ∀ x ∈ xs, NKey K F x.1 x.2.1 ∧ keyD x.1.data = some x.1 ∧ ∃ v d, RelV v x.2.2 ∧ Dp K F v d ∧ noList d = true ∧ G x.1.data = .ok d
theorem memGood_mono {P : Program} {w : World} {K : PySem.W.Frag} {G : D → R D} {F F' : Hp} {k : Addr} {o : HO} (h : memGood P w K G F k o) (s : Same F F') : memGood P w K G F' k o := by
  obtain ⟨xs, e, n, q⟩ := h
  refine ⟨xs, e, n, fun x hx => ?_⟩
  obtain ⟨a, b, v, d, c, e, f⟩ := q x hx
  exact ⟨a.mono s, b, v, d, c, dp_mono s _ _ e, f⟩
theorem memGood_drop {P : Program} {w : World} {K : PySem.W.Frag} {G : D → R D} {F W : Hp} {k : Addr} {o : HO} (s : ∀ a, F a = W a ∨ ∃ xs, W a = some (.lst xs)) (h : memGood P w K G W k o) : memGood P w K G F k o := by
  obtain ⟨xs, e, n, q⟩ := h
  refine ⟨xs, e, n, fun x hx => ?_⟩
  obtain ⟨a, b, v, d, c, e, f, g⟩ := q x hx
  obtain ⟨_, _, _, _, _, _, nl⟩ := keyD_ok b
  exact ⟨⟨dp_drop s _ _ nl a.1, a.2⟩, b, v, d, c, dp_drop s _ _ f e, f, g⟩
theorem mem_len {xs : NXs} (n : (xs.map (·.1)).Nodup) (h : ∀ x ∈ xs, keyD x.1.data = some x.1) : xs.length < sizeLine := by
  have := nodup_len (xs.map (·.1)) allKeys n fun k hk => by
    obtain ⟨x, hx, rfl⟩ := List.mem_map.mp hk
    exact (keyD_ok (h x hx)).2.2.1
  rw [List.length_map, allKeys_len] at this
  exact sz_lt (by omega)
theorem atKey_mem {xs : NXs} {k : NestedKey} {p : Addr × Value} (h : atKey xs k = some p) : (k, p) ∈ xs := by
  unfold atKey at h
  cases e : xs.find? (fun x => decide (x.1 = k)) with
  | none => rw [e] at h; cases h
  | some x =>
    rw [e] at h
    cases h
    have h1 := List.mem_of_find?_eq_some e
    have h2 := List.find?_some e
    have : x.1 = k := by simpa using h2
    rw [← this]
    exact h1
theorem atKey_stored {xs : NXs} {k : NestedKey} (a : Addr) (u : Value) : ∃ b, atKey (storedH xs k a u) k = some (b, u) := by
  unfold storedH
  by_cases h : (atKey xs k).isSome = true
  · rw [if_pos h]
    obtain ⟨p, hp⟩ := Option.isSome_iff_exists.mp h
    refine ⟨p.1, ?_⟩
    have key : ∀ l : NXs, atKey l k = some p → atKey (l.map (putAt k u)) k = some (p.1, u) := fun l => by
      induction l with
      | nil => intro h; cases h
      | cons x l ih =>
        intro h
        by_cases hx : x.1 = k
        · have : x.2 = p := by simpa [atKey, hx] using h
          simp [atKey, putAt, hx, ← this]
        · have h' : atKey l k = some p := by simpa [atKey, hx] using h
          have := ih h'
          simpa [atKey, putAt, hx] using this
    exact key xs hp
  · rw [if_neg h]
    have hn : atKey xs k = none := by simpa using h
    refine ⟨a, ?_⟩
    have key : ∀ l : NXs, atKey l k = none → atKey (l ++ [(k, a, u)]) k = some (a, u) := fun l => by
      induction l with
      | nil => intro _; simp [atKey]
      | cons x l ih =>
        intro h
        by_cases hx : x.1 = k
        · simp [atKey, hx] at h
        · have h' : atKey l k = none := by simpa [atKey, hx] using h
          have := ih h'
          simpa [atKey, hx] using this
    exact key xs hn
theorem memGood_put {P : Program} {w : World} {K : PySem.W.Frag} {G : D → R D} {F : Hp} {k b : Addr} {xs : NXs} {key : NestedKey} {v : V} {d : D} {u : Value} (n : (xs.map (·.1)).Nodup) (q : ∀ x ∈ xs, NKey K F x.1 x.2.1 ∧ keyD x.1.data = some x.1 ∧ ∃ v d, RelV v x.2.2 ∧ Dp K F v d ∧ noList d = true ∧ G x.1.data = .ok d)
    (kb : NKey K F key b) (hk : keyD key.data = some key) (rv : RelV v u) (dv : Dp K F v d) (nl : noList d = true) (hg : G key.data = .ok d) : memGood P w K G F k (dN P w k (storedH xs key b u)) := by
  refine ⟨_, rfl, ?_, fun x hx => ?_⟩
  · unfold storedH
    split
    · rw [List.map_map]
      have : ((fun x : NestedKey × Addr × Value => x.1) ∘ putAt key u) = fun x => x.1 := by
        funext x
        simp only [Function.comp, putAt]
        split <;> rfl
      rw [this]
      exact n
    · rename_i hn
      rw [List.map_append, List.nodup_append]
      refine ⟨n, by simp, fun x hx y hy e => ?_⟩
      simp only [List.map_cons, List.map_nil, List.mem_singleton] at hy
      subst hy; subst e
      obtain ⟨z, hz, e⟩ := List.mem_map.mp hx
      apply hn
      unfold atKey
      rw [Option.isSome_map, List.find?_isSome]
      exact ⟨z, hz, by simpa using e⟩
  · unfold storedH at hx
    split at hx
    · obtain ⟨y, hy, rfl⟩ := List.mem_map.mp hx
      unfold putAt
      split
      · rename_i e
        obtain ⟨a1, a2, _⟩ := q y hy
        exact ⟨a1, a2, v, d, rv, dv, nl, by rw [e]; exact hg⟩
      · exact q y hy
    · rcases List.mem_append.mp hx with hx | hx
      · exact q x hx
      · rw [List.mem_singleton] at hx
        subst hx
        exact ⟨kb, hk, v, d, rv, dv, nl, hg⟩
/-- the memos that are linked are good by G -/
def MemV [Mem] (P : Program) (w : World) (K : PySem.W.Frag) (cn : Str) (G : D → D → R D) : Prop := ∀ kvs k, Mem.lk (objD cn kvs) k → Mem.is k ∧ ∀ F o, Mem.good F k o ↔ memGood P w K (G (objD cn kvs)) F k o
/-- the promise of a method that uses the memo -/
def spW (P : Program) (w : World) (K : PySem.W.Frag) (mg : Str → Option Value) (cn : Str) (G : D → D → R D) (n : Nat) (g : List D → R D) : Sp := fun vs H Q E =>
  vs.length = n ∧ ∃ (M : Mem) (F : Hp) (ds : List D), MemV P w K cn G ∧ Wf F H ∧ DQAll K F vs ds ∧ Post F H (erX mg E) (g ds) (fun F' H' d => ∀ v, Dp K F' v d → Q v H')
end DL

set_option maxHeartbeats 1000000
/-! DM4: the memo's statement, and a method that holds it. -/
namespace DL
open PySem PySem.Spec L2
open PyProof.Rows hiding St
variable [Mem]

def outM : Out → R D
  | .nx _ => .ok .none
  | .rt d _ => .ok d
  | .err c _ => .err c
  | _ => .bad
def clsIs (cn : Str) (d : D) : Bool := match objOf d with
  | some (c, _) => decide (c = cn)
  | none => false
/-- what runs ahead of the store changes none of the first three slots -/
def AOk (o : Out) (ρ : Env) : Prop := match o with
  | .nx ρ' => ρ'.length = ρ.length ∧ ∀ i, i < 3 → ρ'[i]? = ρ[i]?
  | .err _ ρ' => ρ'.length = ρ.length
  | .bad => True
  | _ => False
def memoO (m : Nat) (b : Bool) (r : R D) : Out := if b = true then (match r with
  | .ok d => if noList d = true then .rt d (List.replicate m none) else .bad
  | .err c => .err c (List.replicate m none)
  | .bad => .bad) else .bad
def memoS (cn : Str) (G : D → D → R D) (cond : D → D → Bool) (m : Nat) : SF := fun ρ => match ρ with
  | some d0 :: some k1 :: some k2 :: r => memoO (r.length + 3) (clsIs cn d0 && (keyD (.tuple [k1, k2])).isSome && cond d0 (.tuple [k1, k2]) && (r.all (·.isNone) && decide (r.length = m))) (G d0 (.tuple [k1, k2]))
  | _ => .bad
abbrev tKey : TE := tTup (tCons (tVar 1) (tCons (tVar 2) tNil))
abbrev tKnown (K : PySem.W.Frag) : TE := tFld K (tVar 0) "known"
section
variable {X : Cx} {Er : ErT} {s0 : Sh} {wl w w1 w' : List Sh} {fr : Fr} {F H : Hp} {σ : St} {ρ : Env}
theorem SR.memo {k : Addr} {o : HO} (h : SR X.K fr w F H σ ρ) (hk : Mem.is k) (g : Mem.good F k o) : SR X.K fr w F (upd H k o) σ ρ := by
  obtain ⟨os, s⟩ := h
  have fk := (s.fh.m k hk).1
  refine ⟨os, ⟨fun a u e => ?_, fun a z => ?_⟩, fun a u n e => ?_, s.f0, s.nw, fun i a u e => ?_, s.ow, s.sl, s.len, s.om⟩
  · rw [upd_ne (ne_of_none e fk)]; exact s.fh.s a u e
  · by_cases ha : a = k
    · subst ha; exact ⟨fk, o, upd_same, g⟩
    · rw [upd_ne ha]; exact s.fh.m a z
  · rw [upd_ne (fun z => n (by rw [z]; exact hk))]; exact s.gh a u n e
  · rw [upd_ne (fun z => s.om i a (by rw [e]; simp) (by rw [z]; exact hk))]; exact s.oh i a u e
/-- the object in slot 0 and its memo -/
theorem self_at {cn : Str} {G : D → D → R D} {d0 : D} (hv : MemV X.prog X.w X.K cn G) (hcl : ∀ C, PySem.W.nsIn X.K mainGlobals cn = some (some (.ref C)) → Cls X.K C ∧ NoAttr X.K C "known") (st : SR X.K fr w F H σ ρ) (e : ρ[0]? = some (some d0)) (hw : sh w 0 = .fz) (hc : clsIs cn d0 = true) :
    ∃ a C dx fs kad, σ[0]? = some (some (.ref a)) ∧ F a = some (.ins C dx fs) ∧ Cls X.K C ∧ NoAttr X.K C "known" ∧ fs.lookup ("known" : Str) = some (.ref kad) ∧ Mem.is kad ∧ ∀ F o, Mem.good F kad o ↔ memGood X.prog X.w X.K (G d0) F kad o := by
  obtain ⟨os, s⟩ := st
  obtain ⟨v, q1, q2⟩ := s.sl 0 d0 e
  rw [hw] at q2
  unfold clsIs at hc
  cases eo : objOf d0 with
  | none => rw [eo] at hc; cases hc
  | some q =>
    obtain ⟨c, kvs⟩ := q
    rw [eo] at hc
    simp only [decide_eq_true_eq] at hc
    subst hc
    obtain ⟨a, fs, c', kvs', rfl, e2, ⟨kad, l1, l2⟩, e4, _, _⟩ := dq_obj q2 eo
    obtain ⟨rfl, rfl⟩ := objD_inj e2
    obtain ⟨C, dx, n1, n2, n3⟩ := e4.at_
    obtain ⟨k1, k2⟩ := hcl C n1
    obtain ⟨m1, m2⟩ := hv kvs kad l2
    rw [objOf_inv eo]
    exact ⟨a, C, dx, fs, kad, q1, n2, k1, k2, l1, m1, m2⟩
/-- the key laid anew -/
theorem key_at {k1 k2 : D} {key : NestedKey} {Q : VK} (st : SR X.K fr w F H σ ρ) (e1 : ρ[1]? = some (some k1)) (e2 : ρ[2]? = some (some k2)) (h1 : sh w 1 = .fz) (h2 : sh w 2 = .fz) (hk : keyD (.tuple [k1, k2]) = some key)
    (q : ∀ (b : Addr) (o : HO) (F1 : Hp), H b = none → SR X.K fr w F1 (upd H b o) σ ρ → Same F F1 → NKey X.K F1 key b → Q (.ref b) (upd H b o)) : tKey σ H Q := by
  obtain ⟨hd, h8, _, a, ls, ed, nl⟩ := keyD_ok hk
  cases ed
  have st0 := st
  obtain ⟨os, s⟩ := st
  obtain ⟨v1, a1, b1⟩ := s.sl 1 _ e1
  obtain ⟨v2, a2, b2⟩ := s.sl 2 _ e2
  rw [h1] at b1
  rw [h2] at b2
  have c1 := (dq_dp b1 rfl).1
  have c2 := (dq_dp b2 rfl).1
  refine ⟨v1, a1, v2, a2, sz_of (by simp), fun b hb => ?_⟩
  have g := Grow.new (o := .tup [v1, v2]) s.fh hb
  refine q b _ _ hb (st0.grow g) g.ff ⟨?_, h8⟩
  rw [hd]
  exact .tup (.inl (.inl upd_same)) (.cons (dp_mono g.ff _ _ c1) (.cons (dp_mono g.ff _ _ c2) .nil))
theorem SR.blank {r : List (Option D)} (h : SR X.K fr w F H σ ρ) (hl : r.length = ρ.length) (hn : ∀ (i : Nat) (d : D), r[i]? ≠ some (some d)) : SR X.K fr w F H σ r := h.weak hl fun i d e => absurd e (hn i d)
theorem rep_none {m i : Nat} {d : D} : (List.replicate m (none : Option D))[i]? ≠ some (some d) := fun e => by
  have := List.mem_of_getElem? e
  rw [List.mem_replicate] at this
  cases this.2
theorem dr_memo {cn : Str} {G : D → D → R D} {cond : D → D → Bool} {m : Nat} {tA : TS} {tE : TE} {fA : SF} {fE : EF} (hv : MemV X.prog X.w X.K cn G) (hcl : ∀ C, PySem.W.nsIn X.K mainGlobals cn = some (some (.ref C)) → Cls X.K C ∧ NoAttr X.K C "known")
    (hw : ∀ j, j < 3 → sh w j = .fz) (hw1 : ∀ j, j < 3 → sh w1 j = .fz) (h0 : s0 = .fz) (hA : DRs X.K Er s0 wl w w1 tA fA) (hE : DRd X.K Er tE fE)
    (hA1 : ∀ ρ, AOk (fA ρ) ρ)
    (hG : ∀ d0 k1 k2, cond d0 (.tuple [k1, k2]) = true → outM (seqS fA (retS w1 fE) (some d0 :: some k1 :: some k2 :: List.replicate m none)) = G d0 (.tuple [k1, k2])) :
    DRs X.K Er s0 wl w w' (tSeq (tIfS (tB (tNNotIn X tKey (tKnown X.K))) (tSeq tA (sNPut X (tKnown X.K) tKey tE)) tNext) (tRet (tNGet X (tKnown X.K) tKey))) (memoS cn G cond m) := by
  subst h0
  intro fr F H σ ρ Dn st p
  match ρ, st, p with
  | some d0 :: some k1 :: some k2 :: r, st, p =>
    simp only [memoS] at p
    generalize hb : (clsIs cn d0 && (keyD (.tuple [k1, k2])).isSome && cond d0 (.tuple [k1, k2]) && (r.all (·.isNone) && decide (r.length = m))) = bb at p
    cases bb with
    | false => exact p.elim
    | true =>
    simp only [Bool.and_eq_true] at hb
    obtain ⟨⟨⟨hc, hk⟩, hcd⟩, hr, hrl⟩ := hb
    obtain ⟨key, hk⟩ := Option.isSome_iff_exists.mp hk
    have hr' : r = List.replicate m none := List.eq_replicate_iff.mpr ⟨by simpa using hrl, fun x hx => by simpa using List.all_eq_true.mp hr x hx⟩
    have hg := hG d0 k1 k2 hcd
    rw [← hr'] at hg
    obtain ⟨kd, k8, _, _, _, _, knl⟩ := keyD_ok hk
    have hkk : keyD key.data = some key := by rw [kd]; exact hk
    obtain ⟨a, C, dx, fs, kad, z1, z2, z3, z4, z5, z6, z7⟩ := self_at hv hcl st rfl (hw 0 (by omega)) hc
    simp only [memoO, if_pos] at p
    -- the test
    dsimp only [tSeq, tIfS, tB, tNNotIn]
    refine key_at st rfl rfl (hw 1 (by omega)) (hw 2 (by omega)) hk fun b o F1 hb st1 sF1 kb => ?_
    have nkb : kad ≠ b := fun e => by subst e; exact st.fh.no hb z6
    refine ⟨.ref a, z1, a, C, dx, fs, .ref kad, rfl, st1.fh.s a _ (sF1 a _ z2), z3, z4, z5, ?_⟩
    obtain ⟨fk, om, ho, hgood⟩ := st1.fh.m kad z6
    obtain ⟨xs, rfl, nd, hxs⟩ := (z7 _ _).mp hgood
    have lift : ∀ {H2 : Hp} {F2 : Hp} {k : NestedKey} {c : Addr}, Same F2 H2 → NKey X.K F2 k c → NKey X.K H2 k c := fun s h => h.mono s
    refine ⟨kad, b, xs, key, ⟨rfl, rfl, ho, fun x hx => (hxs x hx).1.mono st1.fh.s, kb.mono st1.fh.s⟩, _, rfl, ?_⟩
    -- what is read at the end
    have fin : ∀ (a : Addr) (C dx : Addr) (fs : List (Str × V)) (kad : Addr), Cls X.K C → NoAttr X.K C "known" → fs.lookup ("known" : Str) = some (.ref kad) → ∀ (σ3 : St) (H3 F3 : Hp) (ρ3 : Env) (w3 : List Sh) (ys : NXs) (p3 : Addr × Value) (v3 : V) (d3 : D), (∀ j, j < 3 → sh w3 j = .fz) → SR X.K fr w3 F3 H3 σ3 ρ3 → ρ3.length = r.length + 3 → (∀ i, i < 3 → ρ3[i]? = (some d0 :: some k1 :: some k2 :: r)[i]?) → σ3[0]? = some (some (.ref a)) → F3 a = some (.ins C dx fs) → H3 kad = some (dN X.prog X.w kad ys) → (∀ x ∈ ys, NKey X.K F3 x.1 x.2.1) →
        atKey ys key = some p3 → RelV v3 p3.2 → Dp X.K F3 v3 d3 → noList d3 = true → G d0 (.tuple [k1, k2]) = .ok d3 → tRet (tNGet X (tKnown X.K) tKey) Dn σ3 H3 := fun a C dx fs kad z3 z4 z5 σ3 H3 F3 ρ3 w3 ys p3 v3 d3 hw3 st3 hl3 hρ3 q1 q2 q3 q4 q5 q6 q7 q8 q9 => by
      refine ⟨.ref a, q1, a, C, dx, fs, .ref kad, rfl, st3.fh.s a _ q2, z3, z4, z5, ?_⟩
      refine key_at st3 (hρ3 1 (by omega)) (hρ3 2 (by omega)) (hw3 1 (by omega)) (hw3 2 (by omega)) hk fun b2 o2 F4 hb2 st4 sF4 kb2 => ?_
      have nkb2 : kad ≠ b2 := fun e => by rw [e, hb2] at q3; cases q3
      refine ⟨kad, b2, ys, key, p3, v3, ⟨rfl, rfl, by rw [upd_ne nkb2]; exact q3, fun x hx => ((q4 x hx).mono sF4).mono st4.fh.s, kb2.mono st4.fh.s⟩, q5, q6, ?_⟩
      rw [q9] at p
      simp only [if_pos q8] at p
      exact p σ3 F4 _ v3 w3 (hw3 0 (by omega)) (st4.blank (by rw [List.length_replicate, hl3]) fun i d => rep_none) (dp_mono sF4 _ _ q7)
    cases hf : atKey xs key with
    | some pr =>
      -- it is there
      simp only [Option.isSome_some, Bool.not_true, Bool.false_eq_true, if_false]
      obtain ⟨y1, y2, v, d, y3, y4, y5, y6⟩ := hxs (key, pr) (atKey_mem hf)
      rw [kd] at y6
      exact fin a C dx fs kad z3 z4 z5 σ _ F1 _ w xs pr v d hw st1 (by simp) (fun _ _ => rfl) z1 (sF1 a _ z2) ho (fun x hx => (hxs x hx).1) hf y3 y4 y5 y6
    | none =>
      simp only [Option.isSome_none, Bool.not_false, if_true]
      have errs : ∀ c, G d0 (.tuple [k1, k2]) = .err c → ∀ σ' F' H' w'' (ρ' : Env), ρ'.length = r.length + 3 → sh w'' 0 = .fz → SR X.K fr w'' F' H' σ' ρ' → Er c H' := fun c hc σ' F' H' w'' ρ' hl hw st' => by
        rw [hc] at p
        exact p σ' F' H' w'' hw (st'.blank (by rw [List.length_replicate, hl]) fun i d => rep_none)
      refine hA fr F1 _ σ _ _ st1 ?_
      unfold seqS at hg
      have hok := hA1 (some d0 :: some k1 :: some k2 :: r)
      cases ef : fA (some d0 :: some k1 :: some k2 :: r) with
      | rt d ρ' => rw [ef] at hok; exact hok.elim
      | bk ρ' => rw [ef] at hok; exact hok.elim
      | bad =>
        rw [ef] at hg
        have hg : R.bad = G d0 (.tuple [k1, k2]) := hg
        rw [← hg] at p
        exact p.elim
      | err c ρ' =>
        rw [ef] at hg hok
        have hg : R.err c = G d0 (.tuple [k1, k2]) := hg
        exact fun σ' F' H' w'' hw'' st' => errs c hg.symm σ' F' H' w'' ρ' (by have hok : ρ'.length = _ := hok; simpa using hok) hw'' st'
      | nx ρ' =>
        rw [ef, then_nx] at hg
        rw [ef] at hok
        obtain ⟨hl, hs⟩ := hok
        have hl : ρ'.length = r.length + 3 := by simpa using hl
        intro σ2 F2 H2 s2 st2
        have q0 : ρ'[0]? = some (some d0) := (hs 0 (by omega)).trans rfl
        obtain ⟨a', C', dx', fs', kad', y1, y2, y3, y4, y5, y6, y7⟩ := self_at hv hcl st2 q0 (hw1 0 (by omega)) hc
        unfold retS at hg
        refine hE F2 H2 σ2 (hidA w1 ρ') _ st2.fh st2.envA ?_
        cases ee : fE (hidA w1 ρ') with
        | bad =>
          rw [ee] at hg
          have hg : R.bad = G d0 (.tuple [k1, k2]) := hg
          rw [← hg] at p
          exact p.elim
        | err c =>
          rw [ee] at hg
          have hg : R.err c = G d0 (.tuple [k1, k2]) := hg
          exact fun F' H' gr => errs c hg.symm σ2 F' H' w1 ρ' hl (hw1 0 (by omega)) (st2.grow gr)
        | ok d =>
          rw [ee] at hg
          have hg : R.ok d = G d0 (.tuple [k1, k2]) := hg
          have nl : noList d = true := by
            rw [← hg] at p
            by_cases n : noList d = true
            · exact n
            · simp only [if_neg n] at p; exact p.elim
          intro F3 H3 gr v dv
          have st3 := st2.grow gr
          refine ⟨.ref a', y1, a', C', dx', fs', .ref kad', rfl, st3.fh.s a' _ (gr.ff a' _ y2), y3, y4, y5, ?_⟩
          refine key_at st3 ((hs 1 (by omega)).trans rfl) ((hs 2 (by omega)).trans rfl) (hw1 1 (by omega)) (hw1 2 (by omega)) hk fun b2 o2 F4 hb2 st4 sF4 kb2 => ?_
          obtain ⟨fk4, om4, ho4, hgood4⟩ := st4.fh.m kad' y6
          obtain ⟨ys, rfl, nd4, hys⟩ := (y7 _ _).mp hgood4
          refine ⟨kad', b2, ys, key, ⟨rfl, rfl, ho4, fun x hx => (hys x hx).1.mono st4.fh.s, kb2.mono st4.fh.s⟩, mem_len nd4 fun x hx => (hys x hx).2.1, fun u ru => ?_⟩
          have good5 : memGood X.prog X.w X.K (G d0) F4 kad' (dN X.prog X.w kad' (storedH ys key b2 u)) := memGood_put nd4 hys kb2 hkk ru (dp_mono sF4 _ _ dv) nl (by rw [kd]; exact hg.symm)
          have st5 := st4.memo y6 ((y7 _ _).mpr good5)
          obtain ⟨b3, hb3⟩ := atKey_stored (xs := ys) (k := key) b2 u
          have keys5 : ∀ x ∈ storedH ys key b2 u, NKey X.K F4 x.1 x.2.1 := by
            obtain ⟨zs, ez, _, hz⟩ := good5
            intro x hx
            unfold storedH at hx
            split at hx
            · obtain ⟨y, hy, rfl⟩ := List.mem_map.mp hx
              unfold putAt
              split
              · exact (hys y hy).1
              · exact (hys y hy).1
            · rcases List.mem_append.mp hx with hx | hx
              · exact (hys x hx).1
              · rw [List.mem_singleton] at hx
                subst hx
                exact kb2
          have sF24 : Same F2 F4 := same_trans gr.ff sF4
          exact fin a' C' dx' fs' kad' y3 y4 y5 σ2 _ F4 ρ' w1 _ (b3, u) v d hw1 st5 hl (fun i hi => hs i hi) y1 (sF24 a' _ y2) upd_same keys5 hb3 ru (dp_mono sF4 _ _ dv) nl hg.symm
  | [], _, p => exact p.elim
  | [_], _, p => cases ‹Option D› <;> exact p.elim
  | [some _, some _], _, p => exact p.elim
  | [none, _], _, p => exact p.elim
  | [some _, none], _, p => exact p.elim
  | none :: _ :: _ :: _, _, p => exact p.elim
  | some _ :: none :: _ :: _, _, p => exact p.elim
  | some _ :: some _ :: none :: _, _, p => exact p.elim
end
end DL

set_option maxHeartbeats 1000000
/-! DM5: methods that use the memo; an object made, with its memo. -/
namespace DL
open PySem PySem.Spec L2
open PyProof.Rows hiding St

section
variable {P : Program} {w' : World} {K : PySem.W.Frag} {mg : Str → Option Value} {base : Heap}
theorem fn_okW {x qual : Str} {st : Stmt} {f : Addr} {fd : FuncData} {N ps : List Str} {k : Nat} {n : Nat} {fb : SF} {ws : List Sh} {cn : Str} {G : D → D → R D} (F : Fun K x qual st f fd) (S : FnScope N ps (defScope st)) (hn : ps.length = n) (hws : fzAll ws = true)
    (body : ∀ [Mem] (_ : MemV P w' K cn G) (cdv : Value) (A : Around) (outer : List PySem.Env) (s : Shared) (H : Hp) (E : XK), Room k (A.deeper (envOfC qual (defScope st) s.heap.objs.size f cdv)) →
      ∃ t ws', DS (cxOf (L2.CX P w') P w' K mg base N qual (defScope st) f cdv A outer s H E) (erX mg E) .fz [] ws (defBody st) ws' t fb) : FnOk P w' K mg base (L2.CX P w') (k + 1) f fd ps (spW P w' K mg cn G n (runD N.length fb)) := by
  refine F.okX S (fun vs H Q E h => by rw [hn]; exact h.1) (fun cdv A outer s H vs Q E hr h => ?_)
  obtain ⟨hl, M, F0, ds, hv, s0, dv, p⟩ := h
  obtain ⟨t, ws', h1, h2⟩ := body hv cdv A outer s H E hr
  refine ⟨t, h1, ?_⟩
  refine h2 ⟨F0, H⟩ F0 H _ (ds.map some ++ List.replicate (N.length - ds.length) none) _ ⟨fun _ => emp, s0, fun _ _ _ h => h, same_refl _, fun a h _ => h, fun i a o z => by (cases z), fun i a z => absurd rfl z, fun i d e => ?_, ?_, fun i a z => absurd rfl z⟩ ?_
  · obtain ⟨v, q1, q2⟩ := start_env dv N i d e
    exact ⟨v, q1, by rw [fzAll_ok hws i]; exact q2⟩
  · have := dqAll_len dv
    simp [L2.start, this]
  · have gr : ∀ {w'' σ' F' H' ρ'}, SR K ⟨F0, H⟩ w'' F' H' σ' ρ' → Grow F0 H F' H' := fun {w'' σ' F' H' ρ'} st => by
      obtain ⟨os, q⟩ := st
      exact ⟨q.f0, q.gh, q.fh, q.nw⟩
    unfold runD at p
    cases e : fb (ds.map some ++ List.replicate (N.length - ds.length) none) with
    | nx ρ' =>
      rw [e] at p
      exact fun σ' F' H' s' st' => p F' H' (gr st') _ .non
    | rt d ρ' =>
      rw [e] at p
      exact fun σ' F' H' v w'' _ st' dv' => p F' H' (gr st') v dv'
    | err c ρ' =>
      rw [e] at p
      exact fun σ' F' H' w'' _ st' => p F' H' (gr st')
    | bk ρ' => rw [e] at p; exact p.elim
    | bad => rw [e] at p; exact p.elim
end
section
variable [Mem] {X : Cx} {Er : ErT} {te : TE} {ta : TA} {e : Expr} {fe : EF} {pos : Pos}
theorem dr_methW {P : Program} {w : World} {K : PySem.W.Frag} {mg : Str → Option Value} {E : XK} {C : Addr} {cn m : Str} {G : D → D → R D} {n : Nat} {g : List D → R D} {fa : AF} (hv : MemV P w K cn G) (hC : PySem.W.nsIn K mainGlobals cn = some (some (.ref C))) (he : ∀ c H', Er c H' → erX mg E c H') (hn : ∀ ρ ds, fa ρ = .ok ds → ds.length + 1 = n) (h : DRe K Er te fe) (ha : DRq K Er ta fa) :
    DRd K Er (tMeth C m (spW P w K mg cn G n g) [] E te ta) (methE cn m g fe fa) := by
  intro F H σ ρ Q s st p
  refine h F H σ ρ _ s st (Post.imp (Post.bind p) fun F1 H1 d g1 p1 v dv => ?_)
  cases eo : objOf d with
  | none => simp only [eo, methO] at p1; exact p1.elim
  | some q =>
    obtain ⟨c, kvs⟩ := q
    simp only [eo] at p1
    by_cases hm : methO cn m (some (c, kvs)) = true
    · rw [if_pos hm] at p1
      simp only [methO, Bool.and_eq_true, decide_eq_true_eq] at hm
      obtain ⟨⟨rfl, hm1⟩, hm2⟩ := hm
      have dv' := dv
      obtain ⟨a, fs, c', kvs', rfl, e2, e3, e4, e5, e6⟩ := dq_obj dv eo
      obtain ⟨rfl, rfl⟩ := objD_inj e2
      obtain ⟨C', dx, n1, n2, n3⟩ := e4.at_
      have := ns_inj hC n1
      subst this
      refine ⟨a, dx, fs, rfl, g1.fh.s a _ n2, e6 m hm2 (lookup_none hm1), ?_⟩
      refine ha F1 H1 σ ρ _ g1.fh (st.mono g1.ff) ?_
      have q := Post.bind p1
      cases hr : fa ρ with
      | ok ds =>
        rw [hr] at q
        intro F' H' g' vs dvs
        rw [List.append_nil]
        have := dqAll_len dvs
        have := hn ρ ds hr
        exact ⟨by simp; omega, ‹Mem›, F', d :: ds, hv, g'.fh, ⟨dq_mono g'.ff dv', dvs⟩, Post.er (q F' H' g') he⟩
      | err c => rw [hr] at q; exact q
      | bad => rw [hr] at q; exact q
    · rw [if_neg hm] at p1; exact p1.elim
theorem de_methW {pl : Sem Bool} {CX : CXT} {k n : Nat} {f : Addr} {fd : FuncData} {ps : List Str} {E : XK} {C : Addr} {cn m : Str} {G : D → D → R D} {g : List D → R D} {fa : AF} {e1 : Expr} {es : List Expr} {apos : Pos} (hv : MemV X.prog X.w X.K cn G) (h : DEq X Er e te fe) (hC : PySem.W.nsIn X.K mainGlobals cn = some (some (.ref C))) (c : Cls X.K C) (hm : Meth X.K C m f)
    (F : FnOk X.prog X.w X.K X.mg X.base CX k f fd ps (spW X.prog X.w X.K X.mg cn G n g)) (hr : Room k X.A) (hb : Binds X.K fd ps []) (hx : Passes CX X E) (he : ∀ c H', Er c H' → erX X.mg E c H') (ha : DAq X Er (e1 :: es) ta fa) (hn : ∀ ρ ds, fa ρ = .ok ds → ds.length + 1 = n)
    (hst : starEach (e1 :: es) X.env = (false, eval e1 X.env) :: starEach es X.env := by rfl) (hpl : (backTo pos (starEach es X.env)).any (·.1) = false := by rfl)
    (ht : eval (.Call (.Attribute e m apos) (e1 :: es) [] pos) X.env = (do
      let ov ← eval e X.env
      standAt apos.atName
      let (f, first) ← holding [ov] (getMethod ov m pl)
      callWith pos f first (backTo pos (starEach (e1 :: es) X.env)) (backToKw pos (keywordEach [] X.env))) := by rfl) :
    DE X Er (.Call (.Attribute e m apos) (e1 :: es) [] pos) (tMeth C m (spW X.prog X.w X.K X.mg cn G n g) [] E te ta) (methE cn m g fe fa) :=
  ⟨pe_meth h.pe c hm F hr hb .nil hx ha.pe hst hpl ht, dr_methW hv hC he hn h.rd ha.rd⟩
end
/-! ### an object made -/
/-- one object's memo -/
@[reducible] def memK (P : Program) (w : World) (K : PySem.W.Frag) (G : D → R D) (d0 : D) (kad : Addr) : Mem where
  is := fun a => a = kad
  good := fun F k o => memGood P w K G F k o
  mono := memGood_mono
  drop := memGood_drop
  lk := fun d k => d = d0 ∧ k = kad
theorem memK_v {P : Program} {w : World} {K : PySem.W.Frag} {G : D → D → R D} {cn : Str} {d0 : D} {kad : Addr} : @MemV (memK P w K (G d0) d0 kad) P w K cn G := fun kvs k ⟨e1, e2⟩ => by
  subst e2
  rw [e1]
  exact ⟨rfl, fun _ _ => .rfl⟩
theorem grow_leave {M M' : Mem} {F1 H1 F2 H2 F' H' : Hp} (w : @Wf M F1 H1) (hk : ∀ a, M'.is a → H1 a = none) (sF : Same F1 F2) (sH : Same H1 H2) (nw : ∀ a, F2 a ≠ none → H1 a ≠ none → F1 a ≠ none) (g : @Grow M' F2 H2 F' H') : @Grow M F1 H1 F' H' := by
  have keep : ∀ a o, H1 a = some o → H' a = some o := fun a o e => g.hh a o (fun z => by rw [hk a z] at e; cases e) (sH a o e)
  have nw' : ∀ a, F' a ≠ none → H1 a ≠ none → F1 a ≠ none := fun a h1 h2 => nw a (g.nw a h1 (same_ne sH h2)) h2
  have sf : Same F1 F' := same_trans sF g.ff
  refine @Grow.mk M F1 H1 F' H' sf (fun a o _ e => keep a o e) (@Wf.mk M F' H' g.fh.s fun a z => ?_) nw'
  obtain ⟨e1, o, e2, e3⟩ := @Wf.m M F1 H1 w a z
  refine ⟨?_, o, keep a o e2, M.mono e3 sf⟩
  cases q : F' a with
  | none => rfl
  | some u => exact absurd e1 (nw' a (by rw [q]; simp) (by rw [e2]; simp))
def ctrF (v1 v2 vp vc : V) (kad : Addr) : List (Str × V) := [("tiles", v1), ("goal", v2), ("places", vp), ("columns", vc), ("known", .ref kad)]
def ctrD (cn : Str) (T G pl c : D) : D := objD cn [("tiles", T), ("goal", G), ("places", pl), ("columns", c)]
/-- the promise of Counter's __init__ -/
def spI (P : Program) (w : World) (K : PySem.W.Frag) (C : Addr) (g : D → R (D × D)) : Sp := fun vs H Q _ =>
  ∃ (M : Mem) (F Hb : Hp) (v1 v2 : V) (T G : D) (a dx : Addr), vs = [.ref a, v1, v2] ∧ Hb a = none ∧ H = upd Hb a (.ins C dx []) ∧ Hb dx = some (.own a) ∧ Wf F Hb ∧ Dp K F v1 T ∧ Dp K F v2 G ∧
    Post F Hb (fun _ _ => False) (g G) (fun F' Hb' pc => ∀ vp vc kad, Dp K F' vp pc.1 → Dp K F' vc pc.2 → Hb' a = none → Hb' kad = none → kad ≠ a → Q .non (upd (upd Hb' a (.ins C dx (ctrF v1 v2 vp vc kad))) kad (dN P w kad [])))
/-- what Counter(T, G) is -/
def newO (cn : Str) (g : D → R (D × D)) : List D → R D
  | [T, G] => (g G).noErr.bind fun pc => .ok (ctrD cn T G pc.1 pc.2)
  | _ => .bad
theorem new_laid {P : Program} {w : World} {K : PySem.W.Frag} {cn : Str} {G : D → D → R D} {C a dx kad : Addr} {F1 F' Hb' : Hp} {v1 v2 vp vc : V} {T Gd pl c : D} (hC : PySem.W.nsIn K mainGlobals cn = some (some (.ref C)))
    (wf : Same F' Hb') (d1 : Dp K F' v1 T) (d2 : Dp K F' v2 Gd) (d3 : Dp K F' vp pl) (d4 : Dp K F' vc c) (ha : Hb' a = none) (hk : Hb' kad = none) (hka : kad ≠ a) (hdx : Hb' dx = some (.own a)) (hF : F' dx = none) :
    ∃ F2, F2 = upd (upd F' a (.ins C dx (ctrF v1 v2 vp vc kad))) dx (.own a) ∧ Same F' F2 ∧ @Wf (memK P w K (G (ctrD cn T Gd pl c)) (ctrD cn T Gd pl c) kad) F2 (upd (upd Hb' a (.ins C dx (ctrF v1 v2 vp vc kad))) kad (dN P w kad [])) ∧
      @ObQ (memK P w K (G (ctrD cn T Gd pl c)) (ctrD cn T Gd pl c) kad) K F2 (.ref a) (ctrD cn T Gd pl c) := by
  have nda : dx ≠ a := fun z => by rw [z, ha] at hdx; cases hdx
  have ndk : dx ≠ kad := fun z => by rw [z, hk] at hdx; cases hdx
  have fa : F' a = none := none_of_same wf ha
  have fk : F' kad = none := none_of_same wf hk
  have s2 : Same F' (upd (upd F' a (.ins C dx (ctrF v1 v2 vp vc kad))) dx (.own a)) := fun b o e => by
    rw [upd_ne (ne_of_none e hF), upd_ne (ne_of_none e fa)]; exact e
  refine ⟨_, rfl, s2, @Wf.mk (memK P w K (G (ctrD cn T Gd pl c)) (ctrD cn T Gd pl c) kad) _ _ (fun b o e => ?_) (fun b z => ?_), a, ctrF v1 v2 vp vc kad, cn, _, rfl, rfl, ⟨kad, by rfl, rfl, rfl⟩, ⟨⟨C, dx, hC, ?_, upd_same⟩⟩, ?_, fun f h1 h2 => ?_⟩
  · by_cases hb : b = dx
    · subst hb
      rw [upd_same] at e
      rw [upd_ne ndk, upd_ne nda, hdx]; exact e
    · rw [upd_ne hb] at e
      by_cases hb2 : b = a
      · subst hb2
        rw [upd_same] at e
        rw [upd_ne (Ne.symm hka), upd_same]; exact e
      · rw [upd_ne hb2] at e
        rw [upd_ne (ne_of_none e fk), upd_ne hb2]; exact wf b o e
  · obtain rfl : b = kad := z
    exact ⟨by rw [upd_ne (Ne.symm ndk), upd_ne hka]; exact fk, _, upd_same, [], rfl, List.nodup_nil, fun x hx => (nomatch hx)⟩
  · rw [upd_ne (Ne.symm nda), upd_same]
  · intro p hp
    simp only [List.mem_cons, List.not_mem_nil, or_false] at hp
    rcases hp with rfl | rfl | rfl | rfl
    · exact ⟨v1, rfl, .inl (dp_mono s2 _ _ d1)⟩
    · exact ⟨v2, rfl, .inl (dp_mono s2 _ _ d2)⟩
    · exact ⟨vp, rfl, .inl (dp_mono s2 _ _ d3)⟩
    · exact ⟨vc, rfl, .inl (dp_mono s2 _ _ d4)⟩
  · simp only [List.map_cons, List.map_nil, List.mem_cons, List.not_mem_nil, or_false, not_or] at h2
    obtain ⟨n1, n2, n3, n4⟩ := h2
    have b : ∀ x : Str, f ≠ x → (f == x) = false := fun x h => beq_eq_false_iff_ne.mpr h
    simp only [ctrF, List.lookup_cons, b _ n1, b _ n2, b _ n3, b _ n4, b _ h1]
    rfl
/-! ### x = C(tiles, floor), and what follows with its memo -/
def plainE (ρ : Env) : Bool := ρ.all fun o => match o with
  | none => true
  | some d => (match okD d with | .ok _ => true | _ => false)
def mkS (w : List Sh) (i : Nat) (cn : Str) (g : D → R (D × D)) (fa : AF) : SF := fun ρ => if (fzAll w && plainE ρ) = true then runR ((fa ρ).noErr.bind (newO cn g)) ρ fun d => .nx (ρ.set i (some d)) else .bad
/-- what the rest of a def gives, its slots forgotten -/
def endS (f : SF) : SF := fun ρ => match f ρ with
  | .rt d ρ' => .rt d (List.replicate ρ'.length none)
  | .err c ρ' => .err c (List.replicate ρ'.length none)
  | _ => .bad
theorem ne_ok' {α : Type} (a : α) : (R.ok a).noErr = .ok a := rfl
section
variable {X : Cx} {Er : ErT} {s0 : Sh} {wl w w' : List Sh} {ta : TA} {t : TS} {f : SF} {pos : Pos}
theorem fz_hid {w : List Sh} (h : fzAll w = true) : ∀ ρ : Env, hidA w ρ = ρ := by
  induction w with
  | nil => intro ρ; cases ρ <;> rfl
  | cons s w ih =>
    intro ρ
    unfold fzAll at h ih
    simp only [List.all_cons, Bool.and_eq_true] at h
    cases s with
    | fz => cases ρ with
      | nil => rfl
      | cons x ρ => simp [hidA, ih h.2 ρ]
    | _ => cases h.1
theorem plain_dp {K : PySem.W.Frag} [Mem] {ρ : Env} {j : Nat} {d : D} {F : Hp} {v : V} (h : plainE ρ = true) (e : ρ[j]? = some (some d)) (q : DQ K F v d) : Dp K F v d := by
  have := List.all_eq_true.mp h (some d) (List.mem_of_getElem? e)
  simp only at this
  cases k : okD d with
  | ok z => exact (dq_dp q k).1
  | err c => rw [k] at this; cases this
  | bad => rw [k] at this; cases this
theorem ds_ps (M : Mem) {rest : List Stmt} (h : @DS M X Er s0 wl w rest w' t f) : PSs X rest t := by cases h; assumption
theorem ds_rd (M : Mem) {rest : List Stmt} (h : @DS M X Er s0 wl w rest w' t f) : @DRs M X.K Er s0 wl w w' t f := by cases h; assumption
theorem sr_grow [M : Mem] {K : PySem.W.Frag} {fr : Fr} {w : List Sh} {F H : Hp} {σ : St} {ρ : Env} (h : SR K fr w F H σ ρ) : Grow fr.F0 fr.G F H ∧ ρ.length = σ.length := by
  obtain ⟨os, s⟩ := h
  exact ⟨⟨s.f0, s.gh, s.fh, s.nw⟩, s.len⟩
theorem sr_end [M : Mem] {K : PySem.W.Frag} {fr : Fr} {w w'' : List Sh} {F H : Hp} {σ σ' : St} {ρ r : Env} (h : SR K fr w F H σ ρ) (hl : r.length = σ'.length) (hn : ∀ (i : Nat) (d : D), r[i]? ≠ some (some d)) : SR K fr w'' F H σ' r := by
  obtain ⟨os, s⟩ := h
  exact ⟨fun _ => emp, s.fh, s.gh, s.f0, s.nw, fun i a o z => (by cases z), fun i a z => absurd rfl z, fun i d e => absurd e (hn i d), hl, fun i a z => absurd rfl z⟩
theorem ds_mk [M : Mem] {CX : CXT} {k : Nat} {fi C : Addr} {fd : FuncData} {ps : List Str} {E : XK} {cn x cx : Str} {i : Nat} {p p' pn : Pos} {e : Expr} {es : List Expr} {rest : List Stmt} {fa : AF} {g : D → R (D × D)} {G : D → D → R D}
    (hC : PySem.W.nsIn X.K mainGlobals cn = some (some (.ref C))) (M0 : Mk X.K C fi) (F0 : FnOk X.prog X.w X.K X.mg X.base CX k fi fd ps (spI X.prog X.w X.K C g)) (hr : Room (k + 1) X.A) (hg : Gl X cx) (hm : X.mg cx = some (.ref C)) (hb : Binds X.K fd ps []) (hx : Passes CX X E)
    (hN : X.N.Nodup) (hi : X.N[i]? = some x) (hxl : Loc X.env.scope x) (ha : DA X (fun _ _ => False) (e :: es) ta fa)
    (hrest : ∀ [Mem], MemV X.prog X.w X.K cn G → DS X Er .fz wl (w.set i .fz) rest w' t f) (hw0 : s0 = .fz)
    (hdb : (cx == ("__debug__" : Str)) = false := by decide) (he : starEach (e :: es) X.env = (false, eval e X.env) :: starEach es X.env := by rfl) (hpl : (backTo p' (starEach es X.env)).any (·.1) = false := by rfl)
    (hs : swapsWith (.Call (.Name cx p) (e :: es) [] p') (some (.Name x pn)) pos.line X.env = pure false := by rfl) (hf : X.fn x = true ∨ X.env.scope.names.lookup x = some .local := by first | exact .inl rfl | exact .inr rfl) :
    DS X Er s0 wl w (.Assign [.Name x pn] (.Call (.Name cx p) (e :: es) [] p') pos :: rest) w' (tSeq (tAsg (tMake C (spI X.prog X.w X.K C g) [] E ta) (gName i)) t) (seqS (mkS w i cn g fa) (endS f)) := by
  subst hw0
  refine ⟨pss_cons (ps_set hN hi hxl (pe_make M0 F0 hr hg hm hb .nil hx ha.pe hdb he hpl) hs hf) (ds_ps (memK X.prog X.w X.K (G .none) .none 0) (@hrest (memK X.prog X.w X.K (G .none) .none 0) memK_v)), fun fr F H σ ρ Dn st q => ?_⟩
  unfold seqS mkS at q
  by_cases hc : (fzAll w && plainE ρ) = true
  · rw [if_pos hc] at q
    simp only [Bool.and_eq_true] at hc
    obtain ⟨hfz, hpn⟩ := hc
    have env := st.envA
    rw [fz_hid hfz] at env
    refine ha.rd F H σ ρ _ st.fh env ?_
    cases er : fa ρ with
    | err c => rw [er] at q; exact q.elim
    | bad => rw [er] at q; exact q.elim
    | ok ds =>
      rw [er] at q
      simp only [ne_ok', R.bind_ok] at q
      intro F1 H1 g1 vs dvs a dx hxn hdn hne
      match ds, vs, dvs, q with
      | [T, Gd], [v1, v2], .cons d1 (.cons d2 .nil), q =>
        simp only [newO] at q
        have st1 := st.grow g1
        refine ⟨M, F1, upd H1 dx (.own a), v1, v2, T, Gd, a, dx, rfl, by rw [upd_ne (Ne.symm hne)]; exact hxn, rfl, upd_same, g1.fh.upd hdn, d1, d2, ?_⟩
        cases eg : g Gd with
        | err c => rw [eg] at q; exact q.elim
        | bad => rw [eg] at q; exact q.elim
        | ok pc =>
          rw [eg] at q
          simp only [ne_ok', R.bind_ok, runR_ok, then_nx] at q
          intro F' Hb' gr vp vc kad d3 d4 hxb hkb hka
          refine ⟨rfl, ?_⟩
          have nd : ¬ Mem.is dx := g1.fh.no hdn
          have hdx : Hb' dx = some (.own a) := gr.hh dx _ nd upd_same
          have hF1 : F1 dx = none := none_of_same g1.fh.s hdn
          have hF' : F' dx = none := by
            cases z : F' dx with
            | none => rfl
            | some o => exact absurd hF1 (gr.nw dx (by rw [z]; simp) (by rw [upd_same]; simp))
          obtain ⟨F2, eF2, sF2, wf2, ob⟩ := new_laid (P := X.prog) (w := X.w) (cn := cn) (G := G) (C := C) (F1 := F1) hC gr.fh.s (dp_mono gr.ff _ _ d1) (dp_mono gr.ff _ _ d2) d3 d4 hxb hkb hka hdx hF'
          have g' : Grow F1 H1 F' (remH Hb' dx) := grow_hide g1.fh hdn gr
          have st2 := st1.grow g'
          have nxd : a ≠ dx := fun z => by rw [z, hdx] at hxb; cases hxb
          have nkd : kad ≠ dx := fun z => by rw [z, hdx] at hkb; cases hkb
          have hs12 : Same (remH Hb' dx) (upd (upd Hb' a (.ins C dx (ctrF v1 v2 vp vc kad))) kad (dN X.prog X.w kad [])) := fun b o e => by
            by_cases hb : b = dx
            · rw [hb, remH_same] at e; cases e
            · rw [remH_ne hb] at e
              rw [upd_ne (ne_of_none e hkb), upd_ne (ne_of_none e hxb)]; exact e
          have hnw : ∀ b, F2 b ≠ none → remH Hb' dx b ≠ none → F' b ≠ none := fun b y1 y2 => by
            by_cases hb : b = dx
            · rw [hb, remH_same] at y2; exact absurd rfl y2
            · rw [remH_ne hb] at y2
              rw [eF2, upd_ne hb] at y1
              by_cases hb2 : b = a
              · rw [hb2, hxb] at y2; exact absurd rfl y2
              · rw [upd_ne hb2] at y1; exact y1
          have hk2 : ∀ b, b = kad → remH Hb' dx b = none := fun b z => by rw [z, remH_ne nkd]; exact hkb
          have hle : ∀ j, sh (w.set i .fz) j = .fz := fun j => by
            by_cases hj : i = j
            · subst hj; exact sh_set_fz
            · rw [sh_set_ne hj]; exact fzAll_ok hfz j
          have back : ∀ {w'' : List Sh} {σ' : St} {F'' H'' : Hp} {ρ'' : Env}, @SR (memK X.prog X.w X.K (G (ctrD cn T Gd pc.1 pc.2)) (ctrD cn T Gd pc.1 pc.2) kad) X.K ⟨F', remH Hb' dx⟩ w'' F'' H'' σ' ρ'' → SR X.K fr w'' F'' H'' σ' (List.replicate ρ''.length none) := fun {w'' σ' F'' H'' ρ''} z => by
            obtain ⟨gM, hl⟩ := @sr_grow (memK X.prog X.w X.K (G (ctrD cn T Gd pc.1 pc.2)) (ctrD cn T Gd pc.1 pc.2) kad) _ _ _ _ _ _ _ z
            have gL := grow_leave (M := M) (M' := (memK X.prog X.w X.K (G (ctrD cn T Gd pc.1 pc.2)) (ctrD cn T Gd pc.1 pc.2) kad)) g'.fh hk2 (same_refl _) (same_refl _) (fun _ h _ => h) gM
            exact @sr_end M _ _ w _ _ _ σ _ ρ _ (st2.grow gL) (by rw [List.length_replicate]; exact hl) fun i d => rep_none
          refine ds_rd (memK X.prog X.w X.K (G (ctrD cn T Gd pc.1 pc.2)) (ctrD cn T Gd pc.1 pc.2) kad) (@hrest (memK X.prog X.w X.K (G (ctrD cn T Gd pc.1 pc.2)) (ctrD cn T Gd pc.1 pc.2) kad) memK_v) ⟨F', remH Hb' dx⟩ F2 _ _ (ρ.set i (some (ctrD cn T Gd pc.1 pc.2))) Dn ?_ ?_
          · refine ⟨fun _ => emp, @StR.mk (memK X.prog X.w X.K (G (ctrD cn T Gd pc.1 pc.2)) (ctrD cn T Gd pc.1 pc.2) kad) _ _ _ _ _ _ _ _ wf2 (@sameM_of (memK X.prog X.w X.K (G (ctrD cn T Gd pc.1 pc.2)) (ctrD cn T Gd pc.1 pc.2) kad) _ _ hs12) sF2 hnw (fun i a o z => (by cases z)) (fun i a z => absurd rfl z) (fun j d ej => ?_) (by simpa using st2.len) (fun i a z => absurd rfl z)⟩
            rw [hle j]
            rcases env_set ej with ⟨rfl, rfl, hv⟩ | ⟨ne, ej⟩
            · exact ⟨.ref a, by rw [List.getElem?_set_self (by rw [← st2.len]; exact hv)], .inr (.inr (.inr (.inl ob)))⟩
            · obtain ⟨os, s⟩ := st2
              obtain ⟨v, y1, y2⟩ := s.sl j d ej
              rw [fzAll_ok hfz j] at y2
              exact ⟨v, by rw [List.getElem?_set_ne ne]; exact y1, .inl (dp_mono sF2 _ _ (plain_dp hpn ej y2))⟩
          · have hq : PostS X.K fr .fz wl w' F Er (endS f (ρ.set i (some (ctrD cn T Gd pc.1 pc.2)))) Dn := q
            unfold endS at hq
            cases ef : f (ρ.set i (some (ctrD cn T Gd pc.1 pc.2))) with
            | rt d ρ'' =>
              rw [ef] at hq
              exact fun σ' F'' H'' v w'' hw'' z dv => hq σ' F'' H'' v w'' hw'' (back z) dv
            | err c ρ'' =>
              rw [ef] at hq
              exact fun σ' F'' H'' w'' hw'' z => hq σ' F'' H'' w'' hw'' (back z)
            | nx ρ'' => rw [ef] at hq; exact hq.elim
            | bk ρ'' => rw [ef] at hq; exact hq.elim
            | bad => rw [ef] at hq; exact hq.elim
      | [], _, _, q => exact q.elim
      | [_], _, _, q => exact q.elim
      | _ :: _ :: _ :: _, _, _, q => exact q.elim
  · rw [if_neg hc] at q
    exact q.elim
end
end DL

set_option maxHeartbeats 1000000
/-! DM6: C(tiles, floor).m(..) -/
namespace DL
open PySem PySem.Spec L2
open PyProof.Rows hiding St
theorem mk_core [M : Mem] {P : Program} {w : World} {K : PySem.W.Frag} {cn : Str} {G : D → D → R D} {g : D → R (D × D)} {C a dx : Addr} {F1 H1 : Hp} {v1 v2 : V} {T Gd : D} {pc : D × D} {Q : VK} {E : XK} (hC : PySem.W.nsIn K mainGlobals cn = some (some (.ref C)))
    (w1 : Wf F1 H1) (d1 : Dp K F1 v1 T) (d2 : Dp K F1 v2 Gd) (hxn : H1 a = none) (hdn : H1 dx = none) (hne : dx ≠ a) (eg : g Gd = .ok pc)
    (k : ∀ (kad : Addr) (F' Hd F2 H2 : Hp) (fs : List (Str × V)), Grow F1 H1 F' Hd → Same F' F2 → Same Hd H2 → (∀ b, F2 b ≠ none → Hd b ≠ none → F' b ≠ none) → (∀ b, b = kad → Hd b = none) →
      @Wf (memK P w K (G (ctrD cn T Gd pc.1 pc.2)) (ctrD cn T Gd pc.1 pc.2) kad) F2 H2 → @ObQ (memK P w K (G (ctrD cn T Gd pc.1 pc.2)) (ctrD cn T Gd pc.1 pc.2) kad) K F2 (.ref a) (ctrD cn T Gd pc.1 pc.2) →
      H2 a = some (.ins C dx fs) → (∀ f : Str, f ≠ ("known" : Str) → f ∉ (["tiles", "goal", "places", "columns"] : List Str) → fs.lookup f = none) → Q .non H2) :
    spI P w K C g [.ref a, v1, v2] (upd (upd H1 dx (.own a)) a (.ins C dx [])) Q E := by
  refine ⟨M, F1, upd H1 dx (.own a), v1, v2, T, Gd, a, dx, rfl, by rw [upd_ne (Ne.symm hne)]; exact hxn, rfl, upd_same, w1.upd hdn, d1, d2, ?_⟩
  rw [eg]
  intro F' Hb' gr vp vc kad d3 d4 hxb hkb hka
  have nd : ¬ Mem.is dx := w1.no hdn
  have hdx : Hb' dx = some (.own a) := gr.hh dx _ nd upd_same
  have hF1 : F1 dx = none := none_of_same w1.s hdn
  have hF' : F' dx = none := by
    cases z : F' dx with
    | none => rfl
    | some o => exact absurd hF1 (gr.nw dx (by rw [z]; simp) (by rw [upd_same]; simp))
  obtain ⟨F2, eF2, sF2, wf2, ob⟩ := new_laid (P := P) (w := w) (cn := cn) (G := G) (C := C) (F1 := F1) hC gr.fh.s (dp_mono gr.ff _ _ d1) (dp_mono gr.ff _ _ d2) d3 d4 hxb hkb hka hdx hF'
  have nkd : kad ≠ dx := fun z => by rw [z, hdx] at hkb; cases hkb
  refine k kad F' (remH Hb' dx) F2 _ (ctrF v1 v2 vp vc kad) (grow_hide w1 hdn gr) sF2 (fun b o e => ?_) (fun b y1 y2 => ?_) (fun b z => by rw [z, remH_ne nkd]; exact hkb) wf2 ob ?_ fun f h1 h2 => ?_
  · by_cases hb : b = dx
    · rw [hb, remH_same] at e; cases e
    · rw [remH_ne hb] at e
      rw [upd_ne (ne_of_none e hkb), upd_ne (ne_of_none e hxb)]; exact e
  · by_cases hb : b = dx
    · rw [hb, remH_same] at y2; exact absurd rfl y2
    · rw [remH_ne hb] at y2
      rw [eF2, upd_ne hb] at y1
      by_cases hb2 : b = a
      · rw [hb2, hxb] at y2; exact absurd rfl y2
      · rw [upd_ne hb2] at y1; exact y1
  · rw [upd_ne (Ne.symm hka), upd_same]
  · simp only [List.mem_cons, List.not_mem_nil, or_false, not_or] at h2
    obtain ⟨n1, n2, n3, n4⟩ := h2
    have b : ∀ x : Str, f ≠ x → (f == x) = false := fun x h => beq_eq_false_iff_ne.mpr h
    simp only [ctrF, List.lookup_cons, b _ n1, b _ n2, b _ n3, b _ n4, b _ h1]
    rfl
theorem envR_plain {K : PySem.W.Frag} {F F2 : Hp} {σ : St} {ρ : Env} {M M' : Mem} (h : @EnvR M K F σ ρ) (hp : plainE ρ = true) (s : Same F F2) : @EnvR M' K F2 σ ρ := by
  obtain ⟨sl, len⟩ := h
  refine @EnvR.mk M' _ _ _ _ (fun i d e => ?_) len
  obtain ⟨v, y1, y2⟩ := sl i d e
  exact ⟨v, y1, .inl (dp_mono s _ _ (@plain_dp K M ρ i d F v hp e y2))⟩
/-- C(..).m(..) -/
def mkmE (cn m : Str) (gI : D → R (D × D)) (fa fb : AF) (gm : List D → R D) : EF := fun ρ => if plainE ρ = true then ((fa ρ).noErr.bind (newO cn gI)).bind fun d => if m ≠ ("known" : Str) ∧ m ∉ (["tiles", "goal", "places", "columns"] : List Str) then (fb ρ).noErr.bind fun es => gm (d :: es) else .bad else .bad
section
variable {X : Cx} {Er : ErT} {ta tb : TA} {pos : Pos}
theorem dr_mkm [M : Mem] {C : Addr} {cn m : Str} {fa fb : AF} {g : D → R (D × D)} {G : D → D → R D} {gm : List D → R D} {n : Nat} {E E' : XK} (hC : PySem.W.nsIn X.K mainGlobals cn = some (some (.ref C))) (ha : DRa X.K (fun _ _ => False) ta fa) (hb : ∀ [Mem], DRq X.K (fun _ _ => False) tb fb) (hn : ∀ ρ ds, fb ρ = .ok ds → ds.length + 1 = n) (he : ∀ c H', Er c H' → erX X.mg E c H') :
    DRd X.K Er (tMeth C m (spW X.prog X.w X.K X.mg cn G n gm) [] E (tMake C (spI X.prog X.w X.K C g) [] E' ta) tb) (mkmE cn m g fa fb gm) := by
  intro F H σ ρ Q s st q
  unfold mkmE at q
  by_cases hp : plainE ρ = true
  · rw [if_pos hp] at q
    refine ha F H σ ρ _ s st ?_
    cases er : fa ρ with
    | err c => rw [er] at q; exact q.elim
    | bad => rw [er] at q; exact q.elim
    | ok ds =>
      rw [er] at q
      simp only [ne_ok', R.bind_ok] at q
      intro F1 H1 g1 vs dvs a dx hxn hdn hne
      match ds, vs, dvs, q with
      | [T, Gd], [v1, v2], .cons d1 (.cons d2 .nil), q =>
        simp only [newO] at q
        cases eg : g Gd with
        | err c => rw [eg] at q; exact q.elim
        | bad => rw [eg] at q; exact q.elim
        | ok pc =>
          rw [eg] at q
          simp only [ne_ok', R.bind_ok] at q
          by_cases hm : m ≠ ("known" : Str) ∧ m ∉ (["tiles", "goal", "places", "columns"] : List Str)
          · rw [if_pos hm] at q
            refine mk_core (G := G) hC g1.fh d1 d2 hxn hdn hne eg fun kad F' Hd F2 H2 fs gr s1 s2 nw hk wf2 ob hH hl => ⟨rfl, a, dx, fs, rfl, hH, hl m hm.1 hm.2, ?_⟩
            refine @hb (memK X.prog X.w X.K (G (ctrD cn T Gd pc.1 pc.2)) (ctrD cn T Gd pc.1 pc.2) kad) F2 H2 σ ρ _ wf2 (envR_plain (M := M) st hp (same_trans (same_trans g1.ff gr.ff) s1)) ?_
            cases eb : fb ρ with
            | err c => rw [eb] at q; exact q.elim
            | bad => rw [eb] at q; exact q.elim
            | ok es =>
              rw [eb] at q
              simp only [ne_ok', R.bind_ok] at q
              intro F3 H3 g3 us dus
              rw [List.append_nil]
              have l1 := @dqAll_len (memK X.prog X.w X.K (G (ctrD cn T Gd pc.1 pc.2)) (ctrD cn T Gd pc.1 pc.2) kad) _ _ _ _ dus
              have l2 := hn ρ es eb
              have tot : ∀ {F4 H4 : Hp}, @Grow (memK X.prog X.w X.K (G (ctrD cn T Gd pc.1 pc.2)) (ctrD cn T Gd pc.1 pc.2) kad) F3 H3 F4 H4 → Grow F H F4 H4 := fun {F4 H4} g4 =>
                g1.trans (gr.trans (grow_leave (M := M) (M' := memK X.prog X.w X.K (G (ctrD cn T Gd pc.1 pc.2)) (ctrD cn T Gd pc.1 pc.2) kad) gr.fh hk s1 s2 nw (@Grow.trans (memK X.prog X.w X.K (G (ctrD cn T Gd pc.1 pc.2)) (ctrD cn T Gd pc.1 pc.2) kad) _ _ _ _ _ _ g3 g4)))
              refine ⟨by simp; omega, memK X.prog X.w X.K (G (ctrD cn T Gd pc.1 pc.2)) (ctrD cn T Gd pc.1 pc.2) kad, F3, ctrD cn T Gd pc.1 pc.2 :: es, memK_v, @Grow.fh (memK X.prog X.w X.K (G (ctrD cn T Gd pc.1 pc.2)) (ctrD cn T Gd pc.1 pc.2) kad) _ _ _ _ g3, ⟨@dq_mono (memK X.prog X.w X.K (G (ctrD cn T Gd pc.1 pc.2)) (ctrD cn T Gd pc.1 pc.2) kad) _ _ _ (@Grow.ff (memK X.prog X.w X.K (G (ctrD cn T Gd pc.1 pc.2)) (ctrD cn T Gd pc.1 pc.2) kad) _ _ _ _ g3) _ _ (.inr (.inr (.inr (.inl ob)))), dus⟩, ?_⟩
              cases em : gm (ctrD cn T Gd pc.1 pc.2 :: es) with
              | bad => rw [em] at q; exact q.elim
              | err c => rw [em] at q; exact fun F4 H4 g4 => he c H4 (q F4 H4 (tot g4))
              | ok r => rw [em] at q; exact fun F4 H4 g4 => q F4 H4 (tot g4)
          · rw [if_neg hm] at q; exact q.elim
      | [], _, _, q => exact q.elim
      | [_], _, _, q => exact q.elim
      | _ :: _ :: _ :: _, _, _, q => exact q.elim
  · rw [if_neg hp] at q; exact q.elim
theorem abase_callA {id attr : Str} {p pos : Pos} {env : PySem.Env} {args : List Expr} {whole : Sem Value} (h : (id != ("super" : Str)) = true) : attributeBase (.Call (.Name id p) args [] pos) attr env whole = whole := by
  unfold attributeBase
  first
    | (simp only [h, Bool.true_or, if_true, bind_pure]; done)
    | (rw [h]; simp only [Bool.true_or, if_true, bind_pure]; done)
    | (simp [h]; done)
    | (cases args <;> simp [h])
theorem daq_rd (M : Mem) {es : List Expr} {fb : AF} {tb : TA} (h : @DAq M X Er es tb fb) : @DRq M X.K Er tb fb := by cases h; assumption
theorem de_mkm [M : Mem] {pl : Sem Bool} {CX CX' : CXT} {k k' : Nat} {fi fm C : Addr} {fd fd' : FuncData} {ps ps' : List Str} {E E' : XK} {cn cx m : Str} {p p' apos : Pos} {e e2 : Expr} {es es2 : List Expr} {fa fb : AF} {g : D → R (D × D)} {G : D → D → R D} {gm : List D → R D} {n : Nat}
    (hC : PySem.W.nsIn X.K mainGlobals cn = some (some (.ref C))) (c : Cls X.K C) (M0 : Mk X.K C fi) (F0 : FnOk X.prog X.w X.K X.mg X.base CX k fi fd ps (spI X.prog X.w X.K C g)) (hr : Room (k + 1) X.A) (hg : Gl X cx) (hm : X.mg cx = some (.ref C)) (hb : Binds X.K fd ps []) (hx : Passes CX X E')
    (ha : DA X (fun _ _ => False) (e :: es) ta fa) (hme : Meth X.K C m fm) (F1 : FnOk X.prog X.w X.K X.mg X.base CX' k' fm fd' ps' (spW X.prog X.w X.K X.mg cn G n gm)) (hr' : Room k' X.A) (hb' : Binds X.K fd' ps' []) (hx' : Passes CX' X E) (he : ∀ c H', Er c H' → erX X.mg E c H')
    (hbq : ∀ [Mem], DAq X (fun _ _ => False) (e2 :: es2) tb fb) (hn : ∀ ρ ds, fb ρ = .ok ds → ds.length + 1 = n)
    (hdb : (cx == ("__debug__" : Str)) = false := by decide) (hs1 : starEach (e :: es) X.env = (false, eval e X.env) :: starEach es X.env := by rfl) (hpl1 : (backTo p' (starEach es X.env)).any (·.1) = false := by rfl)
    (hst : starEach (e2 :: es2) X.env = (false, eval e2 X.env) :: starEach es2 X.env := by rfl) (hpl : (backTo pos (starEach es2 X.env)).any (·.1) = false := by rfl)
    (ht : eval (.Call (.Attribute (.Call (.Name cx p) (e :: es) [] p') m apos) (e2 :: es2) [] pos) X.env = (do
      let ov ← eval (.Call (.Name cx p) (e :: es) [] p') X.env
      standAt apos.atName
      let (f, first) ← holding [ov] (getMethod ov m pl)
      callWith pos f first (backTo pos (starEach (e2 :: es2) X.env)) (backToKw pos (keywordEach [] X.env))) := by exact mcall_of (abase_callA (by decide)) fun _ => rfl) :
    DE X Er (.Call (.Attribute (.Call (.Name cx p) (e :: es) [] p') m apos) (e2 :: es2) [] pos) (tMeth C m (spW X.prog X.w X.K X.mg cn G n gm) [] E (tMake C (spI X.prog X.w X.K C g) [] E' ta) tb) (mkmE cn m g fa fb gm) :=
  ⟨pe_meth (pe_make M0 F0 hr hg hm hb .nil hx ha.pe hdb hs1 hpl1) c hme F1 hr' hb' .nil hx' hbq.pe hst hpl ht, dr_mkm hC ha.rd (@fun M' => daq_rd M' (@hbq M')) hn he⟩
end
end DL

set_option maxHeartbeats 1000000
/-! DM7: short forms; what all counters share. -/
namespace DL
open PySem PySem.Spec L2
open PyProof.Rows hiding St
/-- a class of the program's own, as it stands behind the top: these names are no attributes of it -/
structure KlI (K : PySem.W.Frag) (mg : Str → Option Value) (x : Str) (fl : List Str) where
  C : Addr
  n : PySem.W.nsIn K mainGlobals x = some (some (.ref C))
  m : mg x = some (.ref C)
  cl : Cls K C
  mks : PySem.W.makesIn K C = true
  kc : PySem.W.keepIn K (.ref C) = true
  na : ∀ f ∈ fl, NoAttr K C f
/-- a method -/
structure MeI (K : PySem.W.Frag) (C : Addr) (m q : Str) (st : Stmt) (ps : List Str) where
  f : Addr
  fd : FuncData
  F : Fun K m q st f fd
  me : Meth K C m f
  b : Binds K fd ps []
def MeI.mk0 {K : PySem.W.Frag} {mg : Str → Option Value} {x q : Str} {fl : List Str} {st : Stmt} {ps : List Str} (T : KlI K mg x fl) (I : MeI K T.C "__init__" q st ps) : Mk K T.C I.f := ⟨T.mks, I.me.at_, I.me.fn, T.kc⟩
theorem KlI.fld {K : PySem.W.Frag} {mg : Str → Option Value} {x : Str} {fl : List Str} (T : KlI K mg x fl) {f : Str} (hf : f ∈ fl) : ∀ C, PySem.W.nsIn K mainGlobals x = some (some (.ref C)) → Cls K C ∧ NoAttr K C f := fun C h => by
  have := ns_inj T.n h
  subst this
  exact ⟨T.cl, T.na f hf⟩
theorem KlI.flds {K : PySem.W.Frag} {mg : Str → Option Value} {x : Str} {fl : List Str} (T : KlI K mg x fl) {f : Str} (hf : f ∈ fl) : ∀ c ∈ ([x] : List Str), ∀ C, PySem.W.nsIn K mainGlobals c = some (some (.ref C)) → Cls K C ∧ NoAttr K C f := fun c hc C h => by
  rw [List.mem_singleton] at hc
  subst hc
  exact T.fld hf C h
theorem FnOk.any {P : Program} {w : World} {K : PySem.W.Frag} {mg : Str → Option Value} {base : Heap} {CX : CXT} {k : Nat} {f : Addr} {fd : FuncData} {ps : List Str} {n : Nat} {sp : Nat → Sp} {sp' : Sp} (F : ∀ j, j ≤ n → FnOk P w K mg base CX k f fd ps (sp j)) (h : ∀ vs H Q E, sp' vs H Q E → ∃ j, j ≤ n ∧ sp j vs H Q E) :
    FnOk P w K mg base CX k f fd ps sp' :=
  ⟨fun vs H Q E q => let ⟨j, hj, q⟩ := h vs H Q E q; (F j hj).len vs H Q E q, fun A outer s H args us vs Q E hr he hb hv hs => let ⟨j, hj, q⟩ := h vs H Q E hs; (F j hj).run A outer s H args us vs Q E hr he hb hv q⟩
theorem FnOk.never {P : Program} {w : World} {K : PySem.W.Frag} {mg : Str → Option Value} {base : Heap} {CX : CXT} {k : Nat} {f : Addr} {fd : FuncData} {ps : List Str} {cn : Str} {G : D → D → R D} {n : Nat} : FnOk P w K mg base CX k f fd ps (spW P w K mg cn G n fun _ => .bad) :=
  ⟨fun _ _ _ _ ⟨_, _, _, _, _, _, _, h⟩ => h.elim, fun _ _ _ _ _ _ _ _ _ _ _ _ _ ⟨_, _, _, _, _, _, _, h⟩ => h.elim⟩
/-! fuel: how many places are left -/
def lenP (f : Str) (d0 : D) : Nat := match objOf d0 with
  | some (_, kvs) => (match kvs.lookup f with
    | some (.list l) => l.length
    | _ => 0)
  | none => 0
def fuelC (f : Str) (d0 k1 : D) : Nat := match k1 with
  | .int i => lenP f d0 - i.toNat
  | _ => 0
def condC (f : Str) (j : Nat) (d0 kd : D) : Bool := match kd with
  | .tuple [k1, _] => decide (fuelC f d0 k1 = j)
  | _ => false
/-- by its own fuel -/
def gwAll (f : Str) (gw : Nat → D → D → R D) (d0 kd : D) : R D := match kd with
  | .tuple [k1, _] => gw (fuelC f d0 k1) d0 kd
  | _ => .bad
theorem memo_fuel {f cn : Str} {gw : Nat → D → D → R D} {j m : Nat} : memoS cn (gwAll f gw) (condC f j) m = memoS cn (gw j) (condC f j) m := by
  funext ρ
  match ρ with
  | some d0 :: some k1 :: some k2 :: r =>
    simp only [memoS]
    by_cases h : condC f j d0 (.tuple [k1, k2]) = true
    · have e : fuelC f d0 k1 = j := by simpa [condC] using h
      simp only [gwAll, e]
    · have h : condC f j d0 (.tuple [k1, k2]) = false := by simpa using h
      simp only [h, Bool.and_false, Bool.false_and, memoO]
      rfl
  | [] => rfl
  | [some _] => rfl
  | [none] => rfl
  | [some _, some _] => rfl
  | [some _, none] => rfl
  | [none, _] => rfl
  | none :: _ :: _ :: _ => rfl
  | some _ :: none :: _ :: _ => rfl
  | some _ :: some _ :: none :: _ => rfl
theorem aok_asg {w : List Sh} {i : Nat} {f : EF} (hi : 3 ≤ i) (ρ : Env) : AOk (asgS w i f ρ) ρ := by
  unfold asgS
  cases f (hidA w ρ) with
  | ok d => exact ⟨by simp, fun j hj => List.getElem?_set_ne (by omega)⟩
  | err c => rfl
  | bad => trivial
theorem aok_nx (ρ : Env) : AOk (nxS ρ) ρ := ⟨rfl, fun _ _ => rfl⟩
section
variable [Mem] {X : Cx} {Er : ErT} {te : TE} {ta : TA} {e : Expr} {fe : EF} {pos : Pos}
theorem dvq (i : Nat) {x : Str} {pos : Pos} (hN : X.N[i]? = some x := by rfl) (hv : Vis X.env.scope x := by first | exact Or.inl rfl | exact Or.inr (Or.inl rfl) | exact Or.inr (Or.inr rfl)) (hd : (x == ("__debug__" : Str)) = false := by decide) (hcd : (x == ("__classdict__" : Str)) = false := by decide) : DEq X Er (.Name x pos) (tVar i) (vqE i) :=
  deq_var hN hv hd hcd
theorem kfld (K : PySem.W.Frag) {mg : Str → Option Value} {x f : Str} {fl : List Str} (T : KlI K mg x fl) (h : DEq X Er e te fe) (hf : f ∈ fl := by decide +kernel) (hK : X.K = K := by rfl) (hb : attributeBase e f X.env (eval e X.env) = eval e X.env := by rfl) : DE X Er (.Attribute e f pos) (tFld K te f) (fldE [x] f fe) := by
  subst hK
  exact de_fld h (T.flds hf) hb
theorem kfldq (K : PySem.W.Frag) {mg : Str → Option Value} {x f : Str} {fl : List Str} (T : KlI K mg x fl) (h : DEq X Er e te fe) (hf : f ∈ fl := by decide +kernel) (hK : X.K = K := by rfl) (hb : attributeBase e f X.env (eval e X.env) = eval e X.env := by rfl) : DEq X Er (.Attribute e f pos) (tFld K te f) (fldQ [x] f fe) := by
  subst hK
  exact deq_fld h (T.flds hf) hb
theorem kmeth (K : PySem.W.Frag) (mg : Str → Option Value) {pl : Sem Bool} {CX : CXT} {k n : Nat} {fd : FuncData} {ps : List Str} {E : XK} {x m : Str} {fl : List Str} {f : Addr} {g : List D → R D} {fa : AF} {e1 : Expr} {es : List Expr} {apos : Pos} (T : KlI K mg x fl) (h : DEq X Er e te fe) (hm : Meth K T.C m f)
    (F : FnOk X.prog X.w K mg X.base CX k f fd ps (spD K mg n g)) (hr : Room k X.A) (hb : Binds K fd ps []) (hx : Passes CX X E) (he : ∀ c H', Er c H' → erX mg E c H') (ha : DAq X Er (e1 :: es) ta fa) (hn : ∀ ρ ds, fa ρ = .ok ds → ds.length + 1 = n)
    (hK : X.K = K := by rfl) (hG : X.mg = mg := by rfl) (hst : starEach (e1 :: es) X.env = (false, eval e1 X.env) :: starEach es X.env := by rfl) (hpl : (backTo pos (starEach es X.env)).any (·.1) = false := by rfl)
    (ht : eval (.Call (.Attribute e m apos) (e1 :: es) [] pos) X.env = (do
      let ov ← eval e X.env
      standAt apos.atName
      let (f, first) ← holding [ov] (getMethod ov m pl)
      callWith pos f first (backTo pos (starEach (e1 :: es) X.env)) (backToKw pos (keywordEach [] X.env))) := by rfl) :
    DE X Er (.Call (.Attribute e m apos) (e1 :: es) [] pos) (tMeth T.C m (spD K mg n g) [] E te ta) (methE x m g fe fa) := by
  subst hK; subst hG
  exact de_meth h T.n T.cl hm F hr hb hx he ha hn hst hpl ht
theorem kmethW (K : PySem.W.Frag) (mg : Str → Option Value) {P : Program} {w : World} {pl : Sem Bool} {CX : CXT} {k n : Nat} {fd : FuncData} {ps : List Str} {E : XK} {x m : Str} {fl : List Str} {f : Addr} {G : D → D → R D} {g : List D → R D} {fa : AF} {e1 : Expr} {es : List Expr} {apos : Pos} (T : KlI K mg x fl) (hv : MemV P w K x G) (h : DEq X Er e te fe) (hm : Meth K T.C m f)
    (F : FnOk P w K mg X.base CX k f fd ps (spW P w K mg x G n g)) (hr : Room k X.A) (hb : Binds K fd ps []) (hx : Passes CX X E) (he : ∀ c H', Er c H' → erX mg E c H') (ha : DAq X Er (e1 :: es) ta fa) (hn : ∀ ρ ds, fa ρ = .ok ds → ds.length + 1 = n)
    (hK : X.K = K := by rfl) (hG : X.mg = mg := by rfl) (hP : X.prog = P := by rfl) (hW : X.w = w := by rfl) (hst : starEach (e1 :: es) X.env = (false, eval e1 X.env) :: starEach es X.env := by rfl) (hpl : (backTo pos (starEach es X.env)).any (·.1) = false := by rfl)
    (ht : eval (.Call (.Attribute e m apos) (e1 :: es) [] pos) X.env = (do
      let ov ← eval e X.env
      standAt apos.atName
      let (f, first) ← holding [ov] (getMethod ov m pl)
      callWith pos f first (backTo pos (starEach (e1 :: es) X.env)) (backToKw pos (keywordEach [] X.env))) := by rfl) :
    DE X Er (.Call (.Attribute e m apos) (e1 :: es) [] pos) (tMeth T.C m (spW P w K mg x G n g) [] E te ta) (methE x m g fe fa) := by
  subst hK; subst hG; subst hP; subst hW
  exact de_methW hv h T.n T.cl hm F hr hb hx he ha hn hst hpl ht
theorem methA_len {a : EF} {r : AF} {n : Nat} (h : ∀ ρ ds, r ρ = .ok ds → ds.length = n) : ∀ ρ ds, consA a r ρ = .ok ds → ds.length + 1 = n + 2 := fun ρ ds e => by
  have := args_lenS (a := a) h ρ ds e
  omega
end
end DL

set_option maxHeartbeats 1000000
/-! DM8: __init__ of a counter; its ways. -/
namespace DL
open PySem PySem.Spec L2
open PyProof.Rows hiding St
abbrev ErN : ErT := fun _ _ => False
def tInit (X : Cx) (t3 t4 : TE) : TS := tSeq (sFld X.K (tVar 0) (tVar 1) "tiles") (tSeq (sFld X.K (tVar 0) (tVar 2) "goal") (tSeq (sFld X.K (tVar 0) t3 "places") (tSeq (sFld X.K (tVar 0) t4 "columns") (sFld X.K (tVar 0) (tDNewN X) "known"))))
section
variable [Mem] {X : Cx} {e3 e4 : Expr} {t3 t4 : TE} {f3 f4 : EF} {xs x1 x2 : Str} {a1 a2 a3 a4 a5 b1 b2 b3 b4 b5 c1 c2 c5 d1 d2 d3 d4 d5 : Pos}
theorem ps_init5 (h3 : DE X ErN e3 t3 f3) (h4 : DE X ErN e4 t4 f4) (h0 : ∀ p, PE X (.Name xs p) (tVar 0)) (h1 : ∀ p, PE X (.Name x1 p) (tVar 1)) (h2 : ∀ p, PE X (.Name x2 p) (tVar 2))
    (s1 : swapsWith (.Name x1 c1) (some (.Attribute (.Name xs a1) "tiles" b1)) d1.line X.env = pure false := by rfl) (s2 : swapsWith (.Name x2 c2) (some (.Attribute (.Name xs a2) "goal" b2)) d2.line X.env = pure false := by rfl) (s3 : swapsWith e3 (some (.Attribute (.Name xs a3) "places" b3)) d3.line X.env = pure false := by rfl)
    (s4 : swapsWith e4 (some (.Attribute (.Name xs a4) "columns" b4)) d4.line X.env = pure false := by rfl) (s5 : swapsWith (.Dict [] [] c5) (some (.Attribute (.Name xs a5) "known" b5)) d5.line X.env = pure false := by rfl) :
    PSs X [.Assign [.Attribute (.Name xs a1) "tiles" b1] (.Name x1 c1) d1, .Assign [.Attribute (.Name xs a2) "goal" b2] (.Name x2 c2) d2, .Assign [.Attribute (.Name xs a3) "places" b3] e3 d3, .Assign [.Attribute (.Name xs a4) "columns" b4] e4 d4, .Assign [.Attribute (.Name xs a5) "known" b5] (.Dict [] [] c5) d5] (tInit X t3 t4) ∧ DRd X.K ErN t3 f3 ∧ DRd X.K ErN t4 f4 :=
  ⟨pss_cons (ps_fld (h0 _) (h1 _) s1) (pss_cons (ps_fld (h0 _) (h2 _) s2) (pss_cons (ps_fld (h0 _) h3.pe s3) (pss_cons (ps_fld (h0 _) h4.pe s4) (pss_one (ps_fld (h0 _) pe_dnewN s5))))), h3.rd, h4.rd⟩
end
def gIof (f3 f4 : EF) (G : D) : R (D × D) := (f3 [none, none, some G]).noErr.bind fun pl => (f4 [none, none, some G]).noErr.bind fun c => .ok (pl, c)
theorem upd_comm {H : Hp} {a b : Addr} {o u : HO} (h : a ≠ b) : upd (upd H a o) b u = upd (upd H b u) a o := by
  funext c
  unfold upd
  by_cases c1 : c = b
  · subst c1
    rw [if_pos rfl, if_neg (Ne.symm h), if_pos rfl]
  · rw [if_neg c1, if_neg c1]
theorem upd_hide {H H2 : Hp} {a : Addr} {o o' : HO} : upd H2 a o' = upd (remH H2 a) a o' := upd_rem.symm
section
variable {P : Program} {w : World} {K : PySem.W.Frag} {mg : Str → Option Value} {base : Heap}
theorem env3 [Mem] {F : Hp} {v0 v1 v2 : V} {G : D} (h : Dp K F v2 G) : EnvR K F [some v0, some v1, some v2] [none, none, some G] := ⟨fun i d e => by
  match i, e with
  | 0, e => cases e
  | 1, e => cases e
  | 2, e => cases e; exact ⟨v2, rfl, .inl h⟩
  | i + 3, e => simp at e, rfl⟩
theorem init_ok {qual : Str} {st : Stmt} {f C : Addr} {fd : FuncData} {N : List Str} {k : Nat} {f3 f4 : EF} (Fn : Fun K "__init__" qual st f fd) (S : FnScope N ["self", "tiles", "floor"] (defScope st)) (hN : N.length = 3) (hcl : Cls K C) (hna : ∀ f ∈ (["tiles", "goal", "places", "columns", "known"] : List Str), NoAttr K C f)
    (body : ∀ [Mem] (cdv : Value) (A : Around) (outer : List PySem.Env) (s : Shared) (H : Hp) (E : XK), Room k (A.deeper (envOfC qual (defScope st) s.heap.objs.size f cdv)) →
      ∃ t3 t4, PSs (cxOf (L2.CX P w) P w K mg base N qual (defScope st) f cdv A outer s H E) (defBody st) (tInit (cxOf (L2.CX P w) P w K mg base N qual (defScope st) f cdv A outer s H E) t3 t4) ∧ DRd K ErN t3 f3 ∧ DRd K ErN t4 f4) :
    FnOk P w K mg base (L2.CX P w) (k + 1) f fd ["self", "tiles", "floor"] (spI P w K C (gIof f3 f4)) := by
  refine Fn.okX S (fun vs H Q E h => by obtain ⟨_, _, _, _, _, _, _, _, _, rfl, _⟩ := h; rfl) (fun cdv A outer s H vs Q E hr h => ?_)
  obtain ⟨M, F, Hb, v1, v2, Td, Gd, a, dx, rfl, ha, rfl, hdx, wf, d1, d2, p⟩ := h
  obtain ⟨t3, t4, hp, r3, r4⟩ := body cdv A outer s (upd Hb a (.ins C dx [])) E hr
  refine ⟨_, hp, ?_⟩
  have hσ : L2.start N [.ref a, v1, v2] = [some (.ref a), some v1, some v2] := by
    unfold L2.start
    simp [hN]
  rw [hσ]
  have n1 := hna "tiles" (by simp)
  have n2 := hna "goal" (by simp)
  have n3 := hna "places" (by simp)
  have n4 := hna "columns" (by simp)
  have n5 := hna "known" (by simp)
  refine ⟨v1, rfl, .ref a, rfl, a, C, dx, [], rfl, upd_same, hcl, n1, by simp, ?_⟩
  refine ⟨v2, rfl, .ref a, rfl, a, C, dx, [("tiles", v1)], rfl, upd_same, hcl, n2, by simp, ?_⟩
  have e2 : putF "goal" v2 [("tiles", v1)] = ([("tiles", v1), ("goal", v2)] : List (Str × V)) := by
    simp only [putF]
    rw [if_neg (by decide +kernel)]
  rw [e2, upd_upd, upd_upd]
  have no : ¬ Mem.is a := wf.no ha
  refine r3 F _ _ [none, none, some Gd] _ (wf.upd ha) (env3 d2) (Post.imp (Post.hide (Er2 := ErN) p wf ha) fun F2 H2 pl g2 p2 vp dvp => ?_)
  have g2' := grow_hide wf ha g2
  have h2a : H2 a = some (.ins C dx [("tiles", v1), ("goal", v2)]) := g2.hh a _ no upd_same
  have e3 : putF "places" vp [("tiles", v1), ("goal", v2)] = ([("tiles", v1), ("goal", v2), ("places", vp)] : List (Str × V)) := by
    simp only [putF]
    rw [if_neg (by decide +kernel), if_neg (by decide +kernel)]
  refine ⟨.ref a, rfl, a, C, dx, _, rfl, h2a, hcl, n3, by simp, ?_⟩
  have u3 : upd H2 a (.ins C dx ([("tiles", v1), ("goal", v2), ("places", vp)] : List (Str × V))) = upd (remH H2 a) a (.ins C dx [("tiles", v1), ("goal", v2), ("places", vp)]) := upd_rem.symm
  rw [e3, u3]
  have no2 : ¬ Mem.is a := no
  refine r4 F2 _ _ [none, none, some Gd] _ (g2'.fh.upd remH_same) (env3 (dp_mono g2.ff _ _ d2)) (Post.imp (Post.hide (Er2 := ErN) p2 g2'.fh remH_same) fun F3 H3 c g3 p3 vc dvc => ?_)
  have g3' := grow_hide g2'.fh remH_same g3
  have h3a : H3 a = some (.ins C dx [("tiles", v1), ("goal", v2), ("places", vp)]) := g3.hh a _ no upd_same
  have e4 : putF "columns" vc [("tiles", v1), ("goal", v2), ("places", vp)] = ([("tiles", v1), ("goal", v2), ("places", vp), ("columns", vc)] : List (Str × V)) := by
    simp only [putF]
    rw [if_neg (by decide +kernel), if_neg (by decide +kernel), if_neg (by decide +kernel)]
  refine ⟨.ref a, rfl, a, C, dx, _, rfl, h3a, hcl, n4, by simp, ?_⟩
  have u4 : upd H3 a (.ins C dx ([("tiles", v1), ("goal", v2), ("places", vp), ("columns", vc)] : List (Str × V))) = upd (remH H3 a) a (.ins C dx [("tiles", v1), ("goal", v2), ("places", vp), ("columns", vc)]) := upd_rem.symm
  rw [e4, u4]
  intro kad hk
  have hka : kad ≠ a := fun z => by rw [z, upd_same] at hk; cases hk
  have e5 : putF "known" (.ref kad) [("tiles", v1), ("goal", v2), ("places", vp), ("columns", vc)] = ctrF v1 v2 vp vc kad := by
    simp only [putF]
    rw [if_neg (by decide +kernel), if_neg (by decide +kernel), if_neg (by decide +kernel), if_neg (by decide +kernel)]
    rfl
  refine ⟨.ref a, rfl, a, C, dx, [("tiles", v1), ("goal", v2), ("places", vp), ("columns", vc)], rfl, by rw [upd_ne (Ne.symm hka)]; exact upd_same, hcl, n5, by simp, ?_⟩
  rw [e5, upd_comm hka, upd_upd]
  exact Post.now p3 g3'.fh vp vc kad (dp_mono g3.ff _ _ dvp) dvc remH_same (by rw [upd_ne hka] at hk; exact hk) hka
end
/-! ### ways -/
theorem kmkm (K : PySem.W.Frag) (mg : Str → Option Value) [M : Mem] {X : Cx} {Er : ErT} {ta tb : TA} {pos : Pos} {pl : Sem Bool} {CX CX' : CXT} {k k' : Nat} {fi fm : Addr} {fd fd' : FuncData} {ps ps' : List Str} {E E' : XK} {x m : Str} {fl : List Str} {p p' apos : Pos} {e e2 : Expr} {es es2 : List Expr} {fa fb : AF} {g : D → R (D × D)} {G : D → D → R D} {gm : List D → R D} {n : Nat}
    (T : KlI K mg x fl) (M0 : Mk K T.C fi) (F0 : FnOk X.prog X.w K mg X.base CX k fi fd ps (spI X.prog X.w K T.C g)) (hr : Room (k + 1) X.A) (hg : Gl X x) (hb : Binds K fd ps []) (hx : Passes CX X E')
    (ha : DA X ErN (e :: es) ta fa) (hme : Meth K T.C m fm) (F1 : FnOk X.prog X.w K mg X.base CX' k' fm fd' ps' (spW X.prog X.w K mg x G n gm)) (hr' : Room k' X.A) (hb' : Binds K fd' ps' []) (hx' : Passes CX' X E) (he : ∀ c H', Er c H' → erX mg E c H')
    (hbq : ∀ [Mem], DAq X ErN (e2 :: es2) tb fb) (hn : ∀ ρ ds, fb ρ = .ok ds → ds.length + 1 = n) (hK : X.K = K := by rfl) (hG : X.mg = mg := by rfl)
    (hdb : (x == ("__debug__" : Str)) = false := by decide) (hs1 : starEach (e :: es) X.env = (false, eval e X.env) :: starEach es X.env := by rfl) (hpl1 : (backTo p' (starEach es X.env)).any (·.1) = false := by rfl)
    (hst : starEach (e2 :: es2) X.env = (false, eval e2 X.env) :: starEach es2 X.env := by rfl) (hpl : (backTo pos (starEach es2 X.env)).any (·.1) = false := by rfl)
    (ht : eval (.Call (.Attribute (.Call (.Name x p) (e :: es) [] p') m apos) (e2 :: es2) [] pos) X.env = (do
      let ov ← eval (.Call (.Name x p) (e :: es) [] p') X.env
      standAt apos.atName
      let (f, first) ← holding [ov] (getMethod ov m pl)
      callWith pos f first (backTo pos (starEach (e2 :: es2) X.env)) (backToKw pos (keywordEach [] X.env))) := by exact mcall_of (abase_callA (by decide)) fun _ => rfl) :
    DE X Er (.Call (.Attribute (.Call (.Name x p) (e :: es) [] p') m apos) (e2 :: es2) [] pos) (tMeth T.C m (spW X.prog X.w K mg x G n gm) [] E (tMake T.C (spI X.prog X.w K T.C g) [] E' ta) tb) (mkmE x m g fa fb gm) := by
  subst hK; subst hG
  exact de_mkm T.n T.cl M0 F0 hr hg T.m hb hx ha hme F1 hr' hb' hx' he hbq hn hdb hs1 hpl1 hst hpl ht
theorem kds_mk (K : PySem.W.Frag) (mg : Str → Option Value) [M : Mem] {X : Cx} {Er : ErT} {s0 : Sh} {wl w w' : List Sh} {ta : TA} {t : TS} {f : SF} {pos : Pos} {CX : CXT} {k : Nat} {fi : Addr} {fd : FuncData} {ps : List Str} {E : XK} {cx x : Str} {fl : List Str} (i : Nat) {p p' pn : Pos} {e : Expr} {es : List Expr} {rest : List Stmt} {fa : AF} {g : D → R (D × D)} {G : D → D → R D}
    (T : KlI K mg cx fl) (M0 : Mk K T.C fi) (F0 : FnOk X.prog X.w K mg X.base CX k fi fd ps (spI X.prog X.w K T.C g)) (hr : Room (k + 1) X.A) (hg : Gl X cx) (hb : Binds K fd ps []) (hx : Passes CX X E)
    (hN : X.N.Nodup) (ha : DA X ErN (e :: es) ta fa) (hrest : ∀ [Mem], MemV X.prog X.w K cx G → DS X Er .fz wl (w.set i .fz) rest w' t f) (hw0 : s0 = .fz := by rfl)
    (hi : X.N[i]? = some x := by rfl) (hxl : Loc X.env.scope x := by first | exact Or.inl rfl | exact Or.inr rfl) (hK : X.K = K := by rfl) (hG : X.mg = mg := by rfl)
    (hdb : (cx == ("__debug__" : Str)) = false := by decide) (he : starEach (e :: es) X.env = (false, eval e X.env) :: starEach es X.env := by rfl) (hpl : (backTo p' (starEach es X.env)).any (·.1) = false := by rfl)
    (hs : swapsWith (.Call (.Name cx p) (e :: es) [] p') (some (.Name x pn)) pos.line X.env = pure false := by rfl) (hf : X.fn x = true ∨ X.env.scope.names.lookup x = some .local := by first | exact .inl rfl | exact .inr rfl) :
    DS X Er s0 wl w (.Assign [.Name x pn] (.Call (.Name cx p) (e :: es) [] p') pos :: rest) w' (tSeq (tAsg (tMake T.C (spI X.prog X.w K T.C g) [] E ta) (gName i)) t) (seqS (mkS w i cx g fa) (endS f)) := by
  subst hK; subst hG
  exact ds_mk T.n M0 F0 hr hg T.m hb hx hN hi hxl ha hrest hw0 hdb he hpl hs hf
section
variable [Mem] {X : Cx} {Er : ErT} {s0 : Sh} {wl w w1 w' : List Sh} {xs x1 x2 : Str} {p1 p2 p3 p4 p5 p6 p7 p8 p9 q1 q2 q3 q4 q5 q6 q7 q8 q9 r1 r2 r3 r4 r5 : Pos} {ka kb kc : Nat}
/-- the memo's statements, something run ahead of the store -/
theorem ds_memo {cn : Str} {G : D → D → R D} {cond : D → D → Bool} {m : Nat} {tA : TS} {tE : TE} {fA : SF} {fE : EF} {stA : Stmt} {eE : Expr} (hv : MemV X.prog X.w X.K cn G) (hcl : ∀ C, PySem.W.nsIn X.K mainGlobals cn = some (some (.ref C)) → Cls X.K C ∧ NoAttr X.K C "known") (hu : X.A.units + 64 < cLine)
    (h0 : ∀ p, PE X (.Name xs p) (tVar 0)) (h1 : ∀ p, PE X (.Name x1 p) (tVar 1)) (h2 : ∀ p, PE X (.Name x2 p) (tVar 2)) (hA : D1 X Er s0 wl w stA w1 tA fA) (hE : DE X Er eE tE fE)
    (hA1 : ∀ ρ, AOk (fA ρ) ρ) (hG : ∀ d0 k1 k2, cond d0 (.tuple [k1, k2]) = true → outM (seqS fA (retS w1 fE) (some d0 :: some k1 :: some k2 :: List.replicate m none)) = G d0 (.tuple [k1, k2]))
    (hw : ∀ j, j < 3 → sh w j = .fz := by exact fun j _ => fzAll_ok rfl j) (hw1 : ∀ j, j < 3 → sh w1 j = .fz := by exact fun j _ => fzAll_ok rfl j) (hs0 : s0 = .fz := by rfl)
    (hsw : swapsWith eE (some (.Subscript (.Attribute (.Name xs q1) "known" q2) (.Tuple [.Name x1 q3, .Name x2 q4] kb q5) q6)) q7.line X.env = pure false := by rfl)
    (hbm : behindInMarks .NotIn (.Attribute (.Name xs p5) "known" p6) = false := by rfl)
    (ht : ∀ (a b d : Pos), starEach [.Name x1 a, .Name x2 b] X.env = (false, eval (.Name x1 a) X.env) :: starEach [.Name x2 b] X.env ∧ starEach [.Name x2 d] X.env = (false, eval (.Name x2 d) X.env) :: starEach [] X.env := by intros; exact ⟨rfl, rfl⟩)
    (hb : ∀ p, attributeBase (.Name xs p) "known" X.env (eval (.Name xs p) X.env) = eval (.Name xs p) X.env := by intros; rfl) :
    DS X Er s0 wl w [.If (.Compare (.Tuple [.Name x1 p1, .Name x2 p2] ka p3) [.NotIn] [.Attribute (.Name xs p5) "known" p6] p7)
      [stA, .Assign [.Subscript (.Attribute (.Name xs q1) "known" q2) (.Tuple [.Name x1 q3, .Name x2 q4] kb q5) q6] eE q7] [] p8,
      .Return (some (.Subscript (.Attribute (.Name xs r1) "known" r2) (.Tuple [.Name x1 r3, .Name x2 r4] kc r5) p4)) p9] w'
      (tSeq (tIfS (tB (tNNotIn X tKey (tKnown X.K))) (tSeq tA (sNPut X (tKnown X.K) tKey tE)) tNext) (tRet (tNGet X (tKnown X.K) tKey))) (memoS cn G cond m) := by
  have hu16 : X.A.units + 16 < cLine := by omega
  have key : ∀ (a b c : Pos) (k : Nat), PE X (.Tuple [.Name x1 a, .Name x2 b] k c) tKey := fun a b c k => pe_tup (pa_cons (h1 a) (pa_cons (h2 b) pa_nil (ht a b b).2) (ht a b b).1)
  have kn : ∀ (a b : Pos), PE X (.Attribute (.Name xs a) "known" b) (tKnown X.K) := fun a b => pe_fld (h0 a) (hb a)
  exact ⟨pss_cons (ps_if (pt_cmp (pc_nnotin hu16 (key _ _ _ _) (kn _ _)) hbm) (pss_cons hA.ps (pss_one (ps_nput hu16 (kn _ _) (key _ _ _ _) hE.pe hsw))) pss_nil) (pss_one (ps_ret (pe_nget hu16 (kn _ _) (key _ _ _ _) (fun _ _ => rfl)))), dr_memo hv hcl hw hw1 hs0 hA.rd hE.rd hA1 hG⟩
end
end DL

set_option maxHeartbeats 2000000
/-! DX1: a caught exception, kept in a slot: tracked from there on. -/
namespace DL
open PySem PySem.Spec L2
open PyProof.Rows hiding St
section
variable {X : Cx} {pins : List (Addr × Obj)} {σ : St} {H : Hp} {s : Shared} {a : Addr} {o : HO}
theorem upd_keeps (hn : H a = none) {b : Addr} {u : HO} (e : H b = some u) : upd H a o b = some u := by
  rw [upd_ne (ne_of_none e hn)]
  exact e
/-- an object that stands in the heap and isn't tracked is tracked from here on -/
theorem inv_track (I : Inv X pins σ H s) (hn : H a = none) (h0 : X.s_0.heap.get? a = none) (nL : a ≠ X.env.locals) (nC : ∀ x c, X.env.cells.lookup x = some c → c ≠ a) (nP : ∀ p ∈ X.pn ++ pins, p.1 ≠ a) (new : ObjOk X.prog X.w (upd H a o) s.heap a o) : Inv X pins σ (upd H a o) s := by
  have ne0 : ∀ b u, X.s_0.heap.get? b = some u → b ≠ a := fun b u e z => by
    rw [z, h0] at e
    cases e
  refine ⟨I.ok, I.os, I.bare, ⟨I.base.keep, I.base.slot, fun b u e n hx => ?_, I.base.there, fun b xs e => ?_, fun b u v e => ?_, fun b ps e => ?_⟩, I.loc, I.cell, ?_, fun x c e => ?_, fun p hp => ?_, fun b u e => ?_, I.len⟩
  · rw [upd_ne (ne0 b u e)]
    exact I.base.free b u e n hx
  · exact upd_keeps hn (I.base.tups b xs e)
  · exact upd_keeps hn (I.base.frzs b u v e)
  · obtain ⟨m, q⟩ := I.base.tbls b ps e
    exact ⟨m, upd_keeps hn q⟩
  · rw [upd_ne (Ne.symm nL)]
    exact I.free
  · rw [upd_ne (nC x c e)]
    exact I.freeC x c e
  · obtain ⟨q1, q2, q3⟩ := I.pin p hp
    exact ⟨q1, by rw [upd_ne (nP p hp)]; exact q2, q3⟩
  · by_cases hb : b = a
    · subst hb
      rw [upd_same] at e
      cases e
      exact new
    · rw [upd_ne hb] at e
      exact (I.hok b u e).stay (fun _ _ _ q => q) (fun c q => by rw [upd_ne (ne_of_none q hn)]; exact q) fun c xs q => upd_keeps hn q
end
/-- what the body may let out: an own exception of a class that the clause names; slot i is the clause's name, slot k keeps it -/
def wKeep (K : PySem.W.Frag) (c : Value) (i k : Nat) (D : Ends) : WX := fun cls d σ H =>
  d = none ∧ PySem.W.exmOne K cls c = some true ∧ ∀ a, H a = none → D.nx (((σ.set i (some (.ref a))).set k (some (.ref a))).set i none) (upd H a (CxO cls a))
section
variable {X : Cx} {x n m : Str} {c : Value} {i k : Nat} {body : List Stmt} {np p1 p2 p3 pos pos' : Pos} {tb : WX → TS}
theorem off_frames {B h : Heap} {l : List PySem.Env} {a : Addr} {o : Obj} {vs : Array Value} (ff : h.FunFrames B l) (e : h.get? a = some o) (dd : o.data = .fields vs) : a ∉ frs l := fun hm => by
  obtain ⟨_, o', e', nf⟩ := ff.mem hm
  rw [e] at e'
  cases e'
  exact nf _ dd
/-- try: .. except x as n: m = n -/
theorem ps_try_keep (hs : X.stack = X.env :: X.outer) (hf : X.env.frame = some X.env.locals) (hx0 : X.ex = []) (hN : X.N.Nodup) (hi : X.N[i]? = some n) (hln : X.env.kindOf n = some .local) (hv : Vis X.env.scope n)
    (hk : X.N[k]? = some m) (hm : Loc X.env.scope m) (hc : Names X x c)
    (hb : ∀ (W : WX) (pn : List (Addr × Obj)) (xe : Value → Shared → Prop), Takes (X.tr pn xe) W → PassesOwn (model X.prog X.w) X.A X.env xe → PSs (X.tr pn xe) body (tb W))
    (hd1 : (n == ("__debug__" : Str)) = false) (hd2 : (n == ("__classdict__" : Str)) = false) (hsw : swapsWith (.Name n p2) (some (.Name m p1)) p3.line X.env = pure false) (hfn : X.fn m = true ∨ X.env.scope.names.lookup m = some .local) :
    PS X (.Try body [.ExceptHandler (some (.Name x np)) (some n) [.Assign [.Name m p1] (.Name n p2) p3] pos'] [] [] pos) (fun D σ H => tb (wKeep X.K c i k D) D σ H) := by
  refine ⟨fun pins s σ H D I h => ?_⟩
  have ok := I.ok
  have hfr : X.A.frames = some (X.env :: X.outer) := by rw [ok.frames, hs]
  have hloc : Loc X.env.scope n := .inl hln
  have hsuite : ∀ (a : Addr) (pn : List (Addr × Obj)), PSs (X.suite a pn) [.Assign [.Name m p1] (.Name n p2) p3] (tAsg (tVar i) (gName k)) := fun a pn => by
    refine pss_one (ps_set hN hk hm (pe_var hi hv hd1 hd2) hsw hfn)
  refine wpAny_Try_except ?_
  have body_ := (hb (wKeep X.K c i k D) (X.pn ++ pins) (fun e s₁ => wpAny (model X.prog X.w) X.A (noteFrame e X.env) (fun _ s₂ => wpAny (model X.prog X.w) X.A (setFlight e none) (fun _ s₃ =>
    wpAny (model X.prog X.w) X.A (handleBy e X.env [.ExceptHandler (some (.Name x np)) (some n) [.Assign [.Name m p1] (.Name n p2) p3] pos']) (SP X pins D) X.xe s₃) X.xe s₂) X.xe s₁) ?tk PassesOwn.looking).run [] s σ H D (I.toTry _) h
  case tk =>
    rintro u s' ⟨a, B, sI, pins', σ', H', cls, d, rfl, J', nb, up, sky, na, os, ag, rfl, hexm, hnx⟩
    have J : Inv X pins σ' H' sI := J'.ofTry ok
    have sky2 : Sky B (X.env :: X.outer) a (Zc cls none) X.env.locals s'.heap := by
      rw [← hs]
      exact sky
    show wpAny (model X.prog X.w) X.A (noteFrame (.ref a) X.env) _ _ _
    refine Sky.land Zc.steady hfr hf sky2 fun h3 fl3 up3 => ?_
    have J3 : Inv X pins σ' H' { s' with heap := h3 } := J.landed nb fl3.1 (up.trans up3) os ag
    obtain ⟨o3, vs3, e3, z3, d3⟩ := fl3.there
    have nfr := off_frames fl3.2.2.1 e3 d3
    have nfr2 : a ∉ frs X.stack := by
      rw [hs]
      exact nfr
    have nL : a ≠ X.env.locals := fun z => nfr (List.mem_filterMap.mpr ⟨X.env, List.mem_cons_self, by rw [hf, z]⟩)
    have nF : a ∉ X.fs := fun hm => by
      obtain ⟨e, he, q⟩ := List.mem_filterMap.mp hm
      exact nfr (List.mem_filterMap.mpr ⟨e, List.mem_cons_of_mem _ he, q⟩)
    -- before the try's exception, nothing stood at a
    have nI : ∀ b o, sI.heap.get? b = some o → b ≠ a := fun b o e z => by
      subst z
      have := nb _ _ e nfr2
      rw [fl3.2.1] at this
      cases this
    have n0 : X.s_0.heap.get? a = none := by
      cases e : X.s_0.heap.get? a with
      | none => rfl
      | some o =>
        obtain ⟨o', e'⟩ := J.base.there a o e (by rw [hx0]; exact fun z => nomatch z)
        exact absurd rfl (nI a o' e')
    have nC : ∀ y b, X.env.cells.lookup y = some b → b ≠ a := fun y b e => by
      obtain ⟨v, o, e', _⟩ := J.cell y b e
      exact nI b o e'
    have nP : ∀ p ∈ X.pn ++ pins, p.1 ≠ a := fun p hp => nI _ _ (J.pin p hp).1
    refine wpAny_handleBy_cons (codeAny_handlers_test ?_) (by intro q; cases q)
    have S3 := J3.suite e3 d3 na nL nF
    have LT : PySem.W.Looks (model X.prog X.w) h3 (typeOf (.ref a)) cls := fun A Q E s k q => wpAny_typeOf_ref (k _ _ e3) (by rw [z3.1]; exact q)
    have LM := PySem.W.exm_one (M := model X.prog X.w) (J3.kIn) LT hexm
    have test : ∀ {Q : Value → Shared → Prop} {E : Value → Shared → Prop}, Q c { s' with heap := h3 } → wpAny (model X.prog X.w) (X.A.mark (some (.ref a))) (eval (.Name x np) X.env) Q E { s' with heap := h3 } := fun {Q E} q => by
      obtain ⟨hg, hdb, hm | ⟨hm, hv, hnn⟩⟩ := hc
      · exact ld_glob (X := X.suite a ((a, o3) :: (X.pn ++ pins))) S3 hg hm q hdb
      · exact ld_blt (X := X.suite a ((a, o3) :: (X.pn ++ pins))) S3 hg hm hv q hnn hdb
    refine test (LM.here ?_)
    refine codeAny_handlers_suite_as ?_
    refine HandSPX.lands_againZ fl3 fun h4 fl4 up4 => ?_
    obtain ⟨o4, vs4, e4, z4, d4⟩ := fl4.there
    have J4 : Inv X pins σ' H' { s' with heap := h4 } := J.landed nb fl4.1 ((up.trans up3).trans up4) os ag
    refine store_ok (X := X.suite a ((a, o4) :: (X.pn ++ pins))) (v := .ref a) (J4.suite e4 d4 na nL nF) hN hi hloc rfl (fun s5 S5 => ?_) (.inr hln)
    have hset : (σ'.set i (some (.ref a)))[i]? = some (some (.ref a)) := List.getElem?_set_self (by rw [J.len]; exact (List.getElem?_eq_some_iff.mp hi).1)
    refine wpAny_mono ((hsuite a _).run [] s5 _ H' { nx := fun σ6 H6 => H6 = H' ∧ σ6 = (σ'.set i (some (.ref a))).set k (some (.ref a)), rt := fun _ _ => False, bk := fun _ _ => False, ct := fun _ _ => False } S5 ⟨.ref a, hset, rfl, rfl⟩) (fun f s6 hsp => ?_) (fun _ _ z => False.elim z)
    cases f with
    | brk => obtain ⟨_, _, _, q⟩ := hsp; exact q.elim
    | cont => obtain ⟨_, _, _, q⟩ := hsp; exact q.elim
    | ret u => obtain ⟨_, _, _, _, _, q⟩ := hsp; exact q.elim
    | next =>
      obtain ⟨σ6, H6, S6, rfl, rfl⟩ := hsp
      obtain ⟨e6, _⟩ := S6.pin (a, o4) (List.mem_append_left _ List.mem_cons_self)
      have J6 := inv_track (S6.unsuite ok) na n0 nL nC nP (cxO_ok e6 z4 d4)
      exact gone_ok J6 hN hi hln fun s7 J7 => ⟨_, _, J7, hnx a na⟩
  refine wpAny_mono body_ (fun f s1 hsp => ?_) fun e s1 he => he
  cases f with
  | next =>
    obtain ⟨σ', H', J', q⟩ := hsp
    exact wpAny_execs_nil ⟨σ', H', J'.ofTry ok, q⟩
  | ret u =>
    obtain ⟨v, σ', H', J', r, q⟩ := hsp
    exact ⟨v, σ', H', J'.ofTry ok, r, q⟩
  | _ =>
    obtain ⟨σ', H', J', q⟩ := hsp
    exact ⟨σ', H', J'.ofTry ok, q⟩
end
end DL

set_option maxHeartbeats 2000000
/-! DX2: try: x = e / except C as n: k = n, over data. -/
namespace DL
open PySem PySem.Spec L2
open PyProof.Rows hiding St
section
variable [M : Mem]
/-- an expression that may let an own exception out: what is wished behind it knows the slots -/
abbrev ErW (mg : Str → Option Value) (W : WX) (σ : St) : ErT := fun c H' => ∀ C, mg c = some (.ref C) → W (.ref C) none σ H'
structure DK (X : Cx) (e : Expr) (te : WX → TE) (f : EF) : Prop where
  pe : ∀ (W : WX) (pn : List (Addr × Obj)) (xe : Value → Shared → Prop), Takes (X.tr pn xe) W → PE (X.tr pn xe) e (te W)
  rd : ∀ (W : WX) F H σ ρ Q, Wf F H → EnvR X.K F σ ρ → Post F H (ErW X.mg W σ) (f ρ) (fun F' H' d => ∀ v, Dp X.K F' v d → Q v H') → te W σ H Q
def ownK (g : List D → R D) (fa : AF) : EF := fun ρ => (fa ρ).noErr.bind g
def ifK (t : TF) (a b : EF) : EF := fun ρ => (t ρ).noErr.bind fun c => if c = true then a ρ else b ρ
theorem post_noErr {α β : Type} {F H : Hp} {Er Er' : ErT} {r : R α} {g : α → R β} {P : Hp → Hp → β → Prop} (p : Post F H Er (r.noErr.bind g) P) : Post F H Er' r (fun F1 H1 a => Post F1 H1 Er (g a) P) := by
  cases r with
  | ok a => exact fun F' H' g' => Post.mono p g'
  | err c => exact p.elim
  | bad => exact p
section
variable {X : Cx} {k n : Nat} {f : Addr} {fd : FuncData} {ps : List Str} {g : List D → R D} {x : Str} {p pos : Pos} {e : Expr} {es : List Expr} {ta : TA} {fa : AF}
theorem dk_own (F : FnOk X.prog X.w X.K X.mg X.base (L2.CX X.prog X.w) k f fd ps (spD X.K X.mg n g)) (hr : Room k X.A) (hg : Gl X x) (hm : X.mg x = some (.ref f)) (hk : PySem.W.keepIn X.K (.ref f) = true) (hb : Binds X.K fd ps [])
    (ha : ∀ pn xe, DAq (X.tr pn xe) (fun _ _ => False) (e :: es) ta fa) (hn : ∀ ρ ds, fa ρ = .ok ds → ds.length = n)
    (hd : (x == ("__debug__" : Str)) = false := by decide) (hs : starEach (e :: es) X.env = (false, eval e X.env) :: starEach es X.env := by rfl) (hpl : (backTo pos (starEach es X.env)).any (·.1) = false := by rfl) :
    DK X (.Call (.Name x p) (e :: es) [] pos) (fun W => tCallS (spD X.K X.mg n g) (WE W) ta) (ownK g fa) := by
  refine ⟨fun W pn xe tk => pe_callS (X := X.tr pn xe) F hr hg hm hk hb (fun σ => passAt tk σ) (ha pn xe).pe hd hs hpl, fun W F H σ ρ Q s st q => ?_⟩
  refine (ha [] fun _ _ => False).rd F H σ ρ _ s st ?_
  have q2 := post_noErr (Er' := fun _ _ => False) q
  cases hr : fa ρ with
  | ok ds =>
    rw [hr] at q2
    intro F' H' g' vs dvs
    exact ⟨by rw [dqAll_len dvs]; exact hn ρ ds hr, M, F', ds, g'.fh, dvs, Post.er (q2 F' H' g') fun _ _ h => h⟩
  | err c => rw [hr] at q2; exact q2
  | bad => rw [hr] at q2; exact q2
theorem dk_if {c a b : Expr} {tt : TT} {t1 t2 : WX → TE} {fc : TF} {f1 f2 : EF} (hc : ∀ pn xe, DT (X.tr pn xe) (fun _ _ => False) c tt fc) (h : DK X a t1 f1) (h2 : DK X b t2 f2) : DK X (.IfExp c a b pos) (fun W => tIf tt (t1 W) (t2 W)) (ifK fc f1 f2) := by
  refine ⟨fun W pn xe tk => pe_ifExp (hc pn xe).pe (h.pe W pn xe tk) (h2.pe W pn xe tk), fun W F H σ ρ Q s st q => ?_⟩
  refine (hc [] fun _ _ => False).rd F H σ ρ _ s st (Post.imp (post_noErr q) fun F1 H1 c g1 p1 => ?_)
  cases c with
  | true => exact h.rd W F1 H1 σ ρ Q g1.fh (st.mono g1.ff) p1
  | false => exact h2.rd W F1 H1 σ ρ Q g1.fh (st.mono g1.ff) p1
end
/-- the classes that the clause takes -/
structure Caught (X : Cx) (cB : Value) (c : Str) : Prop where
  is : ∃ C, X.mg c = some (.ref C) ∧ PySem.W.nsIn X.K mainGlobals c = some (some (.ref C)) ∧ PySem.W.exmOne X.K (.ref C) cB = some true
def tryS (w : List Sh) (ia ie ik : Nat) (cs : List Str) (f : EF) : SF := fun ρ => if fzAll w = true then match f ρ with
  | .ok d => .nx (ρ.set ia (some d))
  | .err c => if c ∈ cs then .nx ((((ρ.set ie none).set ik (some (excD c)))).set ie none) else .bad
  | .bad => .bad else .bad
section
variable {X : Cx} {Er : ErT} {s0 : Sh} {wl w : List Sh} {ia ie ik : Nat} {xa xn xk xc : Str} {cB : Value} {cs : List Str} {e : Expr} {te : WX → TE} {f : EF} {np p1 p2 p3 p4 p5 pos pos' : Pos}
theorem d_try (hs : X.stack = X.env :: X.outer) (hf : X.env.frame = some X.env.locals) (hx0 : X.ex = []) (hN : X.N.Nodup) (hc : Names X xc cB) (hcs : ∀ c ∈ cs, Caught X cB c)
    (h : DK X e te f) (hia : X.N[ia]? = some xa) (hie : X.N[ie]? = some xn) (hik : X.N[ik]? = some xk) (hla : Loc X.env.scope xa) (hln : X.env.kindOf xn = some .local) (hv : Vis X.env.scope xn) (hlk : Loc X.env.scope xk)
    (hw : ∀ i, sh w i = .fz) (hne : ie ≠ ik)
    (hd1 : (xn == ("__debug__" : Str)) = false := by decide) (hd2 : (xn == ("__classdict__" : Str)) = false := by decide)
    (hsw : swapsWith e (some (.Name xa p4)) p5.line X.env = pure false := by rfl) (hfa : X.fn xa = true ∨ X.env.scope.names.lookup xa = some .local := by first | exact .inl rfl | exact .inr rfl)
    (hsk : swapsWith (.Name xn p2) (some (.Name xk p1)) p3.line X.env = pure false := by rfl) (hfk : X.fn xk = true ∨ X.env.scope.names.lookup xk = some .local := by first | exact .inl rfl | exact .inr rfl) :
    D1 X Er s0 wl w (.Try [.Assign [.Name xa p4] e p5] [.ExceptHandler (some (.Name xc np)) (some xn) [.Assign [.Name xk p1] (.Name xn p2) p3] pos'] [] [] pos) w
      (fun D σ H => tAsg (te (wKeep X.K cB ie ik D)) (gName ia) D σ H) (tryS w ia ie ik cs f) := by
  refine ⟨ps_try_keep (tb := fun W => tAsg (te W) (gName ia)) hs hf hx0 hN hie hln hv hik hlk hc (fun W pn xe tk po => pss_one (ps_set (X := X.tr pn xe) hN hia hla (h.pe W pn xe tk) hsw hfa)) hd1 hd2 hsk hfk, fun fr F H σ ρ Dn st q => ?_⟩
  unfold tryS at q
  by_cases hz : fzAll w = true
  · rw [if_pos hz] at q
    have env := st.envA
    rw [fz_hid hz] at env
    refine h.rd _ F H σ ρ _ st.fh env ?_
    cases ef : f ρ with
    | bad => rw [ef] at q; exact q.elim
    | ok d =>
      rw [ef] at q
      intro F' H' g v dv
      refine q _ F' H' g.ff (((st.grow g).set_fz dv).congr fun j => ?_)
      by_cases hj : ia = j
      · subst hj; rw [sh_set_fz]; exact hw ia
      · rw [sh_set_ne hj]
    | err c =>
      rw [ef] at q
      by_cases hm : c ∈ cs
      · simp only [if_pos hm] at q
        intro F' H' g C hC
        obtain ⟨C', e1, e2, e3⟩ := (hcs c hm).is
        rw [hC] at e1
        cases e1
        refine ⟨rfl, e3, fun a ha => ?_⟩
        have g2 : Grow F' H' (upd F' a (CxO (.ref C) a)) (upd H' a (CxO (.ref C) a)) := Grow.new g.fh ha
        have st2 := (st.grow g).grow g2
        have hq : DQ X.K (upd F' a (CxO (.ref C) a)) (.ref a) (excD c) := .inr (.inr (.inl ⟨c, rfl, a, C, rfl, e2, upd_same⟩))
        have st3 := ((st2.unset (i := ie)).set_q (i := ik) hq).unset (i := ie)
        have eσ : (((σ.set ie (some (.ref a))).set ik (some (.ref a))).set ie none) = (((σ.set ie none).set ik (some (.ref a))).set ie none) := by
          rw [List.set_comm _ _ hne, List.set_set, List.set_comm _ _ hne, List.set_set]
        rw [eσ]
        refine q _ _ _ (same_trans g.ff g2.ff) (st3.congr fun j => ?_)
        by_cases hj : ik = j
        · subst hj; rw [sh_set_fz]; exact hw ik
        · rw [sh_set_ne hj]
      · simp only [if_neg hm] at q
        exact q.elim
  · rw [if_neg hz] at q
    exact q.elim
end
end
end DL

set_option maxHeartbeats 2000000
/-! DX3: isinstance of a kept exception, is None, list.index, list.count, over data. -/
namespace DL
open PySem PySem.Spec L2
open PyProof.Rows hiding St
/-! ### list.count, list.index -/
def rCountD (K : PySem.W.Frag) : V → List V → Hp → VK → Prop := fun x xs H Q => ∃ (a : Addr) (y : V) (d : PyData) (ds : List PyData), x = V.ref a ∧ xs = [y] ∧ Dp K H (V.ref a) (.list ds) ∧ Dp K H y d ∧ SeqAt.shaped (.list ds) = true ∧ SeqAt.shaped d = true ∧ Q (.int ((ds.countP fun z => PyData.eqv z d : Nat) : Int)) H
section
variable {X : Cx}
theorem mt_countD (hu : X.A.units + 65 < cLine) : MtR X "list.count" (rCountD X.K) := by
  intro pins s σ H x xs v us Q I rx rxs h
  obtain ⟨a, y, d, ds, rfl, rfl, hl, hy, sl, sd, q⟩ := h
  cases rx
  obtain ⟨uy, rfl, ry⟩ := rxs.one
  obtain ⟨bs, r1⟩ := Dp.reads I d y uy (hy.oldS sd) ry
  cases hl with
  | lst hs ha =>
    obtain ⟨its, rv, ⟨⟨cls, dd, data, sls⟩, n, ho, hc, hdn, hdt⟩, hlen⟩ := I.list hs
    simp only at hc hdt
    subst hc hdt
    obtain ⟨as, h4⟩ := Dp.readsAll I ds _ its (ha.old (SeqAt.canLay_of_shaped sl)) rv
    have hmap := SeqAt.readsAll_map ds its as (SeqAt.canLay_of_shaped sl) h4
    have eqs := SeqAt.items_eqAt (vs := its.toArray) (show ReadsAll s.heap its.toArray.toList ds as from h4) r1 (SeqAt.canLay_of_shaped sl) (SeqAt.canLay_of_shaped sd) (room_in_shaped sd hu)
    refine call_meets PySem.F.slot_list_count ⟨_, ho, rfl⟩ PySem.F.entry_list_count (PySem.F.args_list_count_2 _ _) (SeqAt.list_countAt a its.toArray n dd sls uy fun u => PyData.eqv (SeqAt.readOf s.heap u) d) ⟨ho, eqs, ?_⟩
    refine ⟨.int ((its.toArray.toList.countP (fun u => PyData.eqv (SeqAt.readOf s.heap u) d) : Nat) : Int), H, I.tok _, ⟨s.toks, rfl⟩, ?_⟩
    have e : its.toArray.toList.countP (fun u => PyData.eqv (SeqAt.readOf s.heap u) d) = ds.countP fun z => PyData.eqv z d := by
      rw [← hmap, List.countP_map]
      rfl
    rw [e]
    exact q
end
def countD : D → D → Option D
  | .list ds, d => if SeqAt.shaped (.list ds) = true ∧ SeqAt.shaped d = true then some (.int ((ds.countP fun z => PyData.eqv z d : Nat) : Int)) else none
  | _, _ => none
def firstAt (d : D) : List D → Nat → Option Nat
  | [], _ => none
  | z :: ds, j => if PyData.eqv z d = true then some j else firstAt d ds (j + 1)
def indexD : D → D → Option D
  | .list ds, d => if SeqAt.shaped (.list ds) = true ∧ SeqAt.shaped d = true then (firstAt d ds 0).map fun j => .int (j : Nat) else none
  | _, _ => none
theorem firstAt_is (d : D) : ∀ (ds : List D) (k j : Nat), firstAt d ds k = some j → ∃ m z, j = k + m ∧ ds[m]? = some z ∧ PyData.eqv z d = true ∧ ∀ (i : Nat) (z' : D), i < m → ds[i]? = some z' → PyData.eqv z' d = false
  | [], _, _, h => by cases h
  | z :: ds, k, j, h => by
    unfold firstAt at h
    by_cases hz : PyData.eqv z d = true
    · rw [if_pos hz] at h
      cases h
      exact ⟨0, z, rfl, rfl, hz, fun i z' hi => by omega⟩
    · rw [if_neg hz] at h
      obtain ⟨m, z2, e1, e2, e3, e4⟩ := firstAt_is d ds (k + 1) j h
      refine ⟨m + 1, z2, by omega, e2, e3, fun i z' hi hz' => ?_⟩
      cases i with
      | zero => cases hz'; exact Bool.eq_false_iff.mpr hz
      | succ i => exact e4 i z' (by omega) hz'
section
variable [Mem]
/-- a list's method of one argument -/
def LmG (K : PySem.W.Frag) (r : V → List V → Hp → VK → Prop) (g : D → D → Option D) : Prop := ∀ F H v w a b d Q, Wf F H → Dp K F v a → Dp K F w b → g a b = some d → (∀ u F' H', Grow F H F' H' → Dp K F' u d → Q u H') → r v [w] H Q
def isL : D → Bool
  | .list _ => true
  | _ => false
theorem lm_count {K : PySem.W.Frag} : LmG K (rCountD K) countD := by
  intro F H v w a b d Q s hv hw e k
  cases a with
  | list ds =>
    simp only [countD] at e
    split at e <;> cases e
    rename_i h
    have hv' := dp_mono s.s _ _ hv
    cases hv' with
    | lst hs ha => exact ⟨_, w, b, ds, rfl, rfl, .lst hs ha, dp_mono s.s _ _ hw, h.1, h.2, k _ F H (.refl s) (.int _)⟩
  | _ => cases e
theorem lm_index {K : PySem.W.Frag} : LmG K (rIndexD K) indexD := by
  intro F H v w a b d Q s hv hw e k
  cases a with
  | list ds =>
    simp only [indexD] at e
    split at e
    · rename_i h
      cases ef : firstAt b ds 0 with
      | none => rw [ef] at e; cases e
      | some j =>
        rw [ef] at e
        cases e
        obtain ⟨m, z, e1, e2, e3, e4⟩ := firstAt_is b ds 0 j ef
        have e1 : j = m := by omega
        subst e1
        have hv' := dp_mono s.s _ _ hv
        cases hv' with
        | lst hs ha => exact ⟨_, w, b, ds, j, z, rfl, rfl, .lst hs (ha.old (SeqAt.canLay_of_shaped h.1)), (dp_mono s.s _ _ hw).oldS h.2, h.1, h.2, e2, e3, e4, k _ F H (.refl s) (.int _)⟩
    · cases e
  | _ => cases e
def lmE (g : D → D → Option D) (fo fe : EF) : EF := bE fo fun a => if isL a = true then bE fe fun b => oE (g a b) else fun _ => .bad
section
variable {X : Cx} {Er : ErT} {o e : Expr} {to te : TE} {fo fe : EF} {name : Str} {id : String} {r : V → List V → Hp → VK → Prop} {g : D → D → Option D} {apos cpos : Pos}
theorem de_lm (slot : Slot "list" name id) (hty : typeOf (.builtin id) = pure (.type "method_descriptor")) (hm : MtR X id r) (hg : LmG X.K r g) (ho : DE X Er o to fo) (he : DE X Er e te fe)
    (hbase : attributeBase o name X.env (eval o X.env) = eval o X.env := by rfl)
    (hfew : ((backTo cpos (starEach [e] X.env)).all (fun x => !x.1) && (backToKw cpos (keywordEach [] X.env)).all (fun x => x.1.isSome) && decide ([e].length + ([] : List Keyword).length + (if ([] : List Keyword).isEmpty then 0 else 1) < 30)) = true := by rfl)
    (hline : (apos.endLine == cpos.line) = true := by rfl) (hs : starEach [e] X.env = (false, eval e X.env) :: starEach [] X.env := by rfl) (hplain : (backTo cpos (starEach [] X.env)).any (·.1) = false := by rfl) :
    DE X Er (.Call (.Attribute o name apos) [e] [] cpos) (tBM X.K "list" r to (tCons te tNil)) (lmE g fo fe) := by
  refine ⟨pe_bm PySem.F.plainAttrs_list slot hty hm ho.pe (pa_cons he.pe pa_nil hs) hbase hfew hline hs hplain, fun F H σ ρ Q s st p => ?_⟩
  refine ho.rd F H σ ρ _ s st (Post.imp (Post.bind p) fun F1 H1 a g1 p1 v dv => ?_)
  by_cases hl : isL a = true
  · simp only [if_pos hl] at p1
    refine ⟨?_, he.rd F1 H1 σ ρ _ g1.fh (st.mono g1.ff) (Post.imp (Post.bind p1) fun F2 H2 b g2 p2 w dw => ?_)⟩
    · have hv := dp_mono g1.fh.s _ _ dv
      cases hv with
      | lst hs _ => exact .inl ⟨rfl, _, hs⟩
      | _ => cases hl
    · cases eg : g a b with
      | none =>
        simp only [oE, eg] at p2
        exact p2.elim
      | some d =>
        simp only [oE, eg] at p2
        exact hg F2 H2 v w a b d Q g2.fh (dp_mono g2.ff _ _ dv) dw eg fun u F' H' g' du => p2 F' H' g' u du
  · simp only [if_neg hl] at p1
    exact p1.elim
end
/-! ### a kept exception: is None, isinstance -/
/-- what a class of the program's own is to an isinstance -/
structure CqI (K : PySem.W.Frag) (mg : Str → Option Value) (x : Str) where
  C : Addr
  n : PySem.W.nsIn K mainGlobals x = some (some (.ref C))
  g : mg x = some (.ref C)
  i : PySem.W.isClsIn K C = true
  t : PySem.W.typeIn K (.ref C) = some (.type "type")
  s : PySem.W.subIn K (.ref C) (.ref C) = some true
/-- a class whose exceptions are kept -/
structure XcI (K : PySem.W.Frag) (mg : Str → Option Value) (x : Str) extends CqI K mg x where
  e : ExcC K C
theorem kit_two {K : PySem.W.Frag} {mg : Str → Option Value} {x y : Str} {b : Bool} (T : XcI K mg x) (U : CqI K mg y) (h : PySem.W.subIn K (.ref T.C) (.ref U.C) = some b) : PySem.W.kitOne K (.ref T.C) (.ref U.C) = some b := by
  unfold PySem.W.kitOne
  by_cases hz : ((Value.ref T.C == Value.ref U.C) = true)
  · rw [if_pos hz]
    have e : T.C = U.C := Value.ref.inj (beq_iff_eq.mp hz)
    rw [← e, T.s] at h
    exact h
  · rw [if_neg hz]
    unfold PySem.W.kitCls
    have h1 : ((PySem.W.clsIn K U.C).isSome && PySem.W.typeIn K (.ref U.C) == some (.type "type")) = true := by
      rw [U.t]
      have := U.i
      unfold PySem.W.isClsIn at this
      rw [this]
      rfl
    simp only
    rw [if_pos h1]
    exact h
theorem kit_val {K : PySem.W.Frag} {mg : Str → Option Value} {x : Str} (T : XcI K mg x) (h : PySem.W.subIn K (.ref T.C) (.type "ValueError") = some true) : PySem.W.kitOne K (.ref T.C) (.type "ValueError") = some true := by
  unfold PySem.W.kitOne
  rw [if_neg (show ¬ ((Value.ref T.C == Value.type "ValueError") = true) from by simp)]
  unfold PySem.W.kitCls
  simp only
  rw [if_pos (show PySem.W.kitMeta "ValueError" = true by decide +kernel)]
  exact h
/-- isinstance(e, c), e a kept exception -/
def rIsX (K : PySem.W.Frag) : List V → Hp → VK → Prop := fun xs H Q => ∃ (a D : Addr) (c : V) (cv : Value) (b : Bool), xs = [.ref a, c] ∧ (∀ u, RelV c u → u = cv) ∧ H a = some (CxO (.ref D) a) ∧ ExcC K D ∧ PySem.W.kitOne K (.ref D) cv = some b ∧ Q (.bl b) H
theorem call_isX {X : Cx} : CallR X (.builtin "isinstance") (rIsX X.K) := by
  intro pins s σ H xs us Q I r h
  obtain ⟨a, D, c, cv, b, rfl, hcv, ha, C, e, q⟩ := h
  cases r with
  | cons rx rr =>
    cases rr with
    | cons rt rr =>
      cases rr
      cases rx
      have ec := hcv _ rt
      subst ec
      obtain ⟨⟨oe, vs, hget, hz, hv⟩, _⟩ := I.hok a _ ha
      have J : PySem.W.InstAt s.heap a oe D none := by
        obtain ⟨oc, od, oda, osl⟩ := oe
        obtain ⟨h1, h2⟩ := hz
        dsimp only at h1 h2 hv
        subst h1 h2 hv
        exact ⟨hget, rfl, rfl, trivial⟩
      exact PySem.W.kia_one (PySem.W.handS_kitx_exc C.hg C.hk C.hs C.hd C.ha C.hn C.ht C.hm) I.kIn J e (fun z => nomatch z) fun tk => ⟨.bl b, H, I.kept (t' := tk) fun _ _ z => z, rfl, q⟩
/-- the class of a kept exception -/
def excOf : D → Option Str
  | .dict [(.str t, .str c)] => if t = "exc" then some c else none
  | _ => none
theorem excOf_is {d : D} {c : Str} (h : excOf d = some c) : d = excD c := by
  unfold excOf at h
  split at h
  · rename_i t c'
    by_cases ht : t = "exc"
    · rw [if_pos ht] at h
      cases h
      rw [ht]
      rfl
    · rw [if_neg ht] at h
      cases h
  · cases h
theorem dq_exc {K : PySem.W.Frag} {F : Hp} {v : V} {c : Str} (h : DQ K F v (excD c)) : ExQ K F v c := by
  rcases h with h | ⟨a, kvs, e1, e2, e3⟩ | ⟨c', e, x⟩ | h | h | h
  · cases h with
    | sd e _ _ _ => simp [sdL] at e
  · cases kvs <;> simp [IntDic, excD] at e2
  · simp [excD] at e
    rw [e]
    exact x
  · obtain ⟨_, _, _, _, _, e, _⟩ := h
    unfold excD objD at e
    injection e with e
    injection e with e _
    have e1 : (PyData.str "exc" : D) = .str "obj" := congrArg Prod.fst e
    injection e1 with e1
    exact absurd e1 (by decide +kernel)
  · obtain ⟨_, _, _, _, e1, _⟩ := h
    exact absurd e1 (ord_ne (by decide +kernel))
  · obtain ⟨_, _, _, _, e1, _⟩ := h
    exact absurd e1 (tup_ne (by decide +kernel))
def exIsE (tbl : List (Str × Bool)) (f : EF) : EF := bE f fun d => oE ((excOf d).bind fun c => (tbl.lookup c).map .bool)
/-- the facts of a table: what isinstance of each class answers -/
def TblOk (K : PySem.W.Frag) (cv : Value) (tbl : List (Str × Bool)) : Prop := ∀ c b, tbl.lookup c = some b → ∃ D, PySem.W.nsIn K mainGlobals c = some (some (.ref D)) ∧ ExcC K D ∧ PySem.W.kitOne K (.ref D) cv = some b
theorem tbl_nil {K : PySem.W.Frag} {cv : Value} : TblOk K cv [] := fun _ _ h => by cases h
theorem tbl_cons {K : PySem.W.Frag} {mg : Str → Option Value} {cv : Value} {c : Str} {b : Bool} {tbl : List (Str × Bool)} (T : XcI K mg c) (h : PySem.W.kitOne K (.ref T.C) cv = some b) (r : TblOk K cv tbl) : TblOk K cv ((c, b) :: tbl) := fun c' b' e => by
  rw [List.lookup_cons] at e
  by_cases hc : (c' == c) = true
  · rw [hc] at e
    cases e
    have := beq_iff_eq.mp hc
    subst this
    exact ⟨T.C, T.n, T.e, h⟩
  · rw [Bool.not_eq_true] at hc
    rw [hc] at e
    exact r c' b' e
section
variable {X : Cx} {Er : ErT} {x : Str} {e : Expr} {te : TE} {f : EF} {tbl : List (Str × Bool)} {p p2 pos : Pos}
theorem dr_isX {K : PySem.W.Frag} {c : V} {cv : Value} (hT : TblOk K cv tbl) (hcv : ∀ u, RelV c u → u = cv) (h : DRe K Er te f) : DRd K Er (tCB (rIsX K) (tCons te (tCons (tC c) tNil))) (exIsE tbl f) := by
  intro F H σ ρ Q s st p
  refine h F H σ ρ _ s st (Post.imp (Post.bind p) fun F1 H1 d g1 p1 v dv => ?_)
  cases e1 : excOf d with
  | none => simp only [oE, e1, Option.bind_none] at p1; exact p1.elim
  | some cn =>
    simp only [oE, e1, Option.bind_some] at p1
    cases e2 : tbl.lookup cn with
    | none => simp only [e2, Option.map_none] at p1; exact p1.elim
    | some b =>
      simp only [e2, Option.map_some] at p1
      have ed := excOf_is e1
      subst ed
      obtain ⟨a, C, e3, e4, e5⟩ := dq_exc dv
      obtain ⟨D, q1, q2, q3⟩ := hT cn b e2
      rw [e4] at q1
      cases q1
      exact ⟨a, C, c, cv, b, by rw [e3], hcv, g1.fh.s _ _ e5, q2, q3, Post.now p1 g1.fh _ (.bl b)⟩
theorem de_isX (U : CqI X.K X.mg x) (hT : TblOk X.K (.ref U.C) tbl) (hg : Gl X "isinstance") (hm : X.mg "isinstance" = none) (hg2 : Gl X x) (h : DEq X Er e te f) (hd2 : (x == ("__debug__" : Str)) = false := by decide)
    (hs1 : starEach [e, .Name x p2] X.env = (false, eval e X.env) :: starEach [.Name x p2] X.env := by rfl) (hpl : (backTo pos (starEach [.Name x p2] X.env)).any (·.1) = false := by rfl) :
    DE X Er (.Call (.Name "isinstance" p) [e, .Name x p2] [] pos) (tCB (rIsX X.K) (tCons te (tCons (tC (.ref U.C)) tNil))) (exIsE tbl f) :=
  ⟨pe_callB call_isX hg hm (by decide +kernel) (pa_cons h.pe (pa_cons (pe_glob (v := .ref U.C) hg2 U.g rfl hd2) pa_nil) hs1) (by decide) (by decide) hs1 hpl, dr_isX hT (fun u r => r) h.rd⟩
theorem de_isV (hT : TblOk X.K (.type "ValueError") tbl) (hg : Gl X "isinstance") (hm : X.mg "isinstance" = none) (hg2 : Gl X "ValueError") (hm2 : X.mg "ValueError" = none) (h : DEq X Er e te f)
    (hs1 : starEach [e, .Name "ValueError" p2] X.env = (false, eval e X.env) :: starEach [.Name "ValueError" p2] X.env := by rfl) (hpl : (backTo pos (starEach [.Name "ValueError" p2] X.env)).any (·.1) = false := by rfl) :
    DE X Er (.Call (.Name "isinstance" p) [e, .Name "ValueError" p2] [] pos) (tCB (rIsX X.K) (tCons te (tCons (tC (.ty "ValueError")) tNil))) (exIsE tbl f) :=
  ⟨pe_callB call_isX hg hm (by decide +kernel) (pa_cons h.pe (pa_cons (pe_bltn (v := .ty "ValueError") hg2 hm2 (by decide +kernel) rfl (by decide) (by decide)) pa_nil) hs1) (by decide) (by decide) hs1 hpl, dr_isX hT (fun u r => r) h.rd⟩
def isNQ (d : D) : Option Bool := match excOf d with
  | some _ => some false
  | none => match okD d with
    | .ok .none => some true
    | .ok _ => some false
    | _ => none
/-- x is None, x perhaps a kept exception -/
def isNT (f : EF) : TF := bE f fun d => fun _ => R.of (isNQ d)
theorem dt_isN (h : DEq X Er e te f) {j : Nat} {pn : Pos} : DT X Er (.Compare e [.Is] [.Constant .none j pn] pos) (tTest (tOp rIsA te (tC .non))) (isNT f) := by
  refine ⟨pt_cmpR op_isA h.pe pe_non (by rfl), fun F H σ ρ Q s st p => ?_⟩
  refine h.rd F H σ ρ _ s st (Post.imp (Post.bind p) fun F1 H1 d g1 p1 v dv => ?_)
  unfold isNQ at p1
  cases e1 : excOf d with
  | some c =>
    simp only [e1] at p1
    have ed := excOf_is e1
    subst ed
    obtain ⟨a, C, e3, _⟩ := dq_exc dv
    subst e3
    exact .inl ⟨rfl, false, rfl, Post.now p1 g1.fh⟩
  | none =>
    simp only [e1] at p1
    cases ek : okD d with
    | err c => simp only [ek] at p1; exact p1.elim
    | bad => simp only [ek] at p1; exact p1.elim
    | ok d' =>
      obtain ⟨dp, rfl⟩ := dq_dp dv ek
      simp only [ek] at p1
      cases dp <;> exact .inl ⟨rfl, _, rfl, Post.now p1 g1.fh⟩
end
end
end DL

/-! DX4: short forms of DX2 and DX3, used by gen.py. -/
namespace DL
open PySem PySem.Spec L2
open PyProof.Rows hiding St
/-- a class that an except clause names -/
structure CbI (K : PySem.W.Frag) (mg : Str → Option Value) (x : Str) extends CqI K mg x where
  b : PySem.W.subIn K (.ref C) (.type "BaseException") = some true
  d : PySem.W.hasDictIn K C = true
section
variable [M : Mem]
theorem CbI.names {X : Cx} {K : PySem.W.Frag} {mg : Str → Option Value} {x : Str} (T : CbI K mg x) (hg : Gl X x) (hd : (x == ("__debug__" : Str)) = false := by decide) (hG : X.mg = mg := by rfl) : Names X x (.ref T.C) := ⟨hg, hd, .inl (by rw [hG]; exact T.g)⟩
theorem cau_nil {X : Cx} {cB : Value} : ∀ c ∈ ([] : List Str), Caught X cB c := fun _ h => nomatch h
theorem cau_cons {X : Cx} {K : PySem.W.Frag} {mg : Str → Option Value} {x c : Str} {cs : List Str} (T : CbI K mg x) (U : XcI K mg c) (s : PySem.W.subIn K (.ref U.C) (.ref T.C) = some true) (r : ∀ c ∈ cs, Caught X (.ref T.C) c) (hK : X.K = K := by rfl) (hG : X.mg = mg := by rfl) : ∀ y ∈ c :: cs, Caught X (.ref T.C) y := fun y hy => by
  rcases List.mem_cons.mp hy with rfl | h
  · subst hK
    subst hG
    exact ⟨⟨U.C, U.g, U.n, PySem.W.exm_ref T.b T.d T.t s⟩⟩
  · exact r y h
section
variable {X : Cx} {Er : ErT}
theorem kdk (K : PySem.W.Frag) (mg : Str → Option Value) {k n : Nat} {f : Addr} {fd : FuncData} {ps : List Str} {g : List D → R D} {x : Str} {p pos : Pos} {e : Expr} {es : List Expr} {ta : TA} {fa : AF}
    (F : FnOk X.prog X.w K mg X.base (L2.CX X.prog X.w) k f fd ps (spD K mg n g)) (hr : Room k X.A) (hg : Gl X x) (hm : mg x = some (.ref f)) (hk : PySem.W.keepIn K (.ref f) = true) (hb : Binds K fd ps [])
    (ha : ∀ pn xe, DAq (X.tr pn xe) (fun _ _ => False) (e :: es) ta fa) (hn : ∀ ρ ds, fa ρ = .ok ds → ds.length = n)
    (hd : (x == ("__debug__" : Str)) = false := by decide) (hs : starEach (e :: es) X.env = (false, eval e X.env) :: starEach es X.env := by rfl) (hpl : (backTo pos (starEach es X.env)).any (·.1) = false := by rfl) (hK : X.K = K := by rfl) (hG : X.mg = mg := by rfl) :
    DK X (.Call (.Name x p) (e :: es) [] pos) (fun W => tCallS (spD K mg n g) (WE W) ta) (ownK g fa) := by subst hK; subst hG; exact dk_own F hr hg hm hk hb ha hn hd hs hpl
theorem kisX (K : PySem.W.Frag) (mg : Str → Option Value) {x : Str} {e : Expr} {te : TE} {f : EF} {tbl : List (Str × Bool)} {p p2 pos : Pos} (U : CqI K mg x) (hT : TblOk K (.ref U.C) tbl) (hg : Gl X "isinstance") (hm : mg "isinstance" = none) (hg2 : Gl X x) (h : DEq X Er e te f) (hd2 : (x == ("__debug__" : Str)) = false := by decide)
    (hs1 : starEach [e, .Name x p2] X.env = (false, eval e X.env) :: starEach [.Name x p2] X.env := by rfl) (hpl : (backTo pos (starEach [.Name x p2] X.env)).any (·.1) = false := by rfl) (hK : X.K = K := by rfl) (hG : X.mg = mg := by rfl) :
    DE X Er (.Call (.Name "isinstance" p) [e, .Name x p2] [] pos) (tCB (rIsX K) (tCons te (tCons (tC (.ref U.C)) tNil))) (exIsE tbl f) := by subst hK; subst hG; exact de_isX U hT hg hm hg2 h hd2 hs1 hpl
theorem kisV (K : PySem.W.Frag) (mg : Str → Option Value) {e : Expr} {te : TE} {f : EF} {tbl : List (Str × Bool)} {p p2 pos : Pos} (hT : TblOk K (.type "ValueError") tbl) (hg : Gl X "isinstance") (hm : mg "isinstance" = none) (hg2 : Gl X "ValueError") (hm2 : mg "ValueError" = none) (h : DEq X Er e te f)
    (hs1 : starEach [e, .Name "ValueError" p2] X.env = (false, eval e X.env) :: starEach [.Name "ValueError" p2] X.env := by rfl) (hpl : (backTo pos (starEach [.Name "ValueError" p2] X.env)).any (·.1) = false := by rfl) (hK : X.K = K := by rfl) (hG : X.mg = mg := by rfl) :
    DE X Er (.Call (.Name "isinstance" p) [e, .Name "ValueError" p2] [] pos) (tCB (rIsX K) (tCons te (tCons (tC (.ty "ValueError")) tNil))) (exIsE tbl f) := by subst hK; subst hG; exact de_isV hT hg hm hg2 hm2 h hs1 hpl
theorem kcount (K : PySem.W.Frag) {o e : Expr} {to te : TE} {fo fe : EF} {apos cpos : Pos} (hu : X.A.units + 65 < cLine) (ho : DE X Er o to fo) (he : DE X Er e te fe) (hbase : attributeBase o "count" X.env (eval o X.env) = eval o X.env := by rfl)
    (hfew : ((backTo cpos (starEach [e] X.env)).all (fun x => !x.1) && (backToKw cpos (keywordEach [] X.env)).all (fun x => x.1.isSome) && decide ([e].length + ([] : List Keyword).length + (if ([] : List Keyword).isEmpty then 0 else 1) < 30)) = true := by rfl)
    (hline : (apos.endLine == cpos.line) = true := by rfl) (hs : starEach [e] X.env = (false, eval e X.env) :: starEach [] X.env := by rfl) (hplain : (backTo cpos (starEach [] X.env)).any (·.1) = false := by rfl) (hK : X.K = K := by rfl) :
    DE X Er (.Call (.Attribute o "count" apos) [e] [] cpos) (tBM K "list" (rCountD K) to (tCons te tNil)) (lmE countD fo fe) := by subst hK; exact de_lm PySem.F.slot_list_count PySem.F.type_list_count (mt_countD hu) lm_count ho he hbase hfew hline hs hplain
theorem kindex (K : PySem.W.Frag) {o e : Expr} {to te : TE} {fo fe : EF} {apos cpos : Pos} (hu : X.A.units + 65 < cLine) (ho : DE X Er o to fo) (he : DE X Er e te fe) (hbase : attributeBase o "index" X.env (eval o X.env) = eval o X.env := by rfl)
    (hfew : ((backTo cpos (starEach [e] X.env)).all (fun x => !x.1) && (backToKw cpos (keywordEach [] X.env)).all (fun x => x.1.isSome) && decide ([e].length + ([] : List Keyword).length + (if ([] : List Keyword).isEmpty then 0 else 1) < 30)) = true := by rfl)
    (hline : (apos.endLine == cpos.line) = true := by rfl) (hs : starEach [e] X.env = (false, eval e X.env) :: starEach [] X.env := by rfl) (hplain : (backTo cpos (starEach [] X.env)).any (·.1) = false := by rfl) (hK : X.K = K := by rfl) :
    DE X Er (.Call (.Attribute o "index" apos) [e] [] cpos) (tBM K "list" (rIndexD K) to (tCons te tNil)) (lmE indexD fo fe) := by subst hK; exact de_lm PySem.F.slot_list_index PySem.F.type_list_index (mt_indexD hu) lm_index ho he hbase hfew hline hs hplain
end
end
end DL

set_option maxHeartbeats 1000000
/-! DX5: a list of lists of whole numbers and None, owned by a slot. -/
namespace DL
open PySem PySem.Spec L2
open PyProof.Rows hiding St
variable [Mem]
section
variable {K : PySem.W.Frag} {fr : Fr} {w : List Sh} {F H F' H' : Hp} {σ : St} {ρ : Env} {Φ : Own}
theorem StR.grow {os : Nat → Hp} (s : StR K fr w F H σ ρ os) (g : Grow F H F' H') : StR K fr w F' H' σ ρ os := by
  refine ⟨g.fh, sameM_trans s.gh g.hh, same_trans s.f0 g.ff, fun a h1 h2 => s.nw a (g.nw a h1 (sameM_ne s.gh s.fh h2)) h2, fun i a o e => g.hh a o (s.om i a (by rw [e]; simp)) (s.oh i a o e), fun i a h1 => ?_, fun i d e => ?_, s.len, s.om⟩
  · obtain ⟨q1, q2, q3⟩ := s.ow i a h1
    refine ⟨?_, q2, q3⟩
    cases e : F' a with
    | none => rfl
    | some o => exact absurd q1 (g.nw a (by rw [e]; simp) (same_ne (s.oh i) h1))
  · obtain ⟨v, e1, h1⟩ := s.sl i d e
    exact ⟨v, e1, h1.mono g.ff⟩
/-- a slot takes what it owns: cells that are new -/
theorem SR.set_ob {i : Nat} {v : V} {d : D} {o : Hp} (h : SR K fr w F H σ ρ) (g : Grow F H F' H') (hn : ∀ a, o a ≠ none → H a = none ∧ F' a = none) (ho : Same o H') (hr : Φ.rep K v F' o d) (hi : i < w.length) :
    SR K fr (w.set i (.ob Φ)) F' H' (σ.set i (some v)) (ρ.set i (some d)) := by
  obtain ⟨os, s⟩ := h
  have s1 := s.grow g
  have off : ∀ {j : Nat} {a : Addr}, o a ≠ none → os j a = none := fun {j a} h1 => none_of_same (s.oh j) (hn a h1).1
  refine ⟨fun j => if j = i then o else os j, s1.fh, s1.gh, s1.f0, s1.nw, fun j => ?_, fun j a h1 => ?_, fun j e q => ?_, by simpa using s.len, fun j a h1 => ?_⟩
  · by_cases hj : j = i
    · rw [if_pos hj]; exact ho
    · rw [if_neg hj]; exact s1.oh j
  · by_cases hj : j = i
    · rw [if_pos hj] at h1
      refine ⟨(hn a h1).2, none_of_sameM s.gh s.fh (hn a h1).1, fun k hk => ?_⟩
      rw [if_neg (fun z => hk (z.trans hj.symm))]
      exact off h1
    · rw [if_neg hj] at h1
      obtain ⟨q1, q2, q3⟩ := s1.ow j a h1
      refine ⟨q1, q2, fun k hk => ?_⟩
      by_cases hki : k = i
      · rw [if_pos hki]
        cases e : o a with
        | none => rfl
        | some u => exact absurd (off (j := j) (by rw [e]; simp)) h1
      · rw [if_neg hki]; exact q3 k hk
  · rcases env_set q with ⟨rfl, rfl, hv⟩ | ⟨ne, q⟩
    · refine ⟨v, by rw [List.getElem?_set_self (by rw [← s.len]; exact hv)], ?_⟩
      rw [sh_set_self hi, if_pos rfl]
      exact hr
    · rw [List.getElem?_set_ne ne, sh_set_ne ne, if_neg (Ne.symm ne)]
      exact s1.sl j e q
  · by_cases hj : j = i
    · rw [if_pos hj] at h1
      exact s.fh.no (hn a h1).1
    · rw [if_neg hj] at h1
      exact s.om j a h1
/-- F, and what o holds -/
def joinH (F o : Hp) : Hp := fun a => match o a with
  | some u => some u
  | none => F a
theorem joinH_some {F o : Hp} {a : Addr} {u : HO} (h : o a = some u) : joinH F o a = some u := by
  unfold joinH
  rw [h]
theorem joinH_none {F o : Hp} {a : Addr} (h : o a = none) : joinH F o a = F a := by
  unfold joinH
  rw [h]
/-- what a slot owns: read, changed, frozen -/
theorem StR.ob {i : Nat} {d : D} {os : Nat → Hp} (s : StR K fr w F H σ ρ os) (hw : sh w i = .ob Φ) (e : ρ[i]? = some (some d)) : ∃ v, σ[i]? = some (some v) ∧ Φ.rep K v F (os i) d ∧ Same (os i) H ∧
    (∀ q u d', os i q ≠ none → Φ.rep K v F (upd (os i) q u) d' → SR K fr w F (upd H q u) σ (ρ.set i (some d'))) ∧ (DQ K (joinH F (os i)) v d → SR K fr (w.set i .fz) (joinH F (os i)) H σ ρ ∧ Same F (joinH F (os i))) := by
  obtain ⟨v, e1, hh⟩ := s.sl i d e
  rw [hw] at hh
  have hil : i < ρ.length := (List.getElem?_eq_some_iff.mp e).1
  refine ⟨v, e1, hh, s.oh i, fun q u d' hq hr => ?_, fun hd => ?_⟩
  · obtain ⟨nF, nG, no⟩ := s.ow i q hq
    have nM : ¬ Mem.is q := s.om i q hq
    have nMb : ∀ b, Mem.is b → b ≠ q := fun b z h => nM (h ▸ z)
    have up : ∀ {A : Hp}, Same A H → A q = none → Same A (upd H q u) := fun {A} sa n b o z => by
      rw [upd_ne (ne_of_none z n)]
      exact sa b o z
    have dom : ∀ a, upd (os i) q u a ≠ none → os i a ≠ none := fun a h1 => by
      by_cases ha : a = q
      · rw [ha]; exact hq
      · rw [upd_ne ha] at h1; exact h1
    refine ⟨fun j => if j = i then upd (os i) q u else os j, ⟨up s.fh.s nF, fun b z => by
      obtain ⟨e1, u', e2, e3⟩ := s.fh.m b z
      exact ⟨e1, u', by rw [upd_ne (nMb b z)]; exact e2, e3⟩⟩, fun b o nb z => by rw [upd_ne (ne_of_none z nG)]; exact s.gh b o nb z, s.f0, s.nw, fun j => ?_, fun j b h1 => ?_, fun j e' q' => ?_, by simpa using s.len, fun j b h1 => ?_⟩
    · by_cases hj : j = i
      · rw [if_pos hj]
        intro b o z
        by_cases hb : b = q
        · subst hb; rw [upd_same] at z ⊢; exact z
        · rw [upd_ne hb] at z ⊢; exact s.oh i b o z
      · rw [if_neg hj]; exact up (s.oh j) (no j hj)
    · by_cases hj : j = i
      · rw [if_pos hj] at h1
        obtain ⟨q1, q2, q3⟩ := s.ow i b (dom b h1)
        exact ⟨q1, q2, fun k hk => by rw [if_neg (fun z => hk (z.trans hj.symm))]; exact q3 k (fun z => hk (z.trans hj.symm))⟩
      · rw [if_neg hj] at h1
        obtain ⟨q1, q2, q3⟩ := s.ow j b h1
        refine ⟨q1, q2, fun k hk => ?_⟩
        by_cases hki : k = i
        · rw [if_pos hki]
          cases z : upd (os i) q u b with
          | none => rfl
          | some o =>
            have := q3 i (fun z => hj z.symm)
            exact absurd this (dom b (by rw [z]; simp))
        · rw [if_neg hki]; exact q3 k hk
    · rcases env_set q' with ⟨rfl, rfl, hv⟩ | ⟨ne, q'⟩
      · refine ⟨v, e1, ?_⟩
        rw [hw, if_pos rfl]
        exact hr
      · rw [if_neg (Ne.symm ne)]
        exact s.sl j e' q'
    · by_cases hj : j = i
      · rw [if_pos hj] at h1
        exact s.om i b (dom b h1)
      · rw [if_neg hj] at h1
        exact s.om j b h1
  · have sF : Same F (joinH F (os i)) := fun a o z => by
      cases e2 : os i a with
      | none => rw [joinH_none e2]; exact z
      | some u =>
        have := (s.ow i a (by rw [e2]; simp)).1
        rw [this] at z
        cases z
    refine ⟨⟨fun j => if j = i then emp else os j, ⟨fun b o z => ?_, fun b z => ?_⟩, s.gh, same_trans s.f0 sF, fun b h1 h2 => ?_, fun j => ?_, fun j b h1 => ?_, fun j e' q => ?_, s.len, fun j b h1 => ?_⟩, sF⟩
    · cases e2 : os i b with
      | none => rw [joinH_none e2] at z; exact s.fh.s b o z
      | some u => rw [joinH_some e2] at z; rw [← z]; exact s.oh i b u e2
    · obtain ⟨e3, u, e4, e5⟩ := s.fh.m b z
      refine ⟨?_, u, e4, Mem.mono e5 sF⟩
      cases e2 : os i b with
      | none => rw [joinH_none e2]; exact e3
      | some u' => exact absurd z (s.om i b (by rw [e2]; simp))
    · cases e2 : os i b with
      | none => rw [joinH_none e2] at h1; exact s.nw b h1 h2
      | some u' => exact absurd (s.ow i b (by rw [e2]; simp)).2.1 h2
    · by_cases hj : j = i
      · rw [if_pos hj]; intro b o z; cases z
      · rw [if_neg hj]; exact s.oh j
    · by_cases hj : j = i
      · rw [if_pos hj] at h1; exact absurd rfl h1
      · rw [if_neg hj] at h1
        obtain ⟨q1, q2, q3⟩ := s.ow j b h1
        refine ⟨?_, q2, fun k hk => ?_⟩
        · rw [joinH_none (q3 i fun z => hj z.symm)]; exact q1
        · by_cases hki : k = i
          · rw [if_pos hki]; rfl
          · rw [if_neg hki]; exact q3 k hk
    · by_cases hj : i = j
      · subst hj
        rw [e] at q
        cases q
        exact ⟨v, e1, by rw [sh_set_fz]; exact hd⟩
      · obtain ⟨v', q1, q2⟩ := s.sl j e' q
        rw [sh_set_ne hj, if_neg (Ne.symm hj)]
        exact ⟨v', q1, q2.mono sF⟩
    · by_cases hj : j = i
      · rw [if_pos hj] at h1; exact absurd rfl h1
      · rw [if_neg hj] at h1; exact s.om j b h1
theorem SR.get_ob {i : Nat} {d : D} (h : SR K fr w F H σ ρ) (hw : sh w i = .ob Φ) (e : ρ[i]? = some (some d)) : ∃ v o, σ[i]? = some (some v) ∧ Φ.rep K v F o d ∧ Same o H ∧
    (∀ q u d', o q ≠ none → Φ.rep K v F (upd o q u) d' → SR K fr w F (upd H q u) σ (ρ.set i (some d'))) ∧ (DQ K (joinH F o) v d → SR K fr (w.set i .fz) (joinH F o) H σ ρ ∧ Same F (joinH F o)) := by
  obtain ⟨os, s⟩ := h
  obtain ⟨v, a⟩ := s.ob hw e
  exact ⟨v, os i, a⟩
end
end DL

set_option maxHeartbeats 1000000
/-! DX6: x = [new list for ..]; x[i][j] = e. -/
namespace DL
open PySem PySem.Spec L2
open PyProof.Rows hiding St
variable [Mem]
def vI : Option Int → V
  | none => .non
  | some i => .int i
def oI : Option Int → D
  | none => .none
  | some i => .int i
def isI : D → Option (Option Int)
  | .none => some none
  | .int i => some (some i)
  | _ => none
def rowI : List D → Option (List (Option Int))
  | [] => some []
  | d :: ds => (isI d).bind fun x => (rowI ds).map (x :: ·)
def llOf : List D → Option (List (List (Option Int)))
  | [] => some []
  | .list ds :: es => (rowI ds).bind fun x => (llOf es).map (x :: ·)
  | _ => none
abbrev lsD (xs : List (Option Int)) : D := .list (xs.map oI)
theorem isI_is {d : D} {x : Option Int} (h : isI d = some x) : d = oI x := by
  cases d <;> simp only [isI] at h <;> first | (cases h; rfl) | (cases h)
theorem rowI_is : ∀ {ds : List D} {xs : List (Option Int)}, rowI ds = some xs → ds = xs.map oI
  | [], xs, h => by cases h; rfl
  | d :: ds, xs, h => by
    simp only [rowI] at h
    cases e1 : isI d with
    | none => rw [e1] at h; cases h
    | some x =>
      rw [e1] at h
      simp only [Option.bind_some] at h
      cases e2 : rowI ds with
      | none => rw [e2] at h; cases h
      | some ys => rw [e2] at h; cases h; rw [isI_is e1, rowI_is e2]; rfl
theorem llOf_is : ∀ {es : List D} {xss : List (List (Option Int))}, llOf es = some xss → es = xss.map lsD
  | [], xss, h => by cases h; rfl
  | e :: es, xss, h => by
    cases e with
    | list ds =>
      simp only [llOf] at h
      cases e1 : rowI ds with
      | none => rw [e1] at h; cases h
      | some x =>
        rw [e1] at h
        simp only [Option.bind_some] at h
        cases e2 : llOf es with
        | none => rw [e2] at h; cases h
        | some ys => rw [e2] at h; cases h; rw [rowI_is e1, llOf_is e2]; rfl
    | _ => cases h
theorem dp_oI {K : PySem.W.Frag} {F : Hp} {v : V} : ∀ {x : Option Int}, Dp K F v (oI x) → v = vI x
  | none, h => by cases h; rfl
  | some i, h => by cases h; rfl
theorem oI_dp {K : PySem.W.Frag} {F : Hp} : ∀ x : Option Int, Dp K F (vI x) (oI x)
  | none => .non
  | some i => .int i
theorem dpAll_oI {K : PySem.W.Frag} {F : Hp} : ∀ {xs : List (Option Int)} {vs : List V}, DpAll K F vs (xs.map oI) → vs = xs.map vI
  | [], vs, h => by cases h; rfl
  | x :: xs, vs, h => by
    cases h with
    | cons h1 h2 => rw [dp_oI h1, dpAll_oI h2]; rfl
theorem oI_dpAll {K : PySem.W.Frag} {F : Hp} : ∀ xs : List (Option Int), DpAll K F (xs.map vI) (xs.map oI)
  | [] => .nil
  | x :: xs => .cons (oI_dp x) (oI_dpAll xs)
/-- the inner lists, new since H, outside F' -/
structure Inn (K : PySem.W.Frag) (H F' H' : Hp) (qs : List Addr) (es : List D) : Prop where
  len : qs.length = es.length
  nd : qs.Nodup
  at_ : ∀ (i : Nat) (q : Addr) (e : D), qs[i]? = some q → es[i]? = some e → ∃ vs ds, e = .list ds ∧ H q = none ∧ F' q = none ∧ H' q = some (.lst vs) ∧ DpAll K F' vs ds
theorem Inn.all {K : PySem.W.Frag} {H F' H' : Hp} {qs : List Addr} {es : List D} (h : Inn K H F' H' qs es) {q : Addr} (hq : q ∈ qs) : H q = none ∧ F' q = none ∧ ∃ vs, H' q = some (.lst vs) := by
  obtain ⟨i, hi⟩ := List.getElem?_of_mem hq
  obtain ⟨h1, _⟩ := List.getElem?_eq_some_iff.mp hi
  have h2 : i < es.length := by rw [← h.len]; exact h1
  obtain ⟨vs, ds, _, a, b, c, _⟩ := h.at_ i q es[i] hi (List.getElem?_eq_getElem h2)
  exact ⟨a, b, vs, c⟩
theorem Inn.grow {K : PySem.W.Frag} {F0 H F' H' F2 H2 : Hp} {qs : List Addr} {es : List D} (h : Inn K H F' H' qs es) (w : Wf F0 H) (g : Grow F' H' F2 H2) : Inn K H F2 H2 qs es where
  len := h.len
  nd := h.nd
  at_ := fun i q e h1 h2 => by
    obtain ⟨vs, ds, e1, a, b, c, dp⟩ := h.at_ i q e h1 h2
    refine ⟨vs, ds, e1, a, ?_, g.hh q _ (w.no a) c, dpAll_mono g.ff _ _ dp⟩
    cases z : F2 q with
    | none => rfl
    | some u => exact absurd b (g.nw q (by rw [z]; simp) (by rw [c]; simp))
theorem Inn.snoc {K : PySem.W.Frag} {H F' H' : Hp} {qs : List Addr} {es : List D} (h : Inn K H F' H' qs es) {q : Addr} {vs : List V} {ds : List D} (hq : H' q = none) (h0 : H q = none) (hF : F' q = none) (hd : DpAll K F' vs ds) : Inn K H F' (upd H' q (.lst vs)) (qs ++ [q]) (es ++ [.list ds]) where
  len := by simp [h.len]
  nd := by
    rw [List.nodup_append]
    refine ⟨h.nd, by simp, fun a ha b hb => ?_⟩
    rw [List.mem_singleton] at hb
    subst hb
    intro z
    subst z
    obtain ⟨_, _, vs', e⟩ := h.all ha
    rw [hq] at e
    cases e
  at_ := fun i p e h1 h2 => by
    rcases Nat.lt_or_ge i qs.length with z | z
    · rw [List.getElem?_append_left z] at h1
      rw [List.getElem?_append_left (by rw [← h.len]; exact z)] at h2
      obtain ⟨vs', ds', e1, a, b, c, dp⟩ := h.at_ i p e h1 h2
      exact ⟨vs', ds', e1, a, b, by rw [upd_ne (ne_of_none c hq)]; exact c, dp⟩
    · rw [List.getElem?_append_right z] at h1
      rw [List.getElem?_append_right (by rw [← h.len]; exact z), ← h.len] at h2
      cases hi : i - qs.length with
      | zero =>
        rw [hi] at h1 h2
        cases h1
        cases h2
        exact ⟨vs, ds, rfl, h0, hF, upd_same, hd⟩
      | succ j =>
        rw [hi] at h1
        cases h1
/-- a new list of new lists -/
def DRl (K : PySem.W.Frag) (Er : ErT) (te : TE) (f : AF) : Prop := ∀ F H σ ρ Q, Wf F H → EnvR K F σ ρ →
  Post F H Er (f ρ) (fun F' H' es => ∀ p qs, H' p = none → Inn K H F' H' qs es → Q (.ref p) (upd H' p (.lst (qs.map V.ref)))) → te σ H Q
theorem grow_none {F H F' H' : Hp} (w : Wf F H) (g : Grow F H F' H') {a : Addr} (h : H' a = none) : H a = none := by
  cases e : H a with
  | none => rfl
  | some u =>
    by_cases z : Mem.is a
    · obtain ⟨_, o, e2, _⟩ := g.fh.m a z
      rw [h] at e2
      cases e2
    · have := g.hh a u z e
      rw [h] at this
      cases this
theorem lst_noErr {β : Type} (fe : AF) (ρ : Env) (k : D → R β) : (lstE fe ρ).noErr.bind k = (fe ρ).noErr.bind fun xs => k (.list xs) := by
  unfold lstE bE cE
  cases fe ρ <;> rfl
theorem dr_lcl {Er : ErT} {te : TE} {K : PySem.W.Frag} {tt : TT} {wi : TI} {g : TG} {fi : AF} {tgf : TGF} {ft : TF} {fe : AF} {vs js : List Nat} (hi : DRi K Er wi fi)
    (hg : ∀ (F H : Hp) (v : V) (d : D) as σ (Q : St → Hp → Prop), Wf F H → Dp K F v d → tgf d = some as → (∀ us, DpAll K F us (as.map (·.2)) → as.map (·.1) = js → Q (setV σ js us) H) → g v σ H Q)
    (ht : DRt K ErF tt ft) (he : DRn K ErF te fe) (hjs : ∀ j ∈ js, j ∈ vs) :
    DRl K Er (tLc wi g tt te vs) (compE fi tgf ft (lstE fe) vs) := by
  intro F H σ ρ Q s st p
  refine hi F H σ ρ _ s st (Post.imp (Post.bind (Post.bind p)) fun F1 H1 ds g1 p1 J dit Dl hD => ?_)
  obtain ⟨hsz, p2⟩ := small_ok p1 g1.fh
  have h0 : ∀ {q : Addr}, H1 q = none → H q = none := fun {q} z => grow_none s g1 z
  refine ⟨fun i m Hc => m = ds.length - i ∧ i ≤ ds.length ∧ ∃ F' Hh qs accD, Grow F1 H1 F' Hh ∧ Hh Dl = none ∧ Hc = upd Hh Dl (.lst (qs.map V.ref)) ∧ Inn K H F' Hh qs accD ∧ accD.length ≤ i ∧
    Post F' Hh Er (compL tgf ft (lstE fe) (killE ρ vs) (ds.drop i)) (fun F'' H'' es => ∀ p us, H'' p = none → Inn K H F'' H'' us (accD ++ es) → Q (.ref p) (upd H'' p (.lst (us.map V.ref)))), ⟨ds.length, by simp, Nat.zero_le _, F1, H1, [], [], .refl g1.fh, hD, rfl, ⟨rfl, List.nodup_nil, fun i q e h1 => by cases h1⟩, Nat.le_refl _, by simpa using p2⟩, ?_⟩
  rintro i m Hc ⟨rfl, hle, F', Hh, qs, accD, gr, hDl, rfl, hacc, hal, pp⟩
  have sH : Wf F' (upd Hh Dl (.lst (qs.map V.ref))) := gr.fh.upd hDl
  have nD : ¬ Mem.is Dl := gr.fh.no hDl
  by_cases hlt : i < ds.length
  · refine .inr ⟨dit.go i F' _ gr.ff sH hlt, _, fun H' h => ⟨ds.length - (i + 1), by omega, h⟩, fun x H' y => ?_⟩
    obtain ⟨d, hd⟩ : ∃ d, ds[i]? = some d := ⟨ds[i], by simp [hlt]⟩
    have hdrop : ds.drop i = d :: ds.drop (i + 1) := by
      obtain ⟨h1, h2⟩ := List.getElem?_eq_some_iff.mp hd
      rw [← h2]
      exact List.drop_eq_getElem_cons hlt
    rw [hdrop] at pp
    obtain ⟨F2, gy, dx⟩ := dit.yld i F' _ x H' d gr.ff sH hd y
    have gy' := grow_hide gr.fh hDl gy
    have pp2 := Post.mono pp gy'
    unfold compL at pp2
    cases eas : tgf d with
    | none => rw [eas] at pp2; exact pp2.elim
    | some as =>
      rw [eas, R.of_some, R.bind_ok] at pp2
      have hH' : H' Dl = some (.lst (qs.map V.ref)) := gy.hh Dl _ nD upd_same
      have back : ∀ {A : Hp}, A Dl = some (.lst (qs.map V.ref)) → upd (remH A Dl) Dl (.lst (qs.map V.ref)) = A := fun {A} hA => by
        rw [upd_rem]
        funext a
        unfold upd
        by_cases ha : a = Dl
        · rw [if_pos ha, ha, hA]
        · rw [if_neg ha]
      refine hg F2 H' x d as (L2.wipe σ vs) _ gy.fh dx eas fun us hus hjs' => ?_
      refine ⟨by rw [wipe_setV js us _ hjs, wipe_wipe], ?_⟩
      have env2 : EnvR K F2 (setV (L2.wipe σ vs) js us) (setE (killE ρ vs) as) := by
        have e1 := EnvR.setMany (σ := L2.wipe σ vs) (ρ := killE ρ vs) ((((st.mono g1.ff).mono gr.ff).mono gy.ff).wipe vs) hus
        rw [hjs'] at e1
        exact e1
      have pt := Post.hide (o := .lst (qs.map V.ref)) (Er2 := ErF) pp2 gy'.fh remH_same
      rw [back hH'] at pt
      refine ht F2 H' _ _ _ gy.fh env2 (Post.imp pt fun F3 H3 b g3 p3 => ?_)
      have g3' : Grow F2 (remH H' Dl) F3 (remH H3 Dl) := grow_hide gy'.fh remH_same (by rw [back hH']; exact g3)
      have hH3 : H3 Dl = some (.lst (qs.map V.ref)) := g3.hh Dl _ nD hH'
      have hacc3 := (hacc.grow s gy').grow s g3'
      cases b with
      | false =>
        rw [if_neg (by decide)]
        rw [if_neg (by decide)] at p3
        exact ⟨rfl, hlt, F3, remH H3 Dl, qs, accD, (gr.trans gy').trans g3', remH_same, (back hH3).symm, hacc3, Nat.le_succ_of_le hal, p3⟩
      | true =>
        rw [if_pos rfl]
        rw [if_pos rfl] at p3
        rw [lst_noErr] at p3
        have pe := Post.hide (o := .lst (qs.map V.ref)) (Er2 := ErF) p3 g3'.fh remH_same
        rw [back hH3] at pe
        refine he F3 H3 _ _ _ g3.fh (env2.mono g3.ff) (Post.imp pe fun F4 H4 xs g4 p4 q us hq dus => ?_)
        have g4' : Grow F3 (remH H3 Dl) F4 (remH H4 Dl) := grow_hide g3'.fh remH_same (by rw [back hH3]; exact g4)
        have hH4 : H4 Dl = some (.lst (qs.map V.ref)) := g4.hh Dl _ nD hH3
        have nqD : q ≠ Dl := fun z => by rw [z, hH4] at hq; cases hq
        have hq4 : remH H4 Dl q = none := by rw [remH_ne nqD]; exact hq
        have gA := ((gr.trans gy').trans g3').trans g4'
        have hF4 : F4 q = none := none_of_same gA.fh.s hq4
        have gq : Grow F4 (remH H4 Dl) F4 (upd (remH H4 Dl) q (.lst us)) := ⟨same_refl _, sameM_of (same_upd hq4), gA.fh.upd hq4, fun a h1 _ => h1⟩
        have hq1 : H1 q = none := grow_none g1.fh gA hq4
        refine ⟨qs.map V.ref, by rw [upd_ne (Ne.symm nqD)]; exact hH4, sz_lt (by rw [List.length_map, hacc.len]; omega), rfl, hlt, F4, upd (remH H4 Dl) q (.lst us), qs ++ [q], accD ++ [.list xs], gA.trans gq, by rw [upd_ne (Ne.symm nqD)]; exact remH_same, ?_, (hacc3.grow s g4').snoc hq4 (h0 hq1) hF4 dus, by simp; omega, ?_⟩
        · funext a
          by_cases ha : a = Dl
          · rw [ha, upd_same, upd_same, List.map_append]
            rfl
          · rw [upd_ne ha, upd_ne ha]
            by_cases hb : a = q
            · rw [hb, upd_same, upd_same]
            · rw [upd_ne hb, upd_ne hb, remH_ne ha]
        · refine Post.imp (Post.mono (Post.bind p4) gq) fun F5 H5 es g5 p5 q2 us2 hq2 hd5 => ?_
          exact Post.now p5 g5.fh q2 us2 hq2 (by simpa using hd5)
  · have e : i = ds.length := by omega
    subst e
    refine .inl ⟨dit.stop F' _ gr.ff sH, ?_⟩
    rw [List.drop_length] at pp
    unfold compL at pp
    exact Post.now pp gr.fh Dl qs hDl (by simpa using hacc)
end DL

set_option maxHeartbeats 1000000
/-! DX7: statements on an owned list of lists. -/
namespace DL
open PySem PySem.Spec L2
open PyProof.Rows hiding St
variable [Mem]
abbrev llD (xss : List (List (Option Int))) : D := .list (xss.map lsD)
def chunk : List Addr → List (List (Option Int)) → Hp
  | q :: qs, xs :: xss => upd (chunk qs xss) q (.lst (xs.map vI))
  | _, _ => emp
def llO : Own := ⟨fun _ v _ o d => ∃ (p : Addr) (qs : List Addr) (xss : List (List (Option Int))), v = .ref p ∧ d = llD xss ∧ o = upd (chunk qs xss) p (.lst (qs.map V.ref)) ∧ (p :: qs).Nodup ∧ qs.length = xss.length, fun h _ => h⟩
theorem chunk_at : ∀ {qs : List Addr} {xss : List (List (Option Int))} {j : Nat} {q : Addr} {xs : List (Option Int)}, qs.Nodup → qs[j]? = some q → xss[j]? = some xs → chunk qs xss q = some (.lst (xs.map vI))
  | q :: qs, ys :: xss, 0, _, _, _, h1, h2 => by
    cases h1
    cases h2
    exact upd_same
  | p :: qs, ys :: xss, j + 1, q, xs, hn, h1, h2 => by
    have hn2 := List.nodup_cons.mp hn
    have h1' : qs[j]? = some q := by simpa using h1
    have ne : q ≠ p := fun z => hn2.1 (z ▸ List.mem_of_getElem? h1')
    show upd _ p _ q = _
    rw [upd_ne ne]
    exact chunk_at hn2.2 h1' (by simpa using h2)
  | [], _, j, _, _, _, h1, _ => by cases h1
  | _ :: _, [], j, _, _, _, _, h2 => by cases h2
theorem chunk_mem : ∀ {qs : List Addr} {xss : List (List (Option Int))} {q : Addr}, chunk qs xss q ≠ none → q ∈ qs
  | p :: qs, ys :: xss, q, h => by
    by_cases e : q = p
    · rw [e]; exact List.mem_cons_self
    · have h : upd (chunk qs xss) p (.lst (ys.map vI)) q ≠ none := h
      rw [upd_ne e] at h
      exact List.mem_cons_of_mem _ (chunk_mem h)
  | [], _, _, h => absurd rfl h
  | _ :: _, [], _, h => absurd rfl h
theorem upd_comm2 {H : Hp} {a b : Addr} {u v : HO} (h : a ≠ b) : upd (upd H a u) b v = upd (upd H b v) a u := by
  funext x
  unfold upd
  by_cases h1 : x = b
  · rw [if_pos h1]
    by_cases h2 : x = a
    · exact absurd (h2.symm.trans h1) h
    · rw [if_neg h2, if_pos h1]
  · rw [if_neg h1]
    by_cases h2 : x = a
    · rw [if_pos h2, if_pos h2]
    · rw [if_neg h2, if_neg h2, if_neg h1]
theorem upd_upd {H : Hp} {a : Addr} {u v : HO} : upd (upd H a u) a v = upd H a v := by
  funext x
  unfold upd
  by_cases h : x = a
  · rw [if_pos h, if_pos h]
  · rw [if_neg h, if_neg h, if_neg h]
theorem chunk_set : ∀ {qs : List Addr} {xss : List (List (Option Int))} {j : Nat} {q : Addr} (ys : List (Option Int)), qs.Nodup → qs[j]? = some q → j < xss.length → chunk qs (xss.set j ys) = upd (chunk qs xss) q (.lst (ys.map vI))
  | q :: qs, zs :: xss, 0, _, ys, _, h1, _ => by
    cases h1
    show upd (chunk qs xss) q _ = upd (upd (chunk qs xss) q _) q _
    rw [upd_upd]
  | p :: qs, zs :: xss, j + 1, q, ys, hn, h1, h2 => by
    have hn2 := List.nodup_cons.mp hn
    have h1' : qs[j]? = some q := by simpa using h1
    have ne : p ≠ q := fun z => hn2.1 (z ▸ List.mem_of_getElem? h1')
    show upd (chunk qs (xss.set j ys)) p _ = upd (upd (chunk qs xss) p _) q _
    rw [chunk_set ys hn2.2 h1' (by simpa using h2), upd_comm2 ne]
  | [], _, j, _, _, _, h1, _ => by cases h1
  | _ :: _, [], j, _, _, _, _, h2 => by simp at h2
theorem rowI_map : ∀ xs : List (Option Int), rowI (xs.map oI) = some xs
  | [] => rfl
  | x :: xs => by
    have e : isI (oI x) = some x := by cases x <;> rfl
    simp [rowI, e, rowI_map xs]
theorem llOf_map : ∀ xss : List (List (Option Int)), llOf (xss.map lsD) = some xss
  | [] => rfl
  | xs :: xss => by simp [llOf, rowI_map, llOf_map xss]
def llDe : D → Option (List (List (Option Int)))
  | .list es => llOf es
  | _ => none
theorem llDe_ll (xss : List (List (Option Int))) : llDe (llD xss) = some xss := llOf_map xss
section
variable {K : PySem.W.Frag} {fr : Fr} {w w' wl : List Sh} {s0 : Sh} {F H F' H' : Hp} {σ : St} {ρ : Env} {X : Cx} {Er : ErT} {te : TE} {st : Stmt} {pos : Pos} {sts : List Stmt} {t : TS} {f : SF}
/-! freeze -/
theorem chunk_dp {K : PySem.W.Frag} {A : Hp} : ∀ {qs : List Addr} {xss : List (List (Option Int))}, qs.length = xss.length → (∀ (j : Nat) (q : Addr) (xs : List (Option Int)), qs[j]? = some q → xss[j]? = some xs → A q = some (.lst (xs.map vI))) → DpAll K A (qs.map V.ref) (xss.map lsD)
  | [], [], _, _ => .nil
  | q :: qs, xs :: xss, hl, h => .cons (.lst (.inl (.inl (h 0 q xs rfl rfl))) (oI_dpAll xs)) (chunk_dp (by simpa using hl) fun j q' xs' h1 h2 => h (j + 1) q' xs' (by simpa using h1) (by simpa using h2))
  | [], _ :: _, hl, _ => by simp at hl
  | _ :: _, [], hl, _ => by simp at hl
theorem SR.freezeL {i : Nat} (h : SR K fr w F H σ ρ) (hw : sh w i = .ob llO) : ∃ F', Same F F' ∧ SR K fr (w.set i .fz) F' H σ ρ := by
  cases e : ρ[i]? with
  | none =>
    refine ⟨F, same_refl F, ?_⟩
    have hn : ∀ d, ρ[i]? ≠ some (some d) := fun d z => by rw [e] at z; cases z
    obtain ⟨os, s⟩ := h
    refine ⟨os, s.fh, s.gh, s.f0, s.nw, s.oh, s.ow, fun j d q => ?_, s.len, s.om⟩
    have hj : i ≠ j := fun z => hn d (by rw [z]; exact q)
    rw [sh_set_ne hj]
    exact s.sl j d q
  | some x =>
    cases x with
    | none =>
      refine ⟨F, same_refl F, ?_⟩
      have hn : ∀ d, ρ[i]? ≠ some (some d) := fun d z => by rw [e] at z; cases z
      obtain ⟨os, s⟩ := h
      refine ⟨os, s.fh, s.gh, s.f0, s.nw, s.oh, s.ow, fun j d q => ?_, s.len, s.om⟩
      have hj : i ≠ j := fun z => hn d (by rw [z]; exact q)
      rw [sh_set_ne hj]
      exact s.sl j d q
    | some d =>
      obtain ⟨v, o, e1, ⟨p, qs, xss, rfl, rfl, rfl, hnd, hl⟩, ho, _, hf⟩ := h.get_ob hw e
      have hn := List.nodup_cons.mp hnd
      obtain ⟨a, b⟩ := hf (.inl (.lst (.inl (.inl (joinH_some upd_same))) (chunk_dp hl fun j q xs h1 h2 => by
        have ne : q ≠ p := fun z => hn.1 (z ▸ List.mem_of_getElem? h1)
        exact joinH_some (by rw [upd_ne ne]; exact chunk_at hn.2 h1 h2))))
      exact ⟨_, b, a⟩
theorem ds_frzL (i : Nat) (hi : sh w i = .ob llO) (h : DS X Er s0 wl (w.set i .fz) sts w' t f) : DS X Er s0 wl w sts w' t f := by
  refine ⟨h.ps, fun fr F H σ ρ Dn st p => ?_⟩
  obtain ⟨F', s, st'⟩ := st.freezeL hi
  exact h.rd fr F' H σ ρ Dn st' (PostS.mono p s)
/-! x = [new list for ..] -/
def newL (w : List Sh) (i : Nat) (f : AF) : SF := fun ρ => runR (f (hidA w ρ)) ρ fun es => match llOf es with
  | some xss => .nx (ρ.set i (some (llD xss)))
  | none => .bad
theorem inn_chunk {K : PySem.W.Frag} : ∀ {qs : List Addr} {xss : List (List (Option Int))}, Inn K H F' H' qs (xss.map lsD) → ∀ a u, chunk qs xss a = some u → H a = none ∧ F' a = none ∧ H' a = some u := fun {qs xss} h a u e => by
  have hm : a ∈ qs := chunk_mem (by rw [e]; simp)
  obtain ⟨j, hj⟩ := List.getElem?_of_mem hm
  have hjl : j < xss.length := by
    have := (List.getElem?_eq_some_iff.mp hj).1
    rw [h.len, List.length_map] at this
    exact this
  obtain ⟨vs, ds, e1, a1, a2, a3, dp⟩ := h.at_ j a (lsD xss[j]) hj (by rw [List.getElem?_map, List.getElem?_eq_getElem hjl]; rfl)
  have e2 : ds = xss[j].map oI := by
    injection e1 with e1
    exact e1.symm
  subst e2
  have e3 := chunk_at (xss := xss) h.nd hj (List.getElem?_eq_getElem hjl)
  rw [e] at e3
  cases e3
  rw [dpAll_oI dp] at a3
  exact ⟨a1, a2, a3⟩
theorem drs_newL {i : Nat} {fe : AF} (hw : sh w 0 = s0) (hi : i < w.length) (h : DRl K Er te fe) : DRs K Er s0 wl w (w.set i (.ob llO)) (tAsg te (gName i)) (newL w i fe) := by
  intro fr F H σ ρ Dn st p
  refine h F H σ _ _ st.fh st.envA ?_
  unfold newL at p
  cases e : fe (hidA w ρ) with
  | ok es =>
    rw [e, runR_ok] at p
    intro F1 H1 g a qs ha hin
    cases el : llOf es with
    | none => simp only [el] at p; exact p.elim
    | some xss =>
      simp only [el] at p
      have ees := llOf_is el
      subst ees
      have hF1 : F1 a = none := none_of_same g.fh.s ha
      have hH : H a = none := grow_none st.fh g ha
      have naq : a ∉ qs := fun z => by
        obtain ⟨_, _, vs, e2⟩ := hin.all z
        rw [ha] at e2
        cases e2
      have g2 : Grow F H F1 (upd H1 a (.lst (qs.map V.ref))) := g.trans ⟨same_refl _, sameM_of (same_upd ha), g.fh.upd ha, fun b h1 _ => h1⟩
      refine p _ F1 _ g.ff (st.set_ob (Φ := llO) (o := upd (chunk qs xss) a (.lst (qs.map V.ref))) g2 (fun b hb => ?_) (fun b u hb => ?_) ⟨a, qs, xss, rfl, rfl, rfl, List.nodup_cons.mpr ⟨naq, hin.nd⟩, by rw [hin.len, List.length_map]⟩ hi)
      · by_cases z : b = a
        · rw [z]; exact ⟨hH, hF1⟩
        · rw [upd_ne z] at hb
          cases eu : chunk qs xss b with
          | none => exact absurd eu hb
          | some u =>
            obtain ⟨a1, a2, _⟩ := inn_chunk hin b u eu
            exact ⟨a1, a2⟩
      · by_cases z : b = a
        · subst z
          rw [upd_same] at hb ⊢
          exact hb
        · rw [upd_ne z] at hb ⊢
          exact (inn_chunk hin b u hb).2.2
  | err c =>
    rw [e] at p
    exact fun F' H' gr => p σ F' H' w hw (st.grow gr)
  | bad => rw [e] at p; exact p.elim
end
end DL

set_option maxHeartbeats 1000000
/-! DX8: lists of lists: the statements. -/
namespace DL
open PySem PySem.Spec L2
open PyProof.Rows hiding St
variable [Mem]
section
variable {X : Cx} {Er : ErT} {te : TE} {ta : TA} {K : PySem.W.Frag} {tt : TT}
theorem dl_lc {elt tg iter : Expr} {ifs : List Expr} {scope : Scope} {own : List (Str × Nat)} {pos : Pos} {wi : TI} {g : TG} {fi : AF} {tgf : TGF} {ft : TF} {fe : AF} {js : List Nat} (hc : X.calm = true) (hN : X.N.Nodup) (hi : DI X Er tg iter wi fi) (ok : BlkOk X.N X.env.scope scope own)
    (hg : ∀ (s : Shared) (H : Hp) (C : Addr) (cl : List (Str × Addr)) (fp : List Addr), TG1 (X.blk s H scope (compEnvC scope cl C X.env) fp) tg g tgf js)
    (ht : ∀ (s : Shared) (H : Hp) (C : Addr) (cl : List (Str × Addr)) (fp : List Addr), DTS (X.blk s H scope (compEnvC scope cl C X.env) fp) ErF ifs tt ft)
    (he : ∀ (s : Shared) (H : Hp) (C : Addr) (cl : List (Str × Addr)) (fp : List Addr), DN (X.blk s H scope (compEnvC scope cl C X.env) fp) ErF elt te fe) (hjs : ∀ j ∈ js, j ∈ own.map (·.2) := by decide) (hs : ∀ x, foldedSetIterable iter X.env x = pure x := by intro _; rfl) :
    PE X (.ListComp elt [⟨tg, iter, ifs, 0⟩] scope pos) (tLc wi g tt te (own.map (·.2))) ∧ DRl X.K Er (tLc wi g tt te (own.map (·.2))) (compE fi tgf ft (lstE fe) (own.map (·.2))) :=
  ⟨pe_lc hc hN hi.pi ok (fun s H C cl fp => (hg s H C cl fp).pg) (fun s H C cl fp => (ht s H C cl fp).pt) (fun s H C cl fp => (he s H C cl fp).pe) hs,
    dr_lcl hi.rd (hg X.s_0 X.H_0 0 [] []).rd (ht X.s_0 X.H_0 0 [] []).rd (he X.s_0 X.H_0 0 [] []).rd hjs⟩
theorem ps_lcl {i : Nat} {y : Str} {py : Pos} {elt tg iter : Expr} {ifs : List Expr} {scope : Scope} {own : List (Str × Nat)} {pos spos : Pos} {wi : TI} {g : TG} {fi : AF} {tgf : TGF} {ft : TF} {fe : AF} {js : List Nat} (hc : X.calm = true) (hN : X.N.Nodup) (hy : X.N[i]? = some y) (hyl : X.env.scope.names.lookup y = some .local)
    (hsw : swapsWith (.ListComp elt [⟨tg, iter, ifs, 0⟩] scope pos) (some (.Name y py)) spos.line X.env = pure true) (hi : DI X Er tg iter wi fi) (ok : BlkOk X.N X.env.scope scope own)
    (hg : ∀ (s : Shared) (H : Hp) (C : Addr) (cl : List (Str × Addr)) (fp : List Addr), TG1 (X.blk s H scope (compEnvC scope cl C X.env) fp) tg g tgf js)
    (ht : ∀ (s : Shared) (H : Hp) (C : Addr) (cl : List (Str × Addr)) (fp : List Addr), DTS (X.blk s H scope (compEnvC scope cl C X.env) fp) ErF ifs tt ft)
    (he : ∀ (s : Shared) (H : Hp) (C : Addr) (cl : List (Str × Addr)) (fp : List Addr), DN (X.blk s H scope (compEnvC scope cl C X.env) fp) ErF elt te fe) (hjs : ∀ j ∈ js, j ∈ own.map (·.2) := by decide) (hs : ∀ x, foldedSetIterable iter X.env x = pure x := by intro _; rfl) :
    PS X (.Assign [.Name y py] (.ListComp elt [⟨tg, iter, ifs, 0⟩] scope pos) spos) (tAsg (tLc wi g tt te (own.map (·.2))) (gName i)) ∧ DRl X.K Er (tLc wi g tt te (own.map (·.2))) (compE fi tgf ft (lstE fe) (own.map (·.2))) :=
  ⟨ps_setLc hc hN hy hyl hsw hi.pi ok (fun s H C cl fp => (hg s H C cl fp).pg) (fun s H C cl fp => (ht s H C cl fp).pt) (fun s H C cl fp => (he s H C cl fp).pe) hs,
    dr_lcl hi.rd (hg X.s_0 X.H_0 0 [] []).rd (ht X.s_0 X.H_0 0 [] []).rd (he X.s_0 X.H_0 0 [] []).rd hjs⟩
end
section
variable {X : Cx} {Er : ErT} {s0 : Sh} {wl w : List Sh} {te : TE} {st : Stmt} {pos : Pos}
theorem d_newLl {i : Nat} {fe : AF} (h : PS X st (tAsg te (gName i)) ∧ DRl X.K Er te fe) (hl : i < w.length := by decide) (hw : sh w 0 = s0 := by rfl) : D1 X Er s0 wl w st (w.set i (.ob llO)) (tAsg te (gName i)) (newL w i fe) := ⟨h.1, drs_newL hw hl h.2⟩
theorem s_newL (i : Nat) {x : Str} {e : Expr} {pos' : Pos} {fe : AF} (hN : X.N.Nodup) (h : PE X e te ∧ DRl X.K Er te fe) (hi : X.N[i]? = some x := by rfl) (hx : Loc X.env.scope x := by first | exact Or.inl rfl | exact Or.inr rfl) (hl : i < w.length := by decide) (hw : sh w 0 = s0 := by rfl) (hs : swapsWith e (some (.Name x pos')) pos.line X.env = pure false := by rfl) (hf : X.fn x = true ∨ X.env.scope.names.lookup x = some .local := by first | exact .inl rfl | exact .inr rfl) :
    D1 X Er s0 wl w (.Assign [.Name x pos'] e pos) (w.set i (.ob llO)) (tAsg te (gName i)) (newL w i fe) := ⟨ps_set hN hi hx h.1 hs hf, drs_newL hw hl h.2⟩
/-- x[a][b] = e -/
def rowAt (xss : List (List (Option Int))) : D → Option (Nat × List (Option Int))
  | .int a => if 0 ≤ a then (xss[a.toNat]?).map fun xs => (a.toNat, xs) else none
  | _ => none
def putL (ρ : Env) (i : Nat) (xss : List (List (Option Int))) (j : Nat) (xs : List (Option Int)) (b d : D) : Out := match b, isI d with
  | .int b, some x => if 0 ≤ b ∧ b.toNat < xs.length then .nx (ρ.set i (some (llD (xss.set j (xs.set b.toNat x))))) else .bad
  | _, _ => .bad
def setLL (w : List Sh) (i : Nat) (fe fa fb : EF) : SF := fun ρ => match ρ[i]? with
  | some (some dl) => (match llDe dl with
    | some xss => runR (fe (hidA w ρ)) ρ fun d => runR (fa (hidA w ρ)) ρ fun a => match rowAt xss a with
      | some (j, xs) => runR (fb (hidA w ρ)) ρ fun b => putL ρ i xss j xs b d
      | none => .bad
    | none => .bad)
  | _ => .bad
theorem ixN_nat {n j : Nat} (h : j < n) : ixN n (j : Int) = some j := by
  unfold ixN
  rw [if_pos (by omega), if_pos (by omega)]
  rfl
theorem drs_setLL {K : PySem.W.Frag} {i : Nat} {fe fa fb : EF} {ta tb : TE} (hi : sh w i = .ob llO) (hw : sh w 0 = s0) (h : DRd K Er te fe) (ha : DRd K Er ta fa) (hb : DRd K Er tb fb) : DRs K Er s0 wl w w (tAsg te (gSub (tOp (rIx K) (tVar i) ta) tb rSetL)) (setLL w i fe fa fb) := by
  intro fr F H σ ρ Dn st p
  unfold setLL at p
  cases e : ρ[i]? with
  | none => rw [e] at p; exact p.elim
  | some o =>
    cases o with
    | none => rw [e] at p; exact p.elim
    | some dl =>
      rw [e] at p
      simp only at p
      cases el : llDe dl with
      | none => rw [el] at p; exact p.elim
      | some xss =>
        rw [el] at p
        simp only at p
        refine runA (te := te) hw h st p fun d v F1 H1 s1 st1 dv p1 => ?_
        obtain ⟨v1, o1, e1, ⟨pp, _, _, e3, _⟩, _⟩ := st1.get_ob hi e
        subst e3
        refine ⟨_, e1, runA (te := ta) hw ha st1 p1 fun da va F2 H2 s2 st2 dva p2 => ?_⟩
        cases er : rowAt xss da with
        | none => simp only [er] at p2; exact p2.elim
        | some jx =>
          obtain ⟨j, xs⟩ := jx
          simp only [er] at p2
          cases da with
          | int a =>
            cases dva
            simp only [rowAt] at er
            by_cases h0 : 0 ≤ a
            · rw [if_pos h0] at er
              cases ex : xss[a.toNat]? with
              | none => rw [ex] at er; cases er
              | some ys =>
                rw [ex] at er
                cases er
                have env2 := st2.envA
                obtain ⟨os, s2'⟩ := st2
                obtain ⟨v2, e2, ⟨pp2, qs, xss2, e4, e5, e6, hnd, hl⟩, ho, _⟩ := s2'.ob hi e
                rw [e1] at e2
                cases e2
                cases e4
                have ex2 : xss2 = xss := by
                  rw [e5, llDe_ll] at el
                  exact Option.some.inj el
                subst ex2
                have hn := List.nodup_cons.mp hnd
                have hjl : a.toNat < xss2.length := (List.getElem?_eq_some_iff.mp ex).1
                obtain ⟨q, hq⟩ : ∃ q, qs[a.toNat]? = some q := ⟨qs[a.toNat]'(by rw [hl]; exact hjl), List.getElem?_eq_getElem (by rw [hl]; exact hjl)⟩
                have nqp : q ≠ pp := fun z => hn.1 (z ▸ List.mem_of_getElem? hq)
                have oq : os i q = some (.lst (xs.map vI)) := by
                  rw [e6, upd_ne nqp]
                  exact chunk_at hn.2 hq ex
                have hp : H2 pp = some (.lst (qs.map V.ref)) := ho pp _ (by rw [e6, upd_same])
                refine .inl ⟨pp, qs.map V.ref, a, .ref q, rfl, rfl, .inl (.inl hp), ?_, ?_⟩
                · have : a = (a.toNat : Int) := by omega
                  rw [this]
                  unfold atI
                  rw [List.length_map, ixN_nat (by rw [hl]; exact hjl), Option.bind_some, List.getElem?_map, hq]
                  rfl
                · refine hb F2 H2 σ _ _ s2'.fh env2 ?_
                  cases eb : fb (hidA w ρ) with
                  | bad => rw [eb] at p2; exact p2
                  | err c =>
                    rw [eb] at p2
                    exact fun F3 H3 g3 => p2 σ F3 H3 w hw ⟨os, s2'.grow g3⟩
                  | ok db =>
                    rw [eb, runR_ok] at p2
                    intro F3 H3 g3 vb dvb
                    obtain ⟨v3, e7, _, ho3, hup, _⟩ := (s2'.grow g3).ob hi e
                    rw [e1] at e7
                    cases e7
                    unfold putL at p2
                    cases db with
                    | int b =>
                      cases dvb
                      cases ed : isI d with
                      | none => simp only [ed] at p2; exact p2.elim
                      | some x =>
                        simp only [ed] at p2
                        by_cases hbx : 0 ≤ b ∧ b.toNat < xs.length
                        · rw [if_pos hbx] at p2
                          have hbn : b = (b.toNat : Int) := by omega
                          refine ⟨q, xs.map vI, b, b.toNat, rfl, rfl, ho3 q _ oq, ?_, ?_⟩
                          · rw [List.length_map]
                            conv => lhs; rw [hbn]
                            exact ixN_nat hbx.2
                          · have dvx : v = vI x := by
                              have := isI_is ed
                              subst this
                              exact dp_oI dv
                            rw [dvx, ← List.map_set]
                            refine p2 _ F3 _ g3.ff (hup q _ _ (by rw [oq]; simp) ⟨pp, qs, xss2.set a.toNat (xs.set b.toNat x), rfl, rfl, ?_, hnd, by rw [List.length_set]; exact hl⟩)
                            rw [e6, chunk_set _ hn.2 hq hjl, upd_comm (Ne.symm nqp)]
                        · rw [if_neg hbx] at p2
                          exact p2.elim
                    | _ => exact p2.elim
            · rw [if_neg h0] at er
              cases er
          | _ => cases er
end
end DL

set_option maxHeartbeats 1000000
/-! DX9: x[a][b] = e in short; list * n as a new list. -/
namespace DL
open PySem PySem.Spec L2
open PyProof.Rows hiding St
variable [Mem]
section
variable {X : Cx} {Er : ErT} {s0 : Sh} {wl w : List Sh} {te : TE} {st : Stmt} {pos : Pos}
theorem s_setL (i : Nat) {x : Str} {e ia ib : Expr} {p1 p2 p3 : Pos} {fe fa fb : EF} {ta tb : TE} (h : DE X Er e te fe) (ha : DE X Er ia ta fa) (hb : DE X Er ib tb fb) (hi : sh w i = .ob llO := by rfl) (hN : X.N[i]? = some x := by rfl) (hv : Vis X.env.scope x := by first | exact Or.inl rfl | exact Or.inr (Or.inl rfl) | exact Or.inr (Or.inr rfl)) (hw : sh w 0 = s0 := by rfl)
    (hpa : PlainIx ia := by exact fun _ _ => rfl)
    (hg : ∀ v, assign (.Subscript (.Subscript (.Name x p1) ia p2) ib p3) X.env v = (do
      let ov ← holding [v] (eval (.Subscript (.Name x p1) ia p2) X.env)
      let iv ← holding [v, ov] (eval ib X.env)
      standAt p3
      holding [v, ov, iv] (setItem ov iv v)
      release [v, ov, iv] []) := by intro _; rfl)
    (hs : swapsWithSole [.Subscript (.Subscript (.Name x p1) ia p2) ib p3] e pos.line X.env = pure false := by rfl) (hsw : swappedStores [.Subscript (.Subscript (.Name x p1) ia p2) ib p3] e X.env = pure none := by rfl)
    (h1 : (assignEach [.Subscript (.Subscript (.Name x p1) ia p2) ib p3] X.env).map (·.2) = [assign (.Subscript (.Subscript (.Name x p1) ia p2) ib p3) X.env] := by rfl)
    (hd : (x == ("__debug__" : Str)) = false := by decide) (hcd : (x == ("__classdict__" : Str)) = false := by decide) :
    D1 X Er s0 wl w (.Assign [.Subscript (.Subscript (.Name x p1) ia p2) ib p3] e pos) w (tAsg te (gSub (tOp (rIx X.K) (tVar i) ta) tb rSetL)) (setLL w i fe fa fb) :=
  ⟨ps_asg h.pe (pg_sub (pe_ix ix_seq (pe_var hN hv hd hcd) ha.pe hpa) hb.pe set_list hg) hs hsw h1, drs_setLL hi hw h.rd ha.rd hb.rd⟩
end
section
variable {X : Cx} {Er : ErT} {K : PySem.W.Frag} {ta tb te : TE}
/-- list * n: a new list -/
def mulLD : D → D → Option (List D)
  | .list ds, .int n => if 0 ≤ n ∧ n < 1000 ∧ ds.length * n.toNat ≤ 1000000 then some (List.replicate n.toNat ds).flatten else none
  | _, _ => none
def mulNA (a b : EF) : AF := bE a fun x => bE b fun y => oE (mulLD x y)
theorem drn_mul {fa fb : EF} (ha : DRd K Er ta fa) (hb : DRd K Er tb fb) : DRn K Er (tOp (rMulA K) ta tb) (mulNA fa fb) := by
  intro F H σ ρ Q s st h
  refine ha F H σ ρ _ s st (Post.imp (Post.bind h) fun F1 H1 a g1 p1 v dv => ?_)
  refine hb F1 H1 σ ρ _ g1.fh (st.mono g1.ff) (Post.imp (Post.bind p1) fun F2 H2 b g2 p2 u du => ?_)
  unfold oE at p2
  have dv2 := dp_mono g2.ff a v dv
  cases e : mulLD a b with
  | none => simp only [e] at p2; exact p2.elim
  | some d =>
    simp only [e] at p2
    cases a with
    | list ds =>
      cases b with
      | int n =>
        cases du
        cases dv2 with
        | lst h1 h2 =>
          simp only [mulLD] at e
          split at e <;> cases e
          rename_i h
          have l1 := dpAll_len h2
          refine .inr (.inl ⟨_, _, _, rfl, rfl, same_seqL g2.fh.s h1, by omega, by omega, by rw [l1]; exact h.2.2, fun p hp => ?_⟩)
          exact Post.now p2 g2.fh p _ hp (dpAll_rep h2 _)
      | _ => simp [mulLD] at e
    | _ => simp [mulLD] at e
theorem dn_mul (K : PySem.W.Frag) {a b : Expr} {pos : Pos} {fa fb : EF} (ha : DE X Er a ta fa) (hb : DE X Er b tb fb) (hK : X.K = K := by rfl) : DN X Er (.BinOp a .Mult b pos) (tOp (rMulA K) ta tb) (mulNA fa fb) := by
  subst hK
  exact
  ⟨pe_op op_mulA ha.pe hb.pe, drn_mul ha.rd hb.rd⟩
end
end DL

set_option maxHeartbeats 1000000
/-! DY1: sorted(list) of ints, of pairs of ints. -/
namespace DL
open PySem PySem.Spec L2
open PyProof.Rows hiding St
open SrtO (Srtd Stb lexB swo_lex)
/-- the pair of ints that a tuple holds -/
def pairAt (h : Heap) : Value → Int × Int
  | .ref a => match h.get? a with
    | some o => match o.data with
      | .seq vs _ => match vs.toList with
        | [.int i _, .int j _] => (i, j)
        | _ => (0, 0)
      | _ => (0, 0)
    | none => (0, 0)
  | _ => (0, 0)
theorem pairAt_of {h : Heap} {v : Value} {i j : Int} (p : Srt.IsPair h v i j) : pairAt h v = (i, j) := by
  obtain ⟨a, o, t, u, n, rfl, ho, hc, hd⟩ := p
  unfold pairAt
  simp only [ho, hd]
/-- sorted(xs), xs a list of pairs of ints, known any way -/
def rSortedPT (K : PySem.W.Frag) : List V → Hp → VK → Prop := fun vs H Q => ∃ (a : Addr) (xs : List V) (kvs : List (Int × Int)), vs = [V.ref a] ∧ SqL K H a xs ∧ xs.length = kvs.length ∧ (∀ (i : Nat) (x : V), xs[i]? = some x → ∃ t p, x = V.ref t ∧ kvs[i]? = some p ∧ SqT K H t [.int p.1, .int p.2]) ∧
  ∀ (ys : List V) p, ys.length = kvs.length → (∀ (i : Nat) (y : V), ys[i]? = some y → ∃ (j : Nat) (p : Int × Int), xs[j]? = some y ∧ kvs[j]? = some p ∧ (sortI kvs)[i]? = some p) → H p = none → Q (.ref p) (upd H p (.lst ys))
section
variable {X : Cx}
theorem cr_sortedPT : CallR X (.builtin "sorted") (rSortedPT X.K) := by
  intro pins s σ H vs us Q I r h
  obtain ⟨a, xs, kvs, rfl, hs, hlen, hx, q⟩ := h
  obtain ⟨its, rv, hl, hz⟩ := I.list hs
  obtain ⟨u, rfl, ru⟩ := vals1 r
  obtain rfl : u = Value.ref a := ru
  obtain ⟨e1, e2⟩ := refs_back rv fun x m => by
    obtain ⟨i, hi⟩ := List.mem_iff_getElem?.mp m
    obtain ⟨t, p, e, _⟩ := hx i x hi
    exact ⟨t, e⟩
  have hk : ∀ (i : Nat) (v : Value), its[i]? = some v → ∃ t p, v = Value.ref t ∧ kvs[i]? = some p ∧ SqT X.K H t [.int p.1, .int p.2] ∧ Srt.IsPair s.heap v p.1 p.2 := fun i v hv => by
    have hxi : xs[i]? = some (backV v) := by rw [e1, List.getElem?_map, hv]; rfl
    obtain ⟨t, p, e, hp, ht⟩ := hx i _ hxi
    obtain ⟨b, rfl⟩ := e2 v (List.mem_of_getElem? hv)
    cases e
    obtain ⟨its2, r2, ⟨o, ho, hc, n, hd⟩, _⟩ := I.tuple ht
    obtain ⟨u1, u2, rfl, ri, rj⟩ := vals2 r2
    obtain ⟨t1, rfl⟩ := ri
    obtain ⟨t2, rfl⟩ := rj
    exact ⟨_, p, rfl, hp, ht, _, o, t1, t2, n, rfl, ho, hc, hd⟩
  have hkv : its.map (pairAt s.heap) = kvs := by
    have hl2 : its.length = kvs.length := by rw [← hlen, e1, List.length_map]
    apply List.ext_getElem
    · simpa using hl2
    · intro i h1 h2
      have hi : i < its.length := by simpa using h1
      obtain ⟨t, p, _, hp, _, hip⟩ := hk i _ (List.getElem?_eq_getElem hi)
      rw [List.getElem_map, pairAt_of hip]
      have := (List.getElem?_eq_some_iff.mp hp).2
      rw [this]
  refine SrtO.sorted_pairsO (k := pairAt s.heap) hl.isList (by rw [← rv.length]; exact hz) (fun v hv => ?_) fun h' d out h1 h2 kp hd hn => ?_
  · obtain ⟨i, hi⟩ := List.mem_iff_getElem?.mp hv
    obtain ⟨t, p, _, _, _, hip⟩ := hk i v hi
    rw [pairAt_of hip]
    exact hip
  · have h3 : ∀ u ∈ out, ∃ a, u = Value.ref a := fun u hu => e2 u (h2.perm.mem_iff.mp hu)
    obtain ⟨n, hn⟩ := hn
    have hso : out.map (pairAt s.heap) = sortI kvs := by
      refine sortI_of ?_ ?_
      · rw [List.pairwise_map]; exact h1
      · have := h2.perm.map (pairAt s.heap)
        rwa [hkv] at this
    have hlo : out.length = its.length := h2.perm.length_eq
    have hli : its.length = kvs.length := by rw [← hkv, List.length_map]
    refine ⟨.ref d, upd H d (.lst (out.map backV)), I.laid (t' := s.toks) kp hd ⟨?_, out, n, vals_back h3, hn⟩, rfl, q _ d (by rw [List.length_map, hlo, hli]) (fun i y hy => ?_) (I.hok.fresh hd)⟩
    · rw [List.length_map, hlo, ← rv.length]
      exact hz
    · rw [List.getElem?_map] at hy
      cases ho : out[i]? with
      | none => rw [ho] at hy; cases hy
      | some v =>
        rw [ho] at hy
        cases hy
        obtain ⟨j, hj⟩ := List.mem_iff_getElem?.mp (h2.perm.mem_iff.mp (List.mem_of_getElem? ho))
        obtain ⟨t, p, rfl, hp, ht, hip⟩ := hk j v hj
        refine ⟨j, p, by rw [e1, List.getElem?_map, hj]; rfl, hp, ?_⟩
        rw [← hso, List.getElem?_map, ho, Option.map_some, pairAt_of hip]
end
def sortN (ns : List Int) : List Int := ns.mergeSort fun a b => decide (a ≤ b)
theorem sortN_of {out ns : List Int} (h1 : out.Perm ns) (h2 : out.Pairwise (· ≤ ·)) : out = sortN ns := by
  refine List.Perm.eq_of_pairwise (le := fun x y => x ≤ y) (fun a b _ _ h3 h4 => Int.le_antisymm h3 h4) h2 ?_ (h1.trans (List.mergeSort_perm _ _).symm)
  have := List.pairwise_mergeSort (le := fun a b : Int => decide (a ≤ b)) (fun a b c h3 h4 => by simp at *; omega) (fun a b => by simp; omega) ns
  exact this.imp fun h => by simpa using h
def rSortA (K : PySem.W.Frag) : List V → Hp → VK → Prop := fun vs H Q => rSortedI K vs H Q ∨ rSortedPT K vs H Q
theorem cr_sortA {X : Cx} : CallR X (.builtin "sorted") (rSortA X.K) := by
  intro pins s σ H vs us Q I r h
  rcases h with h | h
  · exact cr_sortedI pins s σ H vs us Q I r h
  · exact cr_sortedPT pins s σ H vs us Q I r h
theorem ksort (K : PySem.W.Frag) {X : Cx} (hK : X.K = K := by rfl) : CallR X (.builtin "sorted") (rSortA K) := by subst hK; exact cr_sortA
def pairD (p : Int × Int) : D := .tuple [.int p.1, .int p.2]
def sortD : List D → Option D
  | [.list ds] => match intsOf ds with
    | some ns => some (.list ((sortN ns).map .int))
    | none => (pairsOf' ds).map fun kvs => .list ((sortI kvs).map pairD)
  | _ => none
section
variable [Mem]
theorem dpAll_pairs {K : PySem.W.Frag} {F : Hp} : ∀ {kvs : List (Int × Int)} {vs : List V}, DpAll K F vs (kvs.map pairD) → ∀ (i : Nat) (x : V), vs[i]? = some x → ∃ t p, x = V.ref t ∧ kvs[i]? = some p ∧ SqT K F t [.int p.1, .int p.2]
  | [], _, h, i, x, e => by cases h; simp at e
  | p :: kvs, _, h, i, x, e => by
    cases h with
    | cons h1 h2 =>
      cases i with
      | zero =>
        simp at e
        subst e
        cases h1 with
        | tup a b =>
          cases b with
          | cons b1 b2 =>
            cases b2 with
            | cons b2 b3 =>
              cases b1; cases b2; cases b3
              exact ⟨_, p, rfl, rfl, a⟩
      | succ i =>
        obtain ⟨t, q, e1, e2, e3⟩ := dpAll_pairs h2 i x (by simpa using e)
        exact ⟨t, q, e1, by simpa using e2, e3⟩
theorem pairs_dpAll {K : PySem.W.Frag} {F : Hp} : ∀ {kvs : List (Int × Int)} {vs : List V}, vs.length = kvs.length → (∀ (i : Nat) (x : V), vs[i]? = some x → ∃ t p, x = V.ref t ∧ kvs[i]? = some p ∧ SqT K F t [.int p.1, .int p.2]) → DpAll K F vs (kvs.map pairD)
  | [], [], _, _ => .nil
  | p :: kvs, v :: vs, hl, h => by
    obtain ⟨t, q, rfl, e2, e3⟩ := h 0 v rfl
    cases e2
    exact .cons (.tup e3 (.cons (.int _) (.cons (.int _) .nil))) (pairs_dpAll (by simpa using hl) fun i x hx => by
      have := h (i + 1) x (by simpa using hx)
      simpa using this)
  | [], _ :: _, hl, _ => by simp at hl
  | _ :: _, [], hl, _ => by simp at hl
theorem cg_sortA (K : PySem.W.Frag) : CallG K (rSortA K) sortD := by
  intro F H vs ds d Q s h e k
  match ds, h, e with
  | [.list xs], .cons (.lst h1 h2) .nil, e =>
    simp only [sortD] at e
    cases z : intsOf xs with
    | some ns =>
      rw [z] at e
      cases e
      have e2 := intsOf_eq z
      subst e2
      have e3 := dpAll_ints h2
      subst e3
      refine .inl ⟨_, ns, rfl, same_seqL s.s h1, fun ns' p h3 h4 hp => ?_⟩
      rw [sortN_of h3 h4]
      exact k _ _ _ (Grow.new s hp) (.lst (.inl (.inl upd_same)) (dpAll_intsI _))
    | none =>
      rw [z] at e
      cases z2 : pairsOf' xs with
      | none => rw [z2] at e; cases e
      | some kvs =>
        rw [z2] at e
        cases e
        have e2 := pairsOf_eq z2
        subst e2
        refine .inr ⟨_, _, kvs, rfl, same_seqL s.s h1, by rw [dpAll_len h2, List.length_map], fun i x hx => ?_, fun ys p hl hy hp => ?_⟩
        · obtain ⟨t, q, e1, e2, e3⟩ := dpAll_pairs h2 i x hx
          exact ⟨t, q, e1, e2, same_seqT s.s e3⟩
        · refine k _ _ _ (Grow.new s hp) (.lst (.inl (.inl upd_same)) (dpAll_mono (Grow.new s hp).ff _ _ (pairs_dpAll (by rw [hl]; exact (List.mergeSort_perm _ _).length_eq.symm) fun i y hiy => ?_)))
          obtain ⟨j, q, e1, e2, e3⟩ := hy i y hiy
          obtain ⟨t, q2, e4, e5, e6⟩ := dpAll_pairs h2 j y e1
          rw [e2] at e5
          cases e5
          exact ⟨t, q, e4, e3, e6⟩
end
end DL

set_option maxHeartbeats 3200000
/-! DY2: len(set(x)), x a tuple or a list of tuples of ints. -/
namespace DL
open PySem PySem.Spec L2
open PyProof.Rows
section
variable {prog : Program} {w : World} {A : Around} {E : Value → Shared → Prop} {s : Shared}
abbrev noSet (w : World) : Obj := { cls := .type "set", dict := none, data := .set #[] 0 (.fresh 0 0 (!w.params.followText "set-order")) }
/-- set(t), t a tuple of tuples of ints -/
theorem set_of_tuple {l : Addr} {xs : Array Value} (ks : List (Addr × List Int)) {Q : Value → Shared → Prop} (hA : A.handled = none) (ht : s.heap.IsTuple l xs) (hxs : xs.toList = ks.map fun p => Value.ref p.1)
    (hks : ∀ p ∈ ks, IsT prog w s.heap p.2 p.1) (h64 : ks.length < 64) (hun : A.units + 3 < cLine)
    (hq : ∀ (h2 : Heap) (tk : Nat) L es ep t, SetTR prog w h2 s.heap.objs.size L es ep t → Got ks ks.length L → (∀ b o, s.heap.get? b = some o → h2.get? b = some o) → Q (.ref s.heap.objs.size) { s with heap := h2, toks := tk }) :
    wpAny (model prog w) A (call (.type "set") [.ref l]) Q E s := by
  have zs : xs.size = ks.length := by
    have := congrArg List.length hxs
    rwa [Array.length_toList, List.length_map] at this
  obtain ⟨c1, c2, hmro⟩ := F.called_set.mro
  have m1 := F.called_set.made
  have m2 := F.called_set.sub
  refine wpAny_call (codeAny_of_tree ?_)
  show wpAny _ _ (callAny (.type "set") _) _ _ _
  refine wpAny_pure ⟨Code.quiet_builtin _ (by decide +kernel), codeAny_builtin F.entry_type_call ?_⟩
  rw [Around.under_plain (weight_type_call_type "set" [.ref l] []) rfl]
  have m3 := F.called_set.notType
  have m4 := F.called_set.canCreate
  have m5 := F.typeCall_set_1 (.ref l)
  repeat (any_goals (first | assumption | wp_step))
  refine codeAny_mono (code_set_led1 (.ref l) (E := E) (Q₁ := fun ob z => ob = .ref s.heap.objs.size ∧ z = { s with heap := s.heap.push (noSet w) }) ⟨rfl, rfl⟩) fun r z hz => ?_
  cases r with
  | error e => exact hz
  | ok fl =>
    cases fl with
    | ret ob =>
      obtain ⟨rfl, rfl⟩ := hz
      have e0 : (s.heap.push (noSet w)).get? s.heap.objs.size = some (noSet w) := Heap.get?_push_size _ rfl
      have ty : Shared.TypeIs { s with heap := s.heap.push (noSet w) } (.ref s.heap.objs.size) "set" := ⟨_, e0, rfl⟩
      have n1 := F.called_set.init.lookup
      have n2 := F.called_set.init.bind (.ref s.heap.objs.size)
      repeat (any_goals (first | assumption | wp_step))
      refine codeAny_mono (codeAny_call_builtin (R := wants (fun r y => r = .none ∧ ∃ h2 tk L es ep t, y = { s with heap := h2, toks := tk } ∧ SetTR prog w h2 s.heap.objs.size L es ep t ∧ Got ks ks.length L ∧
        (∀ b o, s.heap.get? b = some o → h2.get? b = some o)) E) F.called_set.init.plain F.entry_set_init (check_set_init_1 ty ?_)) fun r2 y hr2 => ?_
      · obtain ⟨ot, hot, hct, nt, hdt⟩ := ht
        obtain ⟨oc, od, oa, os⟩ := ot
        simp only at hct hdt
        subst hct hdt
        have hot2 : (s.heap.push (noSet w)).get? l = some { cls := .type "tuple", dict := od, data := .seq xs nt, slots := os } := Heap.get?_push_of_some _ hot
        have n3 := F.sub_tuple_set
        have n4 := F.sub_tuple_frozenset
        have n5 : (Value.type "tuple" == Value.type "dict") = false := by decide
        have it1 : (s.heap.push (noSet w)).IsTuple l xs := ⟨_, hot2, rfl, nt, rfl⟩
        unfold Builtin.«set.__init__» noKeywords Builtin.Frozenset.updateFrom
        generalize hPI : pyIter = PI
        wp_walk
        subst hPI
        refine wpAny_pyIter_tuple it1 (wpAny_bind (wpAny_runValue ?_))
        have below : l < s.heap.objs.size := Heap.lt_size hot
        have hA3 : A.in1.in1.in1.handled = none := by simp [hA]
        have sz1 : (s.heap.push (noSet w)).objs.size = s.heap.objs.size + 1 := Heap.size_push ..
        have ne1 : l ≠ (s.heap.push (noSet w)).objs.size := by rw [sz1]; exact Nat.ne_of_lt (Nat.lt_succ_of_lt below)
        have off : s.heap.objs.size ∉ [(s.heap.push (noSet w)).objs.size, l] := by
          rw [sz1]
          simp only [List.mem_cons, List.not_mem_nil, or_false, not_or]
          exact ⟨Nat.ne_of_lt (Nat.lt_succ_self _), Nat.ne_of_gt below⟩
        have vals : ∀ (i : Nat) (v : Value), xs[i]? = some v → ∃ p, ks[i]? = some p ∧ v = .ref p.1 := fun i v hv => by
          have q : xs.toList[i]? = some v := (Array.getElem?_toList ..).trans hv
          rw [hxs, List.getElem?_map] at q
          obtain ⟨p, h1, h2⟩ := Option.map_eq_some_iff.mp q
          exact ⟨p, h1, h2.symm⟩
        have above : ∀ b, s.heap.objs.size ≤ b → s.heap.get? b = none := fun b hb => by
          cases q : s.heap.get? b with
          | none => rfl
          | some o => exact absurd (Heap.lt_size q) (Nat.not_lt.mpr hb)
        refine set_update_tups ((Walks.tuple hA3 _ l ne1 xs).toS) s.heap.objs.size off ks zs h64 vals s.heap hks (above _ (Nat.le_refl _)) (fun b hb => above b (by rw [List.mem_singleton.mp hb, sz1]; exact Nat.le_succ _)) hun (xs.size - 0) 0 _ (by omega) (Nat.zero_le _)
          ⟨⟨_, Heap.get?_push_size _ rfl, rfl, rfl⟩, (it1.push _)⟩ (fun b o e => Heap.get?_push_of_some _ (Heap.get?_push_of_some _ e)) ?first ?rest
        case first =>
          have e1 : ((s.heap.push (noSet w)).push { cls := .type "tuple_iterator", data := .fields #[.ref l, .int 0 0] }).get? s.heap.objs.size = some (noSet w) := Heap.get?_push_of_some _ e0
          exact ⟨[], #[], 0, _, setTR_fresh e1, Got.zero ks⟩
        case rest =>
          intro y L es ep t hm hS hg kp
          obtain ⟨h2, g2, d2, tk, o2⟩ := y
          have eg : g2 = s.gens := hm.gens
          have ed : d2 = s.drawn := hm.drawn
          have eo : o2 = s.os := hm.os
          subst eg ed eo
          show wpAny _ _ _ _ _ _
          refine wpAny_pure ?_
          show wpAny _ _ (ret Value.none) _ _ _
          rw [zs] at hg
          exact wpAny_pure ⟨rfl, h2, tk, L, es, ep, t, rfl, hS, hg, kp⟩
      · cases r2 with
        | error e => exact hr2
        | ok f2 =>
          cases f2 with
          | ret r =>
            obtain ⟨rfl, h2, tk, L, es, ep, t, rfl, hS, hg, kp⟩ := hr2
            repeat (any_goals (first | assumption | wp_step))
            exact hq _ _ _ _ _ _ hS hg kp
          | _ => exact hr2.elim
    | _ => exact hz.elim
end
section
variable {X : Cx}
def tLenSetT (K : PySem.W.Frag) (ta : TE) : TE := fun σ H Q => ta σ H fun x H1 => ∃ (l : Addr) (ks : List (Addr × List Int)), x = V.ref l ∧ (SqL K H1 l (ks.map fun p => V.ref p.1) ∨ SqT K H1 l (ks.map fun p => V.ref p.1)) ∧ (∀ p ∈ ks, SqT K H1 p.1 (p.2.map V.int)) ∧ ks.length < 64 ∧
  ∀ L : List (List Int), L.Nodup → (∀ k, k ∈ L ↔ k ∈ ks.map (·.2)) → Q (.int L.length) H1
theorem pe_lenSetT {a : Expr} {ta : TE} {p p2 q pos : Pos} (hc : X.calm = true) (hu : X.A.units + 64 < cLine) (hg : Gl X "len") (hm : X.mg "len" = none) (hg2 : Gl X "set") (hm2 : X.mg "set" = none) (ha : PE X a ta)
    (na : starEach [a] X.env = (false, eval a X.env) :: starEach [] X.env := by rfl) : PE X (.Call (.Name "len" p) [.Call (.Name "set" p2) [a] [] q] [] pos) (tLenSetT X.K ta) := by
  refine ⟨fun pins s σ H Q I h => ?_⟩
  refine Call_ (ld_blt I hg hm PySem.boot_len (callWith_builtin1 (args_cons ?_ rfl) rfl rfl))
  refine Call_ (ld_blt I hg2 hm2 boot_set (callWith_type1 (args_cons (thn (ha.run pins s σ H _ I h) fun v s1 ⟨x, H1, I1, r1, q1⟩ => args_nil ?_) na) na rfl))
  obtain ⟨l, ks, rfl, hl, hk, h64, q1⟩ := q1
  cases r1
  have mem : ∀ {L : List (Addr × List Int)}, Got ks ks.length L → ∀ k, k ∈ L.map (·.2) ↔ k ∈ ks.map (·.2) := fun {L} g k => by
    constructor
    · intro h
      obtain ⟨p, hp, rfl⟩ := List.mem_map.mp h
      exact List.mem_map_of_mem (List.mem_of_mem_take (g.sub p hp))
    · intro h
      obtain ⟨p, hp, rfl⟩ := List.mem_map.mp h
      exact g.all p (by rw [List.take_length]; exact hp)
  rcases hl with hl | hl
  · obtain ⟨its, rv, pl, hz⟩ := I1.list hl
    refine call_set_tups ks (I1.ok.hd hc) pl.isList (by simpa using refs_of_vals rv) (fun p hp => I1.isT (hk p hp)) h64 (by omega) fun h2 tk L es ep t R g k => args_nil ?_
    obtain ⟨o, ho, hex, hd⟩ := R.ob
    have I2 : Inv X pins σ H1 { s1 with heap := h2, toks := tk } := I1.kept k
    have hf := R.few
    have hs := SetTR.size (s := { s1 with heap := h2, toks := tk }) R
    have ht := SetTR.fits (s := { s1 with heap := h2, toks := tk }) R
    exact call_len_set ho hex hd ht (by rw [hs]; omega) ⟨.int L.length, H1, I2.tok _, ⟨_, by rw [hs]⟩, by have := q1 (L.map (·.2)) R.nd (mem g); rwa [List.length_map] at this⟩
  · obtain ⟨its, rv, ⟨o, ho, hc2, n, hd⟩, hz⟩ := I1.tuple hl
    refine set_of_tuple ks (I1.ok.hd hc) (xs := its.toArray) ⟨o, ho, hc2, n, hd⟩ (by simpa using refs_of_vals rv) (fun p hp => I1.isT (hk p hp)) h64 (by omega) fun h2 tk L es ep t R g k => args_nil ?_
    obtain ⟨o, ho, hex, hd⟩ := R.ob
    have I2 : Inv X pins σ H1 { s1 with heap := h2, toks := tk } := I1.kept k
    have hf := R.few
    have hs := SetTR.size (s := { s1 with heap := h2, toks := tk }) R
    have ht := SetTR.fits (s := { s1 with heap := h2, toks := tk }) R
    exact call_len_set ho hex hd ht (by rw [hs]; omega) ⟨.int L.length, H1, I2.tok _, ⟨_, by rw [hs]⟩, by have := q1 (L.map (·.2)) R.nd (mem g); rwa [List.length_map] at this⟩
end
end DL

set_option maxHeartbeats 1000000
/-! DY3: len(set(x)) on data. -/
namespace DL
open PySem PySem.Spec L2
open PyProof.Rows hiding St
def intsT : D → Option (List Int)
  | .tuple ds => intsOf ds
  | _ => none
def tupsI : List D → Option (List (List Int))
  | [] => some []
  | d :: ds => (intsT d).bind fun k => (tupsI ds).map (k :: ·)
theorem tupsI_eq : ∀ {ds : List D} {kss : List (List Int)}, tupsI ds = some kss → ds = kss.map fun k => .tuple (k.map .int)
  | [], kss, h => by cases h; rfl
  | d :: ds, kss, h => by
    unfold tupsI at h
    cases e : intsT d with
    | none => rw [e] at h; cases h
    | some k =>
      rw [e] at h
      cases e2 : tupsI ds with
      | none => rw [e2] at h; cases h
      | some l =>
        rw [e2] at h
        cases h
        cases d with
        | tuple xs =>
          have := intsOf_eq (show intsOf xs = some k from e)
          rw [this, tupsI_eq e2]
          rfl
        | _ => cases e
def distL : List (List Int) → List (List Int)
  | [] => []
  | x :: l => if x ∈ distL l then distL l else x :: distL l
theorem distL_mem : ∀ (l : List (List Int)) (x : List Int), x ∈ distL l ↔ x ∈ l
  | [], x => by simp [distL]
  | y :: l, x => by
    unfold distL
    by_cases h : y ∈ distL l
    · rw [if_pos h, distL_mem l, List.mem_cons]
      constructor
      · exact .inr
      · rintro (rfl | h2)
        · exact (distL_mem l _).mp h
        · exact h2
    · rw [if_neg h, List.mem_cons, List.mem_cons, distL_mem l]
theorem distL_nodup : ∀ l : List (List Int), (distL l).Nodup
  | [] => List.nodup_nil
  | y :: l => by
    unfold distL
    by_cases h : y ∈ distL l
    · rw [if_pos h]; exact distL_nodup l
    · rw [if_neg h]; exact List.nodup_cons.mpr ⟨h, distL_nodup l⟩
theorem dist_len {L l : List (List Int)} (hn : L.Nodup) (hm : ∀ k, k ∈ L ↔ k ∈ l) : L.length = (distL l).length :=
  ((List.perm_ext_iff_of_nodup hn (distL_nodup l)).mpr fun k => by rw [hm, distL_mem]).length_eq
def lenSetD : D → Option D
  | .tuple ds => (tupsI ds).bind fun ks => if ks.length < 64 then some (.int ((distL ks).length : Nat)) else none
  | .list ds => (tupsI ds).bind fun ks => if ks.length < 64 then some (.int ((distL ks).length : Nat)) else none
  | _ => none
def lenSetE (f : EF) : EF := bE f fun d => oE (lenSetD d)
section
variable [Mem]
variable {X : Cx} {Er : ErT} {te ta : TE}
theorem dp_tups {K : PySem.W.Frag} {F : Hp} : ∀ {kss : List (List Int)} {vs : List V}, DpAll K F vs (kss.map fun k => .tuple (k.map .int)) → ∃ ks : List (Addr × List Int), vs = ks.map (fun p => V.ref p.1) ∧ ks.map (·.2) = kss ∧ ∀ p ∈ ks, SqT K F p.1 (p.2.map V.int)
  | [], _, h => by cases h; exact ⟨[], rfl, rfl, fun _ h => nomatch h⟩
  | k :: kss, _, h => by
    cases h with
    | cons h1 h2 =>
      obtain ⟨ks, e1, e2, e3⟩ := dp_tups h2
      cases h1 with
      | tup a b =>
        have eb := dpAll_ints b
        subst eb
        refine ⟨(_, k) :: ks, by rw [e1]; rfl, by rw [List.map_cons, e2], fun p hp => ?_⟩
        rcases List.mem_cons.mp hp with rfl | hp
        · exact a
        · exact e3 p hp
theorem de_lenSet {a : Expr} {fa : EF} {p p2 q pos : Pos} (hu : X.A.units + 64 < cLine) (hg : Gl X "len") (hm : X.mg "len" = none) (hg2 : Gl X "set") (hm2 : X.mg "set" = none) (ha : DE X Er a ta fa) (hc : X.calm = true := by rfl)
    (na : starEach [a] X.env = (false, eval a X.env) :: starEach [] X.env := by rfl) : DE X Er (.Call (.Name "len" p) [.Call (.Name "set" p2) [a] [] q] [] pos) (tLenSetT X.K ta) (lenSetE fa) := by
  refine ⟨pe_lenSetT hc hu hg hm hg2 hm2 ha.pe na, fun F H σ ρ Q s st h => ?_⟩
  refine ha.rd F H σ ρ _ s st (Post.imp (Post.bind h) fun F1 H1 d g1 p1 v dv => ?_)
  unfold oE at p1
  have key : ∀ (ds : List D) (kss : List (List Int)) (l : Addr) (vs : List V), tupsI ds = some kss → kss.length < 64 → (SqL X.K H1 l vs ∨ SqT X.K H1 l vs) → DpAll X.K F1 vs ds → (∀ u, Dp X.K F1 u (.int ((distL kss).length : Nat)) → Q u H1) →
      ∃ (l2 : Addr) (ks : List (Addr × List Int)), V.ref l = V.ref l2 ∧ (SqL X.K H1 l2 (ks.map fun p => V.ref p.1) ∨ SqT X.K H1 l2 (ks.map fun p => V.ref p.1)) ∧ (∀ p ∈ ks, SqT X.K H1 p.1 (p.2.map V.int)) ∧ ks.length < 64 ∧
        ∀ L : List (List Int), L.Nodup → (∀ k, k ∈ L ↔ k ∈ ks.map (·.2)) → Q (.int L.length) H1 := fun ds kss l vs e1 e2 e3 e4 e5 => by
    have := tupsI_eq e1
    subst this
    obtain ⟨ks, q1, q2, q3⟩ := dp_tups e4
    subst q1
    refine ⟨l, ks, rfl, e3, fun p hp => same_seqT g1.fh.s (q3 p hp), by rw [← q2, List.length_map] at e2; exact e2, fun L hn hm => ?_⟩
    rw [q2] at hm
    rw [dist_len hn hm]
    exact e5 _ (.int _)
  cases d with
  | tuple ds =>
    cases e1 : tupsI ds with
    | none => simp only [lenSetD, e1] at p1; exact p1.elim
    | some kss =>
      by_cases e2 : kss.length < 64
      · simp only [lenSetD, e1, Option.bind_some, if_pos e2] at p1
        cases dv with
        | tup h1 h2 => exact key ds kss _ _ e1 e2 (.inr (same_seqT g1.fh.s h1)) h2 (Post.now p1 g1.fh)
      · simp only [lenSetD, e1, Option.bind_some, if_neg e2] at p1
        exact p1.elim
  | list ds =>
    cases e1 : tupsI ds with
    | none => simp only [lenSetD, e1] at p1; exact p1.elim
    | some kss =>
      by_cases e2 : kss.length < 64
      · simp only [lenSetD, e1, Option.bind_some, if_pos e2] at p1
        cases dv with
        | lst h1 h2 => exact key ds kss _ _ e1 e2 (.inl (same_seqL g1.fh.s h1)) h2 (Post.now p1 g1.fh)
      · simp only [lenSetD, e1, Option.bind_some, if_neg e2] at p1
        exact p1.elim
  | _ => exact p1.elim
theorem kdlenSet (K : PySem.W.Frag) {a : Expr} {fa : EF} {p p2 q pos : Pos} (hu : X.A.units + 64 < cLine) (hg : Gl X "len") (hm : X.mg "len" = none) (hg2 : Gl X "set") (hm2 : X.mg "set" = none) (ha : DE X Er a ta fa) (hK : X.K = K := by rfl) (hc : X.calm = true := by rfl)
    (na : starEach [a] X.env = (false, eval a X.env) :: starEach [] X.env := by rfl) : DE X Er (.Call (.Name "len" p) [.Call (.Name "set" p2) [a] [] q] [] pos) (tLenSetT K ta) (lenSetE fa) := by
  subst hK
  exact de_lenSet hu hg hm hg2 hm2 ha hc na
theorem kown0 (K : PySem.W.Frag) (mg : Str → Option Value) {CX : CXT} {k : Nat} {f : Addr} {fd : FuncData} {ps : List Str} {g : List D → R D} {E : XK} {x : Str} {p pos : Pos}
    (F : FnOk X.prog X.w K mg X.base CX k f fd ps (spD K mg 0 g)) (hr : Room k X.A) (hg : Gl X x) (hm : mg x = some (.ref f)) (hk : PySem.W.keepIn K (.ref f) = true) (hb : Binds K fd ps []) (hx : Passes CX X E)
    (he : ∀ c H', Er c H' → erX mg E c H') (hd : (x == ("__debug__" : Str)) = false := by decide) (hK : X.K = K := by rfl) (hG : X.mg = mg := by rfl) :
    DE X Er (.Call (.Name x p) [] [] pos) (tCall (spD K mg 0 g) [] E tNil) (ownE g nilA) := by
  subst hK
  subst hG
  exact ⟨pe_call0 F hr hg hm hk hb .nil hx hd, dr_own he args_len0 daq_nil.rd⟩
end
end DL

set_option maxHeartbeats 1000000
/-! DY4: {k: v, l: u}.get(x, y), the keys pairs of ints. -/
namespace DL
open PySem PySem.Spec L2
open PyProof.Rows hiding St
theorem r16 {k : Nat} {A : Around} (r : Room k A) : A.units + 16 < cLine := by have := r.units; omega
abbrev pk (p : Int × Int) : NestedKey := .tup [.num p.1, .num p.2]
def two (k1 k2 : NestedKey) (b1 b2 : Addr) (u1 u2 : Value) : NXs := storedAllH [] [(k1, b1, u1), (k2, b2, u2)]
theorem two_eq (k1 k2 : NestedKey) (b1 b2 : Addr) (u1 u2 : Value) : two k1 k2 b1 b2 u1 u2 = if k1 = k2 then [(k1, b1, u2)] else [(k1, b1, u1), (k2, b2, u2)] := by
  unfold two storedAllH storedH atKey putAt
  by_cases h : k1 = k2
  · subst h; simp
  · simp [h]
theorem two_at (k1 k2 k : NestedKey) (b1 b2 : Addr) (u1 u2 d : Value) : ((atKey (two k1 k2 b1 b2 u1 u2) k).map (·.2)).getD d = if k = k2 then u2 else if k = k1 then u1 else d := by
  rw [two_eq]
  unfold atKey
  by_cases h : k1 = k2
  · subst h
    by_cases h2 : k = k1
    · subst h2; simp
    · simp [h2, Ne.symm h2]
  · by_cases h2 : k = k2
    · subst h2; simp [h]
    · by_cases h3 : k = k1
      · subst h3; simp [h2]
      · simp [h, h2, h3, Ne.symm h2, Ne.symm h3]
theorem two_mem {k1 k2 : NestedKey} {b1 b2 : Addr} {u1 u2 : Value} {x : NestedKey × Addr × Value} (h : x ∈ two k1 k2 b1 b2 u1 u2) : (x.1 = k1 ∧ x.2.1 = b1) ∨ (x.1 = k2 ∧ x.2.1 = b2) := by
  rw [two_eq] at h
  split at h
  · rw [List.mem_singleton] at h; subst h; exact .inl ⟨rfl, rfl⟩
  · rcases List.mem_cons.mp h with rfl | h
    · exact .inl ⟨rfl, rfl⟩
    · rw [List.mem_singleton] at h; subst h; exact .inr ⟨rfl, rfl⟩
section
variable {X : Cx}
def tDsp2 (X : Cx) (t1 s1 t2 s2 ty tx : TE) : TE := fun σ H Q => ∀ p, H p = none → t1 σ (upd H p (dN X.prog X.w p [])) fun k1 H1 => s1 σ H1 fun v1 H2 => t2 σ H2 fun k2 H3 => s2 σ H3 fun v2 H4 => H4 p = some (dN X.prog X.w p []) ∧
  ∃ key1 b1 key2 b2, k1 = .ref b1 ∧ k2 = .ref b2 ∧ NKey X.K H4 key1 b1 ∧ NKey X.K H4 key2 b2 ∧ ∀ u1 u2, RelV v1 u1 → RelV v2 u2 →
    ty σ (upd H4 p (dN X.prog X.w p (two key1 key2 b1 b2 u1 u2))) fun y H5 => tx σ H5 fun z H6 => ∃ key b, y = .ref b ∧ NKey X.K H6 key b ∧ H6 p = some (dN X.prog X.w p (two key1 key2 b1 b2 u1 u2)) ∧ NKey X.K H6 key1 b1 ∧ NKey X.K H6 key2 b2 ∧ Q (if key = key2 then v2 else if key = key1 then v1 else z) H6
theorem pe_dsp2 {k1 v1 k2 v2 e f : Expr} {t1 s1 t2 s2 ty tx : TE} {dpos apos cpos : Pos} (hu : X.A.units + 16 < cLine) (h1 : PE X k1 t1) (g1 : PE X v1 s1) (h2 : PE X k2 t2) (g2 : PE X v2 s2) (he : PE X e ty) (hf : PE X f tx)
    (m : M2 X (.Dict [some k1, some k2] [v1, v2] dpos) "get" apos e f cpos) : PE X (.Call (.Attribute (.Dict [some k1, some k2] [v1, v2] dpos) "get" apos) [e, f] [] cpos) (tDsp2 X t1 s1 t2 s2 ty tx) := by
  refine ⟨fun pins s σ H Q I h => ?_⟩
  have hn := I.hok.fresh (Nat.le_refl s.heap.objs.size)
  have I0 : Inv X pins σ (upd H s.heap.objs.size (dN X.prog X.w s.heap.objs.size [])) { s with heap := s.heap.push { cls := .type "dict", data := .dict #[] } } :=
    I.laid (a := s.heap.objs.size) (o := dN X.prog X.w s.heap.objs.size []) (t' := s.toks) (fun _ _ q => Heap.get?_push_of_some _ q) (Nat.le_refl _)
      (nraw_ok ⟨beq_eq_false_iff_ne.mpr (Ne.symm (Nat.ne_of_lt I.big)), Nat.zero_le _, _, #[], 0, Heap.get?_push_size _ rfl, ⟨rfl, rfl, rfl⟩, rfl, rfl, List.nodup_nil⟩)
  refine wpAny_Call_method m.base m.few m.line PySem.F.plainAttrs_dict PySem.F.slot_dict_get PySem.F.type_dict_get ?_
  rw [arm_eval_Dict, zip_pairTrees [some k1, some k2] [v1, v2] X.env dpos rfl rfl, dictDisplay_pairs _ (by simp [pairTrees]) (by simp [pairTrees])]
  refine wpAny_bind (wpAny_standAt (wpAny_bind (wpAny_subDictH (knd := nestedKind X.prog X.w) (by show X.A.units + 8 < cLine; omega) (by simp [pairTrees]) ?_)))
  refine pairTrees_cons_walk (thn (h1.run pins _ σ _ _ I0 (h _ hn)) fun a1 s1' ⟨x1, H1, I1, r1, q1⟩ => thn (g1.run pins s1' σ H1 _ I1 q1) fun c1 s2' ⟨y1, H2, I2, w1, q2⟩ => ?_)
  refine pairTrees_cons_walk (thn (h2.run pins _ σ _ _ I2 q2) fun a2 s3' ⟨x2, H3, I3, r2, q3⟩ => thn (g2.run pins s3' σ H3 _ I3 q3) fun c2 s4' ⟨y2, H4, I4, w2, q4⟩ => ?_)
  refine pairTrees_nil_walk ?_
  obtain ⟨hp, key1, b1, key2, b2, rfl, rfl, n1, n2, q5⟩ := q4
  obtain rfl : a1 = Value.ref b1 := r1
  obtain rfl : a2 = Value.ref b2 := r2
  obtain ⟨d1, d2, d3⟩ := dictN I4 hp (fun _ h => nomatch h)
  refine ⟨[(key1, b1, c1), (key2, b2, c2)], ⟨rfl, rfl, nkey_is I4 n1, rfl, rfl, nkey_is I4 n2, trivial⟩, d3, fun h' tk dk hs => wpAny_pure ?_⟩
  have hlen : (two key1 key2 b1 b2 c1 c2).length ≤ sizeLine := by
    rw [sizeLine_eq, two_eq]
    split <;> simp
  obtain ⟨q, es, ep, hq, e2, e3, e4, _, e5⟩ := id dk
  have I5 : Inv X pins σ (upd H4 s.heap.objs.size (dN X.prog X.w s.heap.objs.size (two key1 key2 b1 b2 c1 c2))) { s4' with heap := h', toks := tk } :=
    d_write I4 (by rw [hp]; exact True.intro) hs ⟨q, hq⟩ (nraw_ok ⟨d1, hlen, q, es, ep, hq, e2, e3, e4, e5⟩)
  refine ⟨dk.typeIs, fun a ea => by
    cases ea
    exact ⟨q, hq, e2.2.1⟩, ?_⟩
  rw [m.trees]
  refine wpAny_dict_get2_heap (knd := nestedKind X.prog X.w) (by show X.A.units + 1 + 8 < cLine; omega) d1 ?_
  refine thn (he.run pins _ σ _ _ I5 (q5 c1 c2 w1 w2)) fun ky s5 ⟨y, H5, I5', ry, q6⟩ => thn (hf.run pins s5 σ H5 _ I5' q6) fun dv s6 ⟨z, H6, I6, rz, key, b, ey, nk, e6, n1', n2', q7⟩ => ?_
  subst ey
  obtain rfl : ky = Value.ref b := ry
  obtain ⟨_, _, dk6⟩ := dictN I6 e6 (fun x hx => by
    rcases two_mem hx with ⟨z1, z2⟩ | ⟨z1, z2⟩
    · rw [z1, z2]; exact n1'
    · rw [z1, z2]; exact n2')
  refine ⟨b, key, _, rfl, nkey_is I6 nk, dk6, ?_⟩
  rw [two_at]
  refine ⟨_, H6, I6.tok _, ?_, q7⟩
  split
  · exact w2
  · split
    · exact w1
    · exact rz
end
def pairI : D → Option (Int × Int)
  | .tuple [.int a, .int b] => some (a, b)
  | _ => none
theorem pairI_eq {d : D} {p : Int × Int} (h : pairI d = some p) : d = (pk p).data := by
  unfold pairI at h
  split at h
  · cases h; rfl
  · cases h
/-- {k1: v1, k2: v2}.get(k, z) -/
def keys2 (k1 k2 : D) : Option ((Int × Int) × (Int × Int)) := (pairI k1).bind fun p1 => (pairI k2).map fun p2 => (p1, p2)
def dspD (q : (Int × Int) × (Int × Int)) (v1 v2 k z : D) : Option D := (pairI k).map fun p => if p = q.2 then v2 else if p = q.1 then v1 else z
def dspE (f1 g1 f2 g2 fk fz : EF) : EF := bE f1 fun k1 => bE g1 fun v1 => bE f2 fun k2 => bE g2 fun v2 => bE (oE (keys2 k1 k2)) fun q => bE fk fun k => bE fz fun z => oE (dspD q v1 v2 k z)
section
variable [Mem]
variable {X : Cx} {Er : ErT}
theorem Grow.over {F H F' H' : Hp} (s : Wf F H) {p : Addr} {o o' : HO} (hp : H p = none) (g : Grow F (upd H p o) F' H') : Grow F H F' (upd H' p o') ∧ F' p = none ∧ H' p = some o := by
  have nm : ¬ Mem.is p := s.no hp
  have Fp : F' p = none := by
    cases e : F' p with
    | none => rfl
    | some u =>
      have := g.nw p (by rw [e]; simp) (by rw [upd_same]; simp)
      exact absurd (none_of_same s.s hp) this
  refine ⟨⟨g.ff, fun a u n e => ?_, ⟨fun a u e => ?_, fun a z => ?_⟩, fun a h1 h2 => g.nw a h1 ?_⟩, Fp, g.hh p o nm upd_same⟩
  · have ne : a ≠ p := fun z => by rw [z, hp] at e; cases e
    rw [upd_ne ne]
    exact g.hh a u n (by rw [upd_ne ne]; exact e)
  · have ne : a ≠ p := fun z => by rw [z, Fp] at e; cases e
    rw [upd_ne ne]
    exact g.fh.s a u e
  · have ne : a ≠ p := fun e => nm (e ▸ z)
    rw [upd_ne ne]
    exact g.fh.m a z
  · by_cases ha : a = p
    · rw [ha, upd_same]; simp
    · rw [upd_ne ha]; exact h2
theorem nkey_dp {K : PySem.W.Frag} {F : Hp} {v : V} {d : D} {p : Int × Int} (h : Dp K F v d) (e : pairI d = some p) : ∃ b, v = .ref b ∧ NKey K F (pk p) b := by
  have ed := pairI_eq e
  subst ed
  cases h with
  | tup h1 h2 => exact ⟨_, rfl, .tup h1 h2, by simp [NestedKey.depth, NestedKey.depthAll]⟩
theorem pk_eq (p q : Int × Int) : (pk p = pk q) = (p = q) := by
  rw [eq_iff_iff]
  constructor
  · intro h
    injection h with h
    injection h with h1 h2
    injection h2 with h2 _
    injection h1 with h1
    injection h2 with h2
    exact Prod.ext h1 h2
  · intro h; rw [h]
theorem de_dsp {k1 v1 k2 v2 e f : Expr} {t1 s1 t2 s2 ty tx : TE} {f1 g1 f2 g2 fk fz : EF} {dpos apos cpos : Pos} (hu : X.A.units + 16 < cLine) (h1 : DE X Er k1 t1 f1) (j1 : DE X Er v1 s1 g1) (h2 : DE X Er k2 t2 f2) (j2 : DE X Er v2 s2 g2) (he : DE X Er e ty fk) (hf : DE X Er f tx fz)
    (m : M2 X (.Dict [some k1, some k2] [v1, v2] dpos) "get" apos e f cpos := by exact ⟨by rfl, by rfl, by rfl, by rfl⟩) : DE X Er (.Call (.Attribute (.Dict [some k1, some k2] [v1, v2] dpos) "get" apos) [e, f] [] cpos) (tDsp2 X t1 s1 t2 s2 ty tx) (dspE f1 g1 f2 g2 fk fz) := by
  refine ⟨pe_dsp2 hu h1.pe j1.pe h2.pe j2.pe he.pe hf.pe m, fun F H σ ρ Q s st h p hp => ?_⟩
  have s0 : Wf F (upd H p (dN X.prog X.w p [])) := s.upd hp
  have g0 : Grow F H F (upd H p (dN X.prog X.w p [])) := ⟨same_refl _, sameM_of (same_upd hp), s0, fun a h _ => h⟩
  have ge : ∀ {F' H' : Hp}, Grow F (upd H p (dN X.prog X.w p [])) F' H' → Grow F H F' H' := fun g => g0.trans g
  simp only [dspE, bE] at h
  cases r1 : f1 ρ with
  | bad => rw [r1] at h; exact h.elim
  | err c => rw [r1] at h; exact h1.rd F _ σ ρ _ s0 st (by rw [r1]; exact fun F' H' g => h F' H' (ge g))
  | ok d1 =>
  simp only [r1, R.bind_ok] at h
  refine h1.rd F _ σ ρ _ s0 st ?_
  rw [r1]
  intro F1 H1 q1 x1 e1
  cases r2 : g1 ρ with
  | bad => rw [r2] at h; exact h.elim
  | err c => rw [r2] at h; exact j1.rd F1 H1 σ ρ _ q1.fh (st.mono q1.ff) (by rw [r2]; exact fun F' H' g => h F' H' (ge (q1.trans g)))
  | ok c1 =>
  simp only [r2, R.bind_ok] at h
  refine j1.rd F1 H1 σ ρ _ q1.fh (st.mono q1.ff) ?_
  rw [r2]
  intro F2 H2 q2 y1 w1
  have g2' := q1.trans q2
  cases r3 : f2 ρ with
  | bad => rw [r3] at h; exact h.elim
  | err c => rw [r3] at h; exact h2.rd F2 H2 σ ρ _ q2.fh (st.mono g2'.ff) (by rw [r3]; exact fun F' H' g => h F' H' (ge (g2'.trans g)))
  | ok d2 =>
  simp only [r3, R.bind_ok] at h
  refine h2.rd F2 H2 σ ρ _ q2.fh (st.mono g2'.ff) ?_
  rw [r3]
  intro F3 H3 q3 x2 e2
  have g3' := g2'.trans q3
  cases r4 : g2 ρ with
  | bad => rw [r4] at h; exact h.elim
  | err c => rw [r4] at h; exact j2.rd F3 H3 σ ρ _ q3.fh (st.mono g3'.ff) (by rw [r4]; exact fun F' H' g => h F' H' (ge (g3'.trans g)))
  | ok c2 =>
  simp only [r4, R.bind_ok] at h
  refine j2.rd F3 H3 σ ρ _ q3.fh (st.mono g3'.ff) ?_
  rw [r4]
  intro F4 H4 q4 y2 w2
  have gt := g3'.trans q4
  cases e3 : pairI d1 with
  | none => simp only [oE, keys2, e3, Option.bind_none, R.of, R.bind_bad] at h; exact h.elim
  | some a1 =>
  cases e4 : pairI d2 with
  | none => simp only [oE, keys2, e3, e4, Option.bind_some, Option.map_none, R.of, R.bind_bad] at h; exact h.elim
  | some a2 =>
  simp only [oE, keys2, e3, e4, Option.bind_some, Option.map_some, R.of, R.bind_ok] at h
  obtain ⟨_, Fp4, Hp4⟩ := gt.over (o' := .lst []) s hp
  have y1' := dp_mono (same_trans q3.ff q4.ff) c1 y1 w1
  have x1' := dp_mono (same_trans (same_trans q2.ff q3.ff) q4.ff) d1 x1 e1
  have x2' := dp_mono q4.ff d2 x2 e2
  obtain ⟨b1, rfl, n1⟩ := nkey_dp x1' e3
  obtain ⟨b2, rfl, n2⟩ := nkey_dp x2' e4
  refine ⟨Hp4, pk a1, b1, pk a2, b2, rfl, rfl, n1.mono q4.fh.s, n2.mono q4.fh.s, fun u1 u2 z1 z2 => ?_⟩
  obtain ⟨g5, _, _⟩ := gt.over (o' := dN X.prog X.w p (two (pk a1) (pk a2) b1 b2 u1 u2)) s hp
  have np : ¬ Mem.is p := s.no hp
  cases r5 : fk ρ with
  | bad => rw [r5] at h; exact h.elim
  | err c => rw [r5] at h; exact he.rd F4 _ σ ρ _ g5.fh (st.mono gt.ff) (by rw [r5]; exact fun F' H' g => h F' H' (g5.trans g))
  | ok k =>
  simp only [r5, R.bind_ok] at h
  refine he.rd F4 _ σ ρ _ g5.fh (st.mono gt.ff) ?_
  rw [r5]
  intro F5 H5 q5 y ey
  have g6 := g5.trans q5
  cases r6 : fz ρ with
  | bad => rw [r6] at h; exact h.elim
  | err c => rw [r6] at h; exact hf.rd F5 H5 σ ρ _ q5.fh ((st.mono gt.ff).mono q5.ff) (by rw [r6]; exact fun F' H' g => h F' H' (g6.trans g))
  | ok z =>
  simp only [r6, R.bind_ok] at h
  refine hf.rd F5 H5 σ ρ _ q5.fh ((st.mono gt.ff).mono q5.ff) ?_
  rw [r6]
  intro F6 H6 q6 zv ez
  have g7 := g6.trans q6
  cases e5 : pairI k with
  | none => simp only [dspD, e5, Option.map_none] at h; exact h.elim
  | some a =>
  simp only [dspD, e5, Option.map_some] at h
  have q56 := q5.trans q6
  obtain ⟨b, rfl, n⟩ := nkey_dp (dp_mono q6.ff k y ey) e5
  refine ⟨pk a, b, rfl, n.mono q6.fh.s, q56.hh p _ np upd_same, (n1.mono q56.ff).mono q6.fh.s, (n2.mono q56.ff).mono q6.fh.s, ?_⟩
  refine h F6 H6 g7 _ ?_
  simp only [pk_eq]
  by_cases t1 : a = a2
  · rw [if_pos t1, if_pos t1]
    exact dp_mono q56.ff _ _ w2
  · rw [if_neg t1, if_neg t1]
    by_cases t2 : a = a1
    · rw [if_pos t2, if_pos t2]
      exact dp_mono q56.ff _ _ y1'
    · rw [if_neg t2, if_neg t2]
      exact ez
end
end DL

set_option maxHeartbeats 1000000
/-! DY5: a, b, .. = (data or new lists); x.append(y.pop(e)). -/
namespace DL
open PySem PySem.Spec L2
open PyProof.Rows hiding St
variable [Mem]
inductive MV where
  | d (x : D)
  | n (ds : List D)
abbrev MF := Env → R (List MV)
def isNew : MV → Bool
  | .d _ => false
  | .n _ => true
def newA : List MV → List V → List Addr
  | .n _ :: ms, .ref p :: vs => p :: newA ms vs
  | _ :: ms, _ :: vs => newA ms vs
  | _, _ => []
def Mix (K : PySem.W.Frag) (H F' Hn : Hp) : List MV → List V → Prop
  | [], [] => True
  | .d x :: ms, v :: vs => Dp K F' v x ∧ Mix K H F' Hn ms vs
  | .n ds :: ms, v :: vs => (∃ p us, v = .ref p ∧ H p = none ∧ F' p = none ∧ Hn p = some (.lst us) ∧ DpAll K F' us ds ∧ p ∉ newA ms vs) ∧ Mix K H F' Hn ms vs
  | _, _ => False
def DRm (K : PySem.W.Frag) (Er : ErT) (ta : TA) (f : MF) : Prop := ∀ F H σ ρ Q, Wf F H → EnvR K F σ ρ → Post F H Er (f ρ) (fun F' Hn ms => ∀ vs, Mix K H F' Hn ms vs → Q vs Hn) → ta σ H Q
structure DM (X : Cx) (Er : ErT) (es : List Expr) (ta : TA) (f : MF) : Prop where
  pe : PA X es ta
  rd : DRm X.K Er ta f
def nilM : MF := cE []
def consMd (a : EF) (r : MF) : MF := bE a fun x => bE r fun ms => cE (.d x :: ms)
def consMn (a : AF) (r : MF) : MF := bE a fun ds => bE r fun ms => cE (.n ds :: ms)
theorem mix_base {K : PySem.W.Frag} {H H0 F' Hn : Hp} (h : ∀ a, H a = none → H0 a = none) : ∀ {ms : List MV} {vs : List V}, Mix K H F' Hn ms vs → Mix K H0 F' Hn ms vs
  | [], [], _ => trivial
  | .d _ :: _, _ :: _, ⟨a, b⟩ => ⟨a, mix_base h b⟩
  | .n _ :: _, _ :: _, ⟨⟨p, us, e1, e2, e3⟩, b⟩ => ⟨⟨p, us, e1, h p e2, e3⟩, mix_base h b⟩
  | [], _ :: _, h => h.elim
  | .d _ :: _, [], h => h.elim
  | .n _ :: _, [], h => h.elim
theorem mix_over {K : PySem.W.Frag} {H F' Hn H2 : Hp} (h : Same Hn H2) : ∀ {ms : List MV} {vs : List V}, Mix K H F' Hn ms vs → Mix K H F' H2 ms vs
  | [], [], _ => trivial
  | .d _ :: _, _ :: _, ⟨a, b⟩ => ⟨a, mix_over h b⟩
  | .n _ :: _, _ :: _, ⟨⟨p, us, e1, e2, e3, e4, e5⟩, b⟩ => ⟨⟨p, us, e1, e2, e3, h p _ e4, e5⟩, mix_over h b⟩
  | [], _ :: _, h => h.elim
  | .d _ :: _, [], h => h.elim
  | .n _ :: _, [], h => h.elim
theorem mix_new {K : PySem.W.Frag} {H F' Hn : Hp} : ∀ {ms : List MV} {vs : List V}, Mix K H F' Hn ms vs → ∀ q ∈ newA ms vs, H q = none
  | [], [], _, q, h => nomatch h
  | .d _ :: _, .ref _ :: _, ⟨_, b⟩, q, h => mix_new b q h
  | .d _ :: _, .int _ :: _, ⟨_, b⟩, q, h => mix_new b q h
  | .d _ :: _, .bl _ :: _, ⟨_, b⟩, q, h => mix_new b q h
  | .d _ :: _, .str _ :: _, ⟨_, b⟩, q, h => mix_new b q h
  | .d _ :: _, .non :: _, ⟨_, b⟩, q, h => mix_new b q h
  | .d _ :: _, .ty _ :: _, ⟨_, b⟩, q, h => mix_new b q h
  | .n _ :: _, _ :: _, ⟨⟨p, us, e1, e2, e3⟩, b⟩, q, h => by
    subst e1
    rcases List.mem_cons.mp h with rfl | h
    · exact e2
    · exact mix_new b q h
  | [], _ :: _, h, _, _ => h.elim
  | .d _ :: _, [], h, _, _ => h.elim
  | .n _ :: _, [], h, _, _ => h.elim
section
variable {X : Cx} {Er : ErT} {te : TE} {ta tr : TA}
theorem dm_nil : DM X Er [] tNil nilM := ⟨pa_nil, fun F H σ ρ Q s st h => h.now s [] trivial⟩
theorem dm_d {e : Expr} {es : List Expr} {f : EF} {r : MF} (h : DE X Er e te f) (k : DM X Er es tr r) (hs : starEach (e :: es) X.env = (false, eval e X.env) :: starEach es X.env := by rfl) : DM X Er (e :: es) (tCons te tr) (consMd f r) := by
  refine ⟨pa_cons h.pe k.pe hs, fun F H σ ρ Q s st p => ?_⟩
  refine h.rd F H σ ρ _ s st (Post.imp (Post.bind p) fun F1 H1 a g1 p1 v dv => ?_)
  refine k.rd F1 H1 σ ρ _ g1.fh (st.mono g1.ff) (Post.imp (Post.bind p1) fun F2 H2 ms g2 p2 vs mx => ?_)
  exact Post.now p2 g2.fh _ ⟨dp_mono g2.ff a v dv, mix_base (fun a h => grow_none s g1 h) mx⟩
theorem dm_n {e : Expr} {es : List Expr} {f : AF} {r : MF} (h : DN X Er e te f) (k : DM X Er es tr r) (hs : starEach (e :: es) X.env = (false, eval e X.env) :: starEach es X.env := by rfl) : DM X Er (e :: es) (tCons te tr) (consMn f r) := by
  refine ⟨pa_cons h.pe k.pe hs, fun F H σ ρ Q s st p => ?_⟩
  simp only [consMn, bE] at p
  cases r1 : f ρ with
  | bad => rw [r1] at p; exact p.elim
  | err c => rw [r1] at p; exact h.rd F H σ ρ _ s st (by rw [r1]; exact p)
  | ok ds =>
  simp only [r1, R.bind_ok] at p
  refine h.rd F H σ ρ _ s st ?_
  rw [r1]
  intro F1 H1 g1 a us ha dvs
  have g2 : Grow F1 H1 F1 (upd H1 a (.lst us)) := ⟨same_refl _, sameM_of (same_upd ha), g1.fh.upd ha, fun b h1 _ => h1⟩
  have g12 := g1.trans g2
  have na : ¬ Mem.is a := g1.fh.no ha
  have F1a : F1 a = none := none_of_same g1.fh.s ha
  have H0a : H a = none := grow_none s g1 ha
  refine k.rd F1 _ σ ρ _ g2.fh (st.mono g1.ff) ?_
  cases r2 : r ρ with
  | bad => rw [r2] at p; exact p.elim
  | err c => rw [r2] at p; exact fun F' H' g => p F' H' (g12.trans g)
  | ok ms =>
  simp only [r2, R.bind_ok] at p
  intro F2 H2 g3 vs mx
  refine p F2 H2 (g12.trans g3) _ ⟨⟨a, us, rfl, H0a, ?_, g3.hh a _ na upd_same, dpAll_mono g3.ff _ _ dvs, fun hm => ?_⟩, mix_base (fun b hb => grow_none s g12 hb) mx⟩
  · cases e : F2 a with
    | none => rfl
    | some u =>
      have := g3.nw a (by rw [e]; simp) (by rw [upd_same]; simp)
      exact absurd F1a this
  · have := mix_new mx a hm
    rw [upd_same] at this
    cases this
end
/-! the slots take what is told -/
def setMv (ρ : Env) : List Nat → List MV → Env
  | j :: js, .d x :: ms => setMv (ρ.set j (some x)) js ms
  | j :: js, .n ds :: ms => setMv (ρ.set j (some (.list ds))) js ms
  | _, _ => ρ
def setW (w : List Sh) : List Nat → List Bool → List Sh
  | j :: js, b :: bs => setW (w.set j (if b = true then .ls else .fz)) js bs
  | _, _ => w
section
variable {K : PySem.W.Frag} {fr : Fr} {w : List Sh} {F H F' H' : Hp} {σ : St} {ρ : Env}
theorem StR.put {os : Nat → Hp} (s : StR K fr w F H σ ρ os) {i : Nat} {x : Sh} {v : V} {d : D} {o : Hp} (hF : ∀ a, o a ≠ none → F a = none ∧ fr.G a = none ∧ (∀ j, os j a = none) ∧ ¬ Mem.is a) (ho : Same o H) (hr : Hold K F o x v d) (hi : x = .fz ∨ i < w.length) :
    StR K fr (w.set i x) F H (σ.set i (some v)) (ρ.set i (some d)) (fun j => if j = i then o else os j) := by
  refine ⟨s.fh, s.gh, s.f0, s.nw, fun j => ?_, fun j a h1 => ?_, fun j e q => ?_, by simpa using s.len, fun j a h1 => ?_⟩
  · by_cases hj : j = i
    · rw [if_pos hj]; exact ho
    · rw [if_neg hj]; exact s.oh j
  · by_cases hj : j = i
    · rw [if_pos hj] at h1
      obtain ⟨q1, q2, q3, _⟩ := hF a h1
      refine ⟨q1, q2, fun k hk => ?_⟩
      rw [if_neg (fun z => hk (z.trans hj.symm))]
      exact q3 k
    · rw [if_neg hj] at h1
      obtain ⟨q1, q2, q3⟩ := s.ow j a h1
      refine ⟨q1, q2, fun k hk => ?_⟩
      by_cases hki : k = i
      · rw [if_pos hki]
        cases e : o a with
        | none => rfl
        | some u => exact absurd ((hF a (by rw [e]; simp)).2.2.1 j) h1
      · rw [if_neg hki]; exact q3 k hk
  · rcases env_set q with ⟨rfl, rfl, hv⟩ | ⟨ne, q⟩
    · refine ⟨v, by rw [List.getElem?_set_self (by rw [← s.len]; exact hv)], ?_⟩
      rw [if_pos rfl]
      rcases hi with rfl | hi
      · rw [sh_set_fz]; exact hr
      · rw [sh_set_self hi]; exact hr
    · rw [List.getElem?_set_ne ne, sh_set_ne ne, if_neg (Ne.symm ne)]
      exact s.sl j e q
  · by_cases hj : j = i
    · rw [if_pos hj] at h1; exact (hF a h1).2.2.2
    · rw [if_neg hj] at h1; exact s.om j a h1
theorem StR.puts {H0 : Hp} : ∀ {js : List Nat} {ms : List MV} {vs : List V} {w : List Sh} {σ : St} {ρ : Env} {os : Nat → Hp}, StR K fr w F H σ ρ os → js.length = ms.length → (∀ j ∈ js, j < w.length) → Mix K H0 F H ms vs → (∀ q ∈ newA ms vs, fr.G q = none ∧ (∀ j, os j q = none) ∧ ¬ Mem.is q) →
    ∃ os', StR K fr (setW w js (ms.map isNew)) F H (setV σ js vs) (setMv ρ js ms) os'
  | [], [], [], w, σ, ρ, os, s, _, _, _, _ => ⟨os, s⟩
  | j :: js, .d x :: ms, v :: vs, w, σ, ρ, os, s, hl, hj, ⟨a, b⟩, hq => by
    have s1 := s.put (i := j) (x := .fz) (o := emp) (v := v) (d := x) (fun a h => absurd rfl h) (fun a o h => by cases h) (.inl a) (.inl rfl)
    exact StR.puts (js := js) (ms := ms) (vs := vs) s1 (by simpa using hl) (fun k hk => by simpa using hj k (List.mem_cons_of_mem _ hk)) b fun q hq2 => by
      obtain ⟨z1, z2, z3⟩ := hq q (by cases v <;> exact hq2)
      refine ⟨z1, fun k => ?_, z3⟩
      split
      · rfl
      · exact z2 k
  | j :: js, .n ds :: ms, v :: vs, w, σ, ρ, os, s, hl, hj, ⟨⟨p, us, e1, e2, e3, e4, e5, e6⟩, b⟩, hq => by
    subst e1
    obtain ⟨z1, z2, z3⟩ := hq p List.mem_cons_self
    have one : ∀ a, upd emp p (.lst us) a ≠ none → a = p := fun a h => by
      by_cases ha : a = p
      · exact ha
      · rw [upd_ne ha] at h; exact absurd rfl h
    have s1 := s.put (i := j) (x := .ls) (o := upd emp p (.lst us)) (v := .ref p) (d := .list ds) (fun a h => by rw [one a h]; exact ⟨e3, z1, z2, z3⟩) (fun a o h => by
      have := one a (by rw [h]; simp)
      subst this
      rw [upd_same] at h
      rw [e4, h]) ⟨p, us, ds, rfl, rfl, rfl, e5⟩ (.inr (hj j List.mem_cons_self))
    exact StR.puts (js := js) (ms := ms) (vs := vs) s1 (by simpa using hl) (fun k hk => by simpa using hj k (List.mem_cons_of_mem _ hk)) b fun q hq2 => by
      obtain ⟨y1, y2, y3⟩ := hq q (List.mem_cons_of_mem _ hq2)
      refine ⟨y1, fun k => ?_, y3⟩
      split
      · have : q ≠ p := fun z => e6 (z ▸ hq2)
        rw [upd_ne this]; rfl
      · exact y2 k
  | [], _ :: _, _, _, _, _, _, _, h, _, _, _ => by simp at h
  | _ :: _, [], _, _, _, _, _, _, h, _, _, _ => by simp at h
  | [], [], _ :: _, _, _, _, _, _, _, _, h, _ => h.elim
  | _ :: _, .d _ :: _, [], _, _, _, _, _, _, _, h, _ => h.elim
  | _ :: _, .n _ :: _, [], _, _, _, _, _, _, _, h, _ => h.elim
end
section
variable {X : Cx} {Er : ErT} {s0 : Sh} {wl w : List Sh} {ta : TA} {pos : Pos}
def mixS (w : List Sh) (js : List Nat) (f : MF) : SF := fun ρ => runR (f (hidA w ρ)) ρ fun ms => if ms.length ≤ 1000000 then .nx (setMv ρ js ms) else .bad
theorem drs_mix {K : PySem.W.Frag} {js : List Nat} {bs : List Bool} {f : MF} (hw : sh w 0 = s0) (h : DRm K Er ta f) (hk : ∀ ρ ms, f ρ = .ok ms → ms.map isNew = bs) (hl : bs.length = js.length) (hj : ∀ j ∈ js, j < w.length) :
    DRs K Er s0 wl w (setW w js bs) (tAsg (tTup ta) (gTup K js.length (gNames js))) (mixS w js f) := by
  intro fr F H σ ρ Dn st p
  refine h F H σ _ _ st.fh st.envA ?_
  unfold mixS at p
  cases e : f (hidA w ρ) with
  | bad => rw [e] at p; exact p.elim
  | err c =>
    rw [e] at p
    exact fun F' H' gr => p σ F' H' w hw (st.grow gr)
  | ok ms =>
    rw [e, runR_ok] at p
    intro F1 H1 g vs mx
    have hb := hk _ _ e
    have hml : ms.length = js.length := by rw [← hl, ← hb, List.length_map]
    have hvl : ∀ {ms : List MV} {vs : List V}, Mix K H F1 H1 ms vs → vs.length = ms.length := fun {ms} => by
      induction ms with
      | nil => intro vs h; cases vs with
        | nil => rfl
        | cons _ _ => exact h.elim
      | cons m ms ih =>
        intro vs h
        cases vs with
        | nil => cases m <;> exact h.elim
        | cons v vs =>
          cases m with
          | d x => rw [List.length_cons, List.length_cons, ih h.2]
          | n ds => rw [List.length_cons, List.length_cons, ih h.2]
    by_cases hz : ms.length ≤ 1000000
    · rw [if_pos hz] at p
      refine ⟨by rw [hvl mx]; exact sz_of hz, fun t ht => ?_⟩
      refine ⟨t, vs, rfl, .inl (.inl upd_same), by rw [hvl mx, hml], ?_⟩
      refine gNames_ok js vs σ _ (by rw [hvl mx, hml]) ?_
      have g2 : Grow F1 H1 F1 (upd H1 t (.tup vs)) := ⟨same_refl _, sameM_of (same_upd ht), g.fh.upd ht, fun b h1 _ => h1⟩
      have g3 := g.trans g2
      obtain ⟨os, s⟩ := st
      have s1 := s.grow g3
      obtain ⟨os', s2⟩ := s1.puts (H0 := H) (js := js) (ms := ms) (vs := vs) hml.symm hj (mix_over (same_upd ht) mx) fun q hq => by
        have hq0 := mix_new mx q hq
        exact ⟨none_of_sameM s.gh s.fh hq0, fun j => none_of_same (s.oh j) hq0, s.fh.no hq0⟩
      rw [hb] at s2
      exact p _ F1 _ g.ff ⟨os', s2⟩
    · rw [if_neg hz] at p; exact p.elim
theorem s_mix {K : PySem.W.Frag} {es ts : List Expr} {k k2 : Nat} {p1 p2 : Pos} {js : List Nat} (bs : List Bool) {f : MF} (h : DM X Er es ta f) (hg : PGs X ts (gNames js)) (hk : ∀ ρ ms, f ρ = .ok ms → ms.map isNew = bs) (hc : X.calm = true := by rfl) (hl : bs.length = js.length := by rfl) (hj : ∀ j ∈ js, j < w.length := by decide) (hw : sh w 0 = s0 := by rfl)
    (hn : (assignEach ts X.env).length = js.length := by rfl) (hst : (assignEach ts X.env).findIdx? (·.1) = none := by rfl)
    (hs : swapsWithSole [.Tuple ts k p1] (.Tuple es k2 p2) pos.line X.env = pure false := by rfl) (hsw : swappedStores [.Tuple ts k p1] (.Tuple es k2 p2) X.env = pure none := by rfl)
    (h1 : (assignEach [.Tuple ts k p1] X.env).map (·.2) = [assign (.Tuple ts k p1) X.env] := by rfl) :
    D1 X Er s0 wl w (.Assign [.Tuple ts k p1] (.Tuple es k2 p2) pos) (setW w js bs) (tAsg (tTup ta) (gTup X.K js.length (gNames js))) (mixS w js f) :=
  ⟨ps_asg (pe_tup h.pe) (pg_tup hc hg hn hst) hs hsw h1, drs_mix hw h.rd hk hl hj⟩
theorem mk_nil : ∀ ρ ms, nilM ρ = .ok ms → ms.map isNew = [] := fun ρ ms h => by cases h; rfl
theorem mk_d {a : EF} {r : MF} {bs : List Bool} (h : ∀ ρ ms, r ρ = .ok ms → ms.map isNew = bs) : ∀ ρ ms, consMd a r ρ = .ok ms → ms.map isNew = false :: bs := fun ρ ms e => by
  simp only [consMd, bE] at e
  cases h1 : a ρ with
  | ok x =>
    simp only [h1, R.bind_ok] at e
    cases h2 : r ρ with
    | ok xs => simp only [h2, R.bind_ok, cE] at e; cases e; simp [h ρ xs h2, isNew]
    | err c => simp only [h2] at e; cases e
    | bad => simp only [h2] at e; cases e
  | err c => simp only [h1] at e; cases e
  | bad => simp only [h1] at e; cases e
theorem mk_n {a : AF} {r : MF} {bs : List Bool} (h : ∀ ρ ms, r ρ = .ok ms → ms.map isNew = bs) : ∀ ρ ms, consMn a r ρ = .ok ms → ms.map isNew = true :: bs := fun ρ ms e => by
  simp only [consMn, bE] at e
  cases h1 : a ρ with
  | ok x =>
    simp only [h1, R.bind_ok] at e
    cases h2 : r ρ with
    | ok xs => simp only [h2, R.bind_ok, cE] at e; cases e; simp [h ρ xs h2, isNew]
    | err c => simp only [h2] at e; cases e
    | bad => simp only [h2] at e; cases e
  | err c => simp only [h1] at e; cases e
  | bad => simp only [h1] at e; cases e
/-! x.append(y.pop(e)) -/
def popO (ρ : Env) (i j : Nat) (ds es : List D) (k : Nat) : Option D → Out
  | some d => if ds.length < 1000000 then .nx ((ρ.set j (some (.list (es.eraseIdx k)))).set i (some (.list (ds ++ [d])))) else .bad
  | none => .bad
def popK (ρ : Env) (i j : Nat) (ds es : List D) : D → Out
  | .int z => if 0 ≤ z ∧ z < es.length ∧ z < 1000000 then popO ρ i j ds es z.toNat es[z.toNat]? else .bad
  | _ => .bad
def popApp (w : List Sh) (i j : Nat) (fe : EF) : SF := fun ρ => lsAt ρ i fun ds => lsAt ρ j fun es => runR (fe (hidO w ρ)) ρ fun d => popK ρ i j ds es d
theorem lsAt_is {ρ : Env} {i : Nat} {k : List D → Out} (h : lsAt ρ i k ≠ .bad) : ∃ ds, ρ[i]? = some (some (.list ds)) ∧ lsAt ρ i k = k ds := by
  unfold lsAt at h ⊢
  split at h
  · rename_i ds e
    exact ⟨ds, e, rfl⟩
  · exact absurd rfl h
theorem seqIx {z : Int} {n : Nat} (h0 : 0 ≤ z) (h1 : z < n) : seqIndex? z n = some z.toNat := by
  unfold seqIndex?
  simp
  omega
theorem drs_popApp {K : PySem.W.Frag} {te : TE} {i j : Nat} {fe : EF} (hij : i ≠ j) (hi : sh w i = .ls) (hj : sh w j = .ls) (hw : sh w 0 = s0) (h : DRd K Er te fe) :
    DRs K Er s0 wl w w (tDrop (tBM K "list" rAppend (tVar i) (tCons (tBM K "list" rPopAt (tVar j) (tCons te tNil)) tNil))) (popApp w i j fe) := by
  intro fr F H σ ρ Dn st p
  unfold popApp at p
  obtain ⟨a, vs, ds, e1, q1, q2, q3, q4, p⟩ := lsAt_post hi st p
  obtain ⟨b, us, es, f1, r1, r2, r3, r4, p⟩ := lsAt_post hj st p
  refine ⟨_, q1, .inl ⟨rfl, _, SqL.of q2⟩, ?_⟩
  refine ⟨_, r1, .inl ⟨rfl, _, SqL.of r2⟩, ?_⟩
  refine runV' (te := te) hw h st p fun d v F1 H1 s1 st1 du dv p1 => ?_
  unfold popK at p1
  cases d with
  | int z =>
    have ev := du z rfl
    subst ev
    simp only at p1
    by_cases hz : 0 ≤ z ∧ z < es.length ∧ z < 1000000
    · rw [if_pos hz] at p1
      obtain ⟨us1, y1, y2, y3⟩ := ls_again hj st1 f1 r1
      have hul : us1.length = es.length := dpAll_len y2
      cases hk : es[z.toNat]? with
      | none => rw [hk] at p1; exact p1.elim
      | some x =>
        rw [hk] at p1
        unfold popO at p1
        simp only at p1
        by_cases hd : ds.length < 1000000
        · rw [if_pos hd] at p1
          obtain ⟨u, hu, du⟩ := dpAll_get y2 hk
          have er : ∀ {us : List V} {es : List D} (k : Nat), DpAll K F1 us es → DpAll K F1 (us.eraseIdx k) (es.eraseIdx k) := fun {us es} k => by
            induction us generalizing es k with
            | nil => intro h; cases h; exact .nil
            | cons u us ih =>
              intro h
              cases h with
              | cons h1 h2 =>
                cases k with
                | zero => exact h2
                | succ k => exact .cons h1 (ih k h2)
          have st2 := y3 _ _ (er z.toNat y2)
          refine ⟨b, us1, z, z.toNat, u, rfl, rfl, y1, by omega, ?_, by rw [hul]; exact seqIx hz.1 hz.2.1, hu, ?_⟩
          · omega
          · have e2 : (ρ.set j (some (.list (es.eraseIdx z.toNat))))[i]? = some (some (.list ds)) := by rw [List.getElem?_set_ne (Ne.symm hij)]; exact e1
            obtain ⟨vs2, x1, x2, x3⟩ := ls_again hi st2 e2 q1
            refine ⟨a, vs2, u, rfl, rfl, x1, sz_lt (by rw [dpAll_len x2]; exact hd), ?_⟩
            exact p1 _ F1 _ (same_refl _) (x3 _ _ (dpAll_app x2 (.cons du .nil)))
        · rw [if_neg hd] at p1; exact p1.elim
    · rw [if_neg hz] at p1; exact p1.elim
  | _ => exact p1.elim
theorem s_popApp (i j : Nat) {x y : Str} {e : Expr} {p1 p2 p3 p4 p5 p6 : Pos} {te : TE} {fe : EF} (h : DE X Er e te fe) (hij : i ≠ j := by decide) (hi : sh w i = .ls := by rfl) (hj : sh w j = .ls := by rfl) (hN : X.N[i]? = some x := by rfl) (hM : X.N[j]? = some y := by rfl)
    (hv : Vis X.env.scope x := by first | exact Or.inl rfl | exact Or.inr (Or.inl rfl) | exact Or.inr (Or.inr rfl)) (hv2 : Vis X.env.scope y := by first | exact Or.inl rfl | exact Or.inr (Or.inl rfl) | exact Or.inr (Or.inr rfl)) (hw : sh w 0 = s0 := by rfl)
    (hs : swapsWith (.Call (.Attribute (.Name x p1) "append" p2) [.Call (.Attribute (.Name y p4) "pop" p5) [e] [] p6] [] p3) none pos.line X.env = pure false := by rfl) (hbase : attributeBase (.Name x p1) "append" X.env (eval (.Name x p1) X.env) = eval (.Name x p1) X.env := by rfl)
    (hfew : ((backTo p3 (starEach [.Call (.Attribute (.Name y p4) "pop" p5) [e] [] p6] X.env)).all (fun x => !x.1) && (backToKw p3 (keywordEach [] X.env)).all (fun x => x.1.isSome) && decide (([.Call (.Attribute (.Name y p4) "pop" p5) [e] [] p6] : List Expr).length + ([] : List Keyword).length + (if ([] : List Keyword).isEmpty then 0 else 1) < 30)) = true := by rfl)
    (hline : (p2.endLine == p3.line) = true := by rfl) (hst : starEach [.Call (.Attribute (.Name y p4) "pop" p5) [e] [] p6] X.env = (false, eval (.Call (.Attribute (.Name y p4) "pop" p5) [e] [] p6) X.env) :: starEach [] X.env := by rfl) (hplain : (backTo p3 (starEach [] X.env)).any (·.1) = false := by rfl)
    (hbase2 : attributeBase (.Name y p4) "pop" X.env (eval (.Name y p4) X.env) = eval (.Name y p4) X.env := by rfl)
    (hfew2 : ((backTo p6 (starEach [e] X.env)).all (fun x => !x.1) && (backToKw p6 (keywordEach [] X.env)).all (fun x => x.1.isSome) && decide (([e] : List Expr).length + ([] : List Keyword).length + (if ([] : List Keyword).isEmpty then 0 else 1) < 30)) = true := by rfl)
    (hline2 : (p5.endLine == p6.line) = true := by rfl) (hst2 : starEach [e] X.env = (false, eval e X.env) :: starEach [] X.env := by rfl) (hplain2 : (backTo p6 (starEach [] X.env)).any (·.1) = false := by rfl)
    (hd : (x == ("__debug__" : Str)) = false := by decide) (hcd : (x == ("__classdict__" : Str)) = false := by decide) (hd2 : (y == ("__debug__" : Str)) = false := by decide) (hcd2 : (y == ("__classdict__" : Str)) = false := by decide) :
    D1 X Er s0 wl w (.Expr (.Call (.Attribute (.Name x p1) "append" p2) [.Call (.Attribute (.Name y p4) "pop" p5) [e] [] p6] [] p3) pos) w (tDrop (tBM X.K "list" rAppend (tVar i) (tCons (tBM X.K "list" rPopAt (tVar j) (tCons te tNil)) tNil))) (popApp w i j fe) :=
  ⟨ps_expr (pe_bm PySem.F.plainAttrs_list PySem.F.slot_list_append PySem.F.type_list_append mt_append (pe_var hN hv hd hcd) (pa_cons (pe_bm PySem.F.plainAttrs_list PySem.F.slot_list_pop PySem.F.type_list_pop mt_popAt (pe_var hM hv2 hd2 hcd2) (pa_cons h.pe pa_nil hst2) hbase2 hfew2 hline2 hst2 hplain2) pa_nil hst) hbase hfew hline hst hplain) hs, drs_popApp hij hi hj hw h.rd⟩
end
end DL

set_option maxHeartbeats 1000000
/-! DY6: C.m(x, ..), m a def of the class C, called by it. -/
namespace DL
open PySem PySem.Spec L2
open PyProof.Rows hiding St
/-- a def of a class, as the class tells it -/
structure CfI (K : PySem.W.Frag) (mg : Str → Option Value) (x m q : Str) (st : Stmt) (ps : List Str) where
  C : Addr
  f : Addr
  fd : FuncData
  F : Fun K m q st f fd
  g : mg x = some (.ref C)
  mc : Value
  ga : PySem.W.specialIn K (.ref C) "__getattribute__" = some (some (.builtin "type.__getattribute__"))
  rd : PySem.W.readsIn K C mc = true
  at_ : PySem.W.findCls K (.ref C) mc m = some (.val (.ref f))
  kp : PySem.W.keepIn K (.ref f) = true
  b : Binds K fd ps []
section
variable {X : Cx} {CX : CXT} {k : Nat} {C f : Addr} {mc : Value} {fd : FuncData} {ps : List Str} {sp : Sp} {E : XK} {x m : Str} {e : Expr} {es : List Expr} {p apos pos : Pos} {t : TA} {pl : Sem Bool}
theorem pe_clsCall (hg : Gl X x) (hmx : X.mg x = some (.ref C)) (ga : PySem.W.specialIn X.K (.ref C) "__getattribute__" = some (some (.builtin "type.__getattribute__"))) (rd : PySem.W.readsIn X.K C mc = true)
    (at_ : PySem.W.findCls X.K (.ref C) mc m = some (.val (.ref f))) (hk : PySem.W.keepIn X.K (.ref f) = true) (F : FnOk X.prog X.w X.K X.mg X.base CX k f fd ps sp) (hr : Room k X.A) (hb : Binds X.K fd ps []) (hx : Passes CX X E)
    (ha : PA X (e :: es) t) (hdb : (x == ("__debug__" : Str)) = false := by decide) (hst : starEach (e :: es) X.env = (false, eval e X.env) :: starEach es X.env := by rfl) (hpl : (backTo pos (starEach es X.env)).any (·.1) = false := by rfl)
    (ht : eval (.Call (.Attribute (.Name x p) m apos) (e :: es) [] pos) X.env = (do
      let ov ← eval (.Name x p) X.env
      standAt apos.atName
      let (f, first) ← holding [ov] (getMethod ov m pl)
      callWith pos f first (backTo pos (starEach (e :: es) X.env)) (backToKw pos (keywordEach [] X.env))) := by rfl) :
    PE X (.Call (.Attribute (.Name x p) m apos) (e :: es) [] pos) (tCall sp [] E t) := by
  refine ⟨fun pins s σ H Q I h => ?_⟩
  refine PySem.W.methodCall_KW (pl := pl) (ld_glob I hg hmx ?_ hdb) ht
  refine PySem.W.method_cls I.kIn ga (PySem.W.cls_value I.kIn rd at_ rfl ?_)
  refine PySem.W.callWith_K (first := []) (h₀ := X.base) I.ok.mod.kin hk (thn (ha.run pos pins { s with toks := s.toks + 1 } σ H _ (I.tok _) h) fun us s2 ⟨vs, H2, I2, r, q2⟩ => ⟨I2.kIn, ?_⟩) hst hpl
  exact run_fn F hr hb .nil hx I2 r q2
end
section
variable [Mem]
variable {X : Cx} {Er : ErT} {ta : TA}
theorem kclsq (K : PySem.W.Frag) (mg : Str → Option Value) {pl : Sem Bool} {CX : CXT} {k n : Nat} {E : XK} {x m q : Str} {st : Stmt} {ps : List Str} {g : List D → R D} {p apos pos : Pos} {e : Expr} {es : List Expr} {fa : AF} (T : CfI K mg x m q st ps)
    (F : FnOk X.prog X.w K mg X.base CX k T.f T.fd ps (spD K mg n g)) (hr : Room k X.A) (hg : Gl X x) (hx : Passes CX X E)
    (he : ∀ c H', Er c H' → erX mg E c H') (ha : DAq X Er (e :: es) ta fa) (hn : ∀ ρ ds, fa ρ = .ok ds → ds.length = n)
    (hd : (x == ("__debug__" : Str)) = false := by decide) (hs : starEach (e :: es) X.env = (false, eval e X.env) :: starEach es X.env := by rfl) (hpl : (backTo pos (starEach es X.env)).any (·.1) = false := by rfl) (hK : X.K = K := by rfl) (hG : X.mg = mg := by rfl)
    (ht : eval (.Call (.Attribute (.Name x p) m apos) (e :: es) [] pos) X.env = (do
      let ov ← eval (.Name x p) X.env
      standAt apos.atName
      let (f, first) ← holding [ov] (getMethod ov m pl)
      callWith pos f first (backTo pos (starEach (e :: es) X.env)) (backToKw pos (keywordEach [] X.env))) := by rfl) :
    DE X Er (.Call (.Attribute (.Name x p) m apos) (e :: es) [] pos) (tCall (spD K mg n g) [] E ta) (ownE g fa) := by
  subst hK; subst hG
  exact ⟨pe_clsCall hg T.g T.ga T.rd T.at_ T.kp F hr T.b hx ha.pe hd hs hpl ht, dr_own he hn ha.rd⟩
end
end DL

set_option maxHeartbeats 1000000
/-! DY7: a loop over an own call whose arguments read owned lists; a new list made of what owned lists hold. -/
namespace DL
open PySem PySem.Spec L2
open PyProof.Rows hiding St
variable [Mem]
theorem noListA_all {W F : Hp} {K : PySem.W.Frag} (hW : ∀ v d, noList d = true → Dp K W v d → Dp K F v d) : ∀ (ds : List D) (vs : List V), noListA ds = true → DpAll K W vs ds → DpAll K F vs ds
  | [], _, _, h => by cases h; exact .nil
  | d :: ds, _, n, h => by
    cases h with
    | cons h1 h2 =>
      rw [noListA, Bool.and_eq_true] at n
      exact .cons (hW _ d n.1 h1) (noListA_all hW ds _ n.2 h2)
def newB (w : List Sh) (i : Nat) (f : AF) : SF := fun ρ => runR (f (hidO w ρ)) ρ fun ds => if noListA ds = true then .nx (ρ.set i (some (.list ds))) else .bad
def forO (w : List Sh) (fa : AF) (g : List D → R D) (tgf : TGF) (body : SF) (ks : List Nat) : SF := fun ρ => runR (fa (hidO w ρ)) ρ fun ds => if noListA ds = true then runR (g ds) ρ fun d => (match seqOf d with
  | some xs => forL tgf body ks xs (killE ρ ks)
  | none => .bad) else .bad
section
variable {X : Cx} {Er : ErT} {s0 : Sh} {wl w w1 w2 w' : List Sh} {t u : TS} {f g : SF} {te : TE} {ta : TA} {tt : TT} {K : PySem.W.Frag} {st : Stmt} {rest sts : List Stmt} {pos : Pos}
theorem runNV {fr : Fr} {F H : Hp} {σ : St} {ρ : Env} {Dn : Ends} {fe : AF} {k : List D → Out} {Q : VK} (hw : sh w 0 = s0) (h : DRn K Er te fe) (st : SR K fr w F H σ ρ) (p : PostS K fr s0 wl w' F Er (runR (fe (hidO w ρ)) ρ k) Dn)
    (q : ∀ ds p vs F1 H1, Same F F1 → SR K fr w F1 H1 σ ρ → H1 p = none → (noListA ds = true → DpAll K F1 vs ds) → PostS K fr s0 wl w' F1 Er (k ds) Dn → Q (.ref p) (upd H1 p (.lst vs))) : te σ H Q := by
  obtain ⟨W, s1, s2, env, fin⟩ := st.view
  refine h W H σ _ _ s2 env ?_
  cases e : fe (hidO w ρ) with
  | ok d =>
    rw [e, runR_ok] at p
    intro W' H' gr a vs ha dv
    obtain ⟨F', s3, st', hd⟩ := fin W' H' gr
    exact q d a vs F' H' s3 st' ha (fun n => noListA_all hd d vs n dv) (PostS.mono p s3)
  | err c =>
    rw [e] at p
    intro W' H' gr
    obtain ⟨F', s3, st', _⟩ := fin W' H' gr
    exact p σ F' H' w hw st'
  | bad => rw [e] at p; exact p
theorem drs_newB {i : Nat} {fe : AF} (hw : sh w 0 = s0) (hi : i < w.length) (h : DRn K Er te fe) : DRs K Er s0 wl w (w.set i .ls) (tAsg te (gName i)) (newB w i fe) := fun fr F H σ ρ Dn st p =>
  runNV (te := te) hw h st p fun ds a vs F1 H1 s1 st1 ha dv p1 => by
    by_cases n : noListA ds = true
    · rw [if_pos n] at p1
      exact p1 _ F1 _ (same_refl _) (st1.set_ls ha (dv n) hi)
    · rw [if_neg n] at p1
      exact p1.elim
theorem s_newB (i : Nat) {x : Str} {e : Expr} {pos' : Pos} {fe : AF} (hN : X.N.Nodup) (h : DN X Er e te fe) (hi : X.N[i]? = some x := by rfl) (hx : Loc X.env.scope x := by first | exact Or.inl rfl | exact Or.inr rfl) (hl : i < w.length := by decide) (hw : sh w 0 = s0 := by rfl) (hs : swapsWith e (some (.Name x pos')) pos.line X.env = pure false := by rfl) (hf : X.fn x = true ∨ X.env.scope.names.lookup x = some .local := by first | exact .inl rfl | exact .inr rfl | assumption) :
    D1 X Er s0 wl w (.Assign [.Name x pos'] e pos) (w.set i .ls) (tAsg te (gName i)) (newB w i fe) := ⟨ps_set hN hi hx h.pe hs hf, drs_newB hw hl h.rd⟩
theorem d_newLcB {i : Nat} {fe : AF} (h : PS X st (tAsg te (gName i)) ∧ DRn X.K Er te fe) (hl : i < w.length := by decide) (hw : sh w 0 = s0 := by rfl) : D1 X Er s0 wl w st (w.set i .ls) (tAsg te (gName i)) (newB w i fe) := ⟨h.1, drs_newB hw hl h.2⟩
/-- for .. in m(..), the arguments read owned lists -/
theorem d_forO (K : PySem.W.Frag) {tg : Expr} {body : List Stmt} {g : TG} {tgf : TGF} {js ks : List Nat} {tb' : TS} {fb : SF} {mg : Str → Option Value} {CX : CXT} {k n : Nat} {f : Addr} {fd : FuncData} {ps : List Str} {gm : List D → R D} {E : XK} {x : Str} {p cpos : Pos} {e : Expr} {es : List Expr} {fa : AF}
    (hp : PassesOwn (model X.prog X.w) X.A X.env X.xe) (hc : X.calm = true)
    (F0 : FnOk X.prog X.w K mg X.base CX k f fd ps (spD K mg n gm)) (hr : Room k X.A) (hgl : Gl X x) (hm : mg x = some (.ref f)) (hk : PySem.W.keepIn K (.ref f) = true) (hbi : Binds K fd ps []) (hx : Passes CX X E)
    (he : ∀ c H', Er c H' → erX mg E c H') (ha : DA X Er (e :: es) ta fa) (hn : ∀ ρ ds, fa ρ = .ok ds → ds.length = n)
    (hg : TG1 X tg g tgf js) (hj : ∀ j ∈ js, sh w j = .fz)
    (hb : DS X Er s0 w w body w tb' fb) (hw : sh w 0 = s0 := by rfl) (hd : (x == ("__debug__" : Str)) = false := by decide) (hse : starEach (e :: es) X.env = (false, eval e X.env) :: starEach es X.env := by rfl) (hpl : (backTo cpos (starEach es X.env)).any (·.1) = false := by rfl)
    (hK : X.K = K := by rfl) (hG : X.mg = mg := by rfl)
    (hs : ∀ y, foldedSetIterable (.Call (.Name x p) (e :: es) [] cpos) X.env y = pure y := by intro _; rfl) :
    D1 X Er s0 wl w (.For tg (.Call (.Name x p) (e :: es) [] cpos) body [] pos) w (tFor (iSeq K (tCall (spD K mg n gm) [] E ta)) g tb') (forO w fa gm tgf fb ks) := by
  subst hK; subst hG
  refine ⟨ps_for hp hc (pi_seq (pe_call F0 hr hgl hm hk hbi .nil hx ha.pe hd hse hpl)) hg.pg hb.ps hs, fun fr F H σ ρ Dn st p => ?_⟩
  obtain ⟨W, s1, s2, env, fin⟩ := st.view
  refine ha.rd W H σ _ _ s2 env ?_
  unfold forO at p
  cases e1 : fa (hidO w ρ) with
  | err c =>
    rw [e1] at p
    intro W' H' gr
    obtain ⟨F', s3, st', _⟩ := fin W' H' gr
    exact p σ F' H' w hw st'
  | bad => rw [e1] at p; exact p
  | ok as =>
  rw [e1, runR_ok] at p
  intro W' H' gr vs dvs
  obtain ⟨F0', s3, st0, hdrop⟩ := fin W' H' gr
  by_cases nl : noListA as = true
  case neg => rw [if_neg nl] at p; exact p.elim
  rw [if_pos nl] at p
  rw [List.append_nil]
  have dvs' := noListA_all hdrop as vs nl dvs
  refine ⟨by rw [dpAll_len dvs']; exact hn _ as e1, ‹Mem›, F0', as, st0.fh, dqAll_of dvs', ?_⟩
  have p := PostS.mono p s3
  cases e2 : gm as with
  | bad => rw [e2] at p; exact p
  | err c =>
    rw [e2] at p
    exact fun F' H'' g => he c H'' (p σ F' H'' w hw (st0.grow g))
  | ok d =>
  rw [e2, runR_ok] at p
  intro F1 H1 gr1 v dv
  have hx : ∃ ds J, seqOf d = some ds ∧ DIt X.K J F1 ds ∧ ∃ a, v = .ref a ∧ (((∃ xs, SqL X.K H1 a xs) ∧ J = Itl X.K a) ∨ ((∃ xs, SqT X.K H1 a xs) ∧ J = Itt X.K a)) := by
    cases dv with
    | lst h1 h2 => exact ⟨_, _, rfl, dit_list h1 h2, _, rfl, .inl ⟨⟨_, same_seqL gr1.fh.s h1⟩, rfl⟩⟩
    | tup h1 h2 => exact ⟨_, _, rfl, dit_tup h1 h2, _, rfl, .inr ⟨⟨_, same_seqT gr1.fh.s h1⟩, rfl⟩⟩
    | _ => exact p.elim
  obtain ⟨ds, J, e3, dit, a, rfl, hJ⟩ := hx
  rw [e3] at p
  refine ⟨a, rfl, ?_⟩
  rcases hJ with ⟨h1, rfl⟩ | ⟨h1, rfl⟩
  refine .inl ⟨h1, ?_⟩
  rotate_left
  refine .inr ⟨h1, ?_⟩
  all_goals
    refine ⟨fun i m σ H => m = ds.length - i ∧ i ≤ ds.length ∧ ∃ F' ρ, Same F1 F' ∧ SR X.K fr w F' H σ ρ ∧ PostS X.K fr s0 wl w F' Er (forL tgf fb ks (ds.drop i) ρ) Dn, ⟨ds.length, by simp, Nat.zero_le _, F1, _, same_refl _, (st0.grow gr1).kill ks, by simpa using PostS.mono p gr1.ff⟩, ?_⟩
    rintro i m σ2 H2 ⟨rfl, hle, F2, ρ2, s2, st2, p2⟩
    by_cases hlt : i < ds.length
    · refine .inr ⟨dit.go i F2 H2 s2 st2.fh hlt, _, fun σ' H' h => ⟨ds.length - (i + 1), by omega, h⟩, fun x H3 y => ?_⟩
      obtain ⟨d, hd⟩ : ∃ d, ds[i]? = some d := ⟨ds[i], by simp [hlt]⟩
      have hdrop : ds.drop i = d :: ds.drop (i + 1) := by
        obtain ⟨h1, h2⟩ := List.getElem?_eq_some_iff.mp hd
        rw [← h2]
        exact List.drop_eq_getElem_cons hlt
      rw [hdrop] at p2
      obtain ⟨F3, gy, dx⟩ := dit.yld i F2 H2 x H3 d s2 st2.fh hd y
      have st3 := st2.grow gy
      have p3 := PostS.mono p2 gy.ff
      unfold forL at p3
      cases eas : tgf d with
      | none => simp only [eas] at p3; exact p3.elim
      | some as =>
        simp only [eas] at p3
        refine hg.rd F3 H3 x d as σ2 _ gy.fh dx eas fun us hus hjs => ?_
        have st4 := st3.setMany (as := as) (by rw [hjs]; exact hj) hus
        rw [hjs] at st4
        exact hb.rd fr F3 H3 _ _ _ st4 (post_for p3 fun σ' F' H' ρ' s' st' q => ⟨rfl, hlt, F', ρ', same_trans (same_trans s2 gy.ff) s', st', q⟩)
    · have e : i = ds.length := by omega
      subst e
      rw [List.drop_length] at p2
      exact .inl ⟨dit.stop F2 H2 s2 st2.fh, p2 σ2 F2 H2 (same_refl _) st2⟩
end
end DL

set_option maxHeartbeats 1000000
/-! DZ1: min(list of pairs of ints). -/
namespace DL
open PySem PySem.Spec L2
open PyProof.Rows hiding St
def ltI (p q : Int × Int) : Bool := decide (p.1 < q.1 ∨ (p.1 = q.1 ∧ p.2 < q.2))
def minI (p : Int × Int) (ps : List (Int × Int)) : Int × Int := ps.foldl (fun a y => if ltI y a = true then y else a) p
theorem dataLt_pair (p q : Int × Int) : PySem.W.dataLt (pairD p) (pairD q) = ltI p q := by
  have e : ∀ a b : Int, itemLt (Sum.inl a) (Sum.inl b) = decide (a < b) := fun a b => rfl
  have h : PySem.W.dataLt (pairD p) (pairD q) = PyProof.Rows.lexLt itemOrd [Sum.inl 1, Sum.inl p.1, Sum.inl 1, Sum.inl p.2, Sum.inl 0] [Sum.inl 1, Sum.inl q.1, Sum.inl 1, Sum.inl q.2, Sum.inl 0] := rfl
  rw [h]
  have n : PyProof.Rows.lexLt itemOrd [] [] = false := rfl
  rw [lex_cons, lex_cons, lex_cons, lex_cons, lex_cons, n]
  simp only [e]
  unfold ltI
  have h0 : ¬ (1 : Int) < 1 := by decide
  have h00 : ¬ (0 : Int) < 0 := by decide
  simp only [h0, h00, decide_false, Bool.not_false, Bool.true_and, Bool.false_or, Bool.and_false, Bool.or_false]
  by_cases h1 : p.1 < q.1
  · have h2 : p.1 < q.1 ∨ p.1 = q.1 ∧ p.2 < q.2 := .inl h1
    rw [decide_eq_true h1, decide_eq_true h2]
    exact Bool.true_or _
  · by_cases h3 : q.1 < p.1
    · have h2 : ¬ (p.1 < q.1 ∨ p.1 = q.1 ∧ p.2 < q.2) := by omega
      rw [decide_eq_false h1, decide_eq_true h3, decide_eq_false h2]
      rfl
    · rw [decide_eq_false h1, decide_eq_false h3]
      simp only [Bool.false_or, Bool.not_false, Bool.true_and]
      exact decide_eq_decide.mpr (by omega)
theorem minD_pairs (p : Int × Int) (ps : List (Int × Int)) : PySem.W.minD (pairD p) (ps.map pairD) = pairD (minI p ps) := by
  unfold PySem.W.minD minI
  induction ps generalizing p with
  | nil => rfl
  | cons q ps ih =>
    rw [List.map_cons, List.foldl_cons, List.foldl_cons, dataLt_pair]
    split
    · exact ih q
    · exact ih p
def rMinP (K : PySem.W.Frag) : List V → Hp → VK → Prop := fun vs H Q => ∃ (a : Addr) (xs : List V) (p : Int × Int) (ps : List (Int × Int)), vs = [V.ref a] ∧ SqL K H a xs ∧ DpAll K H xs ((p :: ps).map pairD) ∧ ∀ (i : Nat) (v : V), xs[i]? = some v → (p :: ps)[i]? = some (minI p ps) → Q v H
theorem depth_pairs : ∀ ps : List (Int × Int), PyData.depthAll (ps.map pairD) ≤ 1
  | [] => Nat.zero_le _
  | p :: ps => by
    rw [List.map_cons]
    show max (PyData.depth (pairD p)) (PyData.depthAll (ps.map pairD)) ≤ 1
    have : PyData.depth (pairD p) = 1 := rfl
    have := depth_pairs ps
    omega
theorem lay_pairs : ∀ ps : List (Int × Int), PyData.canLayAll0 (ps.map pairD) = true
  | [] => rfl
  | p :: ps => by
    rw [List.map_cons]
    show (PyData.canLay0 (pairD p) && PyData.canLayAll0 (ps.map pairD)) = true
    rw [lay_pairs ps]
    rfl
theorem cr_minP {X : Cx} (hu : X.A.units + 16 < cLine) (hc : X.calm = true) : CallR X (.builtin "min") (rMinP X.K) := by
  intro pins s σ H vs us Q I r h
  obtain ⟨a, xs, p, ps, rfl, hs, hd, q⟩ := h
  obtain ⟨its, rv, hl, hz⟩ := I.list hs
  rw [Vals.ref1 r]
  obtain ⟨as, hr⟩ := Dp.readsAll I _ _ its (hd.old (lay_pairs (p :: ps))) rv
  have hal : PySem.W.AlikeAll ((p :: ps).map pairD) := ⟨fun x hx y hy => by
    obtain ⟨x, _, rfl⟩ := List.mem_map.mp hx
    obtain ⟨y, _, rfl⟩ := List.mem_map.mp hy
    rfl, fun x hx => by
    obtain ⟨x, _, rfl⟩ := List.mem_map.mp hx
    exact fun z => by cases z⟩
  have hdp := depth_pairs (p :: ps)
  refine PySem.W.min_list_data (vs := its.toArray) (x := pairD p) (xs := ps.map pairD) (I.ok.hd hc) hl.isList hr hal (by have : PyData.depthAll (pairD p :: ps.map pairD) ≤ 1 := hdp; omega) fun i v h' tk bs hv hR hk => ?_
  have hv : its[i]? = some v := by simpa using hv
  obtain ⟨hi, hie⟩ := List.getElem?_eq_some_iff.mp hv
  have hxl : i < xs.length := by rw [rv.length]; exact hi
  have hdl := dpAll_len hd
  obtain ⟨d, hdi⟩ : ∃ d, ((p :: ps).map pairD)[i]? = some d := ⟨_, List.getElem?_eq_getElem (by omega)⟩
  obtain ⟨x, hx, dx⟩ := dpAll_get hd hdi
  have rx : RelV x v := by
    obtain ⟨u, hu1, hu2⟩ := Vals.get rv hx
    rw [hv] at hu1
    cases hu1
    exact hu2
  have hcl : d.canLay0 = true := by
    obtain ⟨y, _, rfl⟩ := List.mem_map.mp (List.mem_of_getElem? hdi)
    rfl
  obtain ⟨bs2, hR2⟩ := Dp.reads I d x v (dx.old hcl) rx
  rw [minD_pairs] at hR
  have e : d = pairD (minI p ps) := (SeqAt.readOf_eq hcl (Reads.keeps hk hR2)).symm.trans (SeqAt.readOf_eq (by rfl) hR)
  rw [List.getElem?_map] at hdi
  obtain ⟨y, hy, rfl⟩ := Option.map_eq_some_iff.mp hdi
  have ey : y = minI p ps := by
    have e1 : pairD y = pairD (minI p ps) := e
    unfold pairD at e1
    simp only [PyData.tuple.injEq, List.cons.injEq, PyData.int.injEq, and_true] at e1
    exact Prod.ext e1.1 e1.2
  rw [ey] at hy
  exact ⟨x, H, I.kept hk, rx, q i x hx hy⟩
section
variable [Mem]
def minL : List D → Option D
  | [.list ds] => match pairsOf' ds with
    | some (p :: ps) => some (pairD (minI p ps))
    | _ => none
  | _ => none
theorem cg_minP (K : PySem.W.Frag) : CallG K (rMinP K) minL := by
  intro F H vs ds d Q s h e k
  match ds, h, e with
  | [.list xs], .cons (.lst h1 h2) .nil, e =>
    simp only [minL] at e
    split at e
    · rename_i p ps z
      cases e
      have e2 : xs = (p :: ps).map pairD := pairsOf_eq z
      subst e2
      refine ⟨_, _, p, ps, rfl, same_seqL s.s h1, dpAll_mono s.s _ _ h2, fun i v hv hi => ?_⟩
      obtain ⟨d, hd, dv⟩ := dpAll_get' h2 hv
      rw [List.getElem?_map, hi] at hd
      cases hd
      exact k _ F H (.refl s) dv
    · cases e
theorem kminP (K : PySem.W.Frag) {X : Cx} (hu : X.A.units + 16 < cLine) (hc : X.calm = true := by rfl) (hK : X.K = K := by rfl) : CallR X (.builtin "min") (rMinP K) := by subst hK; exact cr_minP hu hc
end
end DL

set_option maxHeartbeats 1000000
/-! DZ2: objects made, any class with a memo. -/
namespace DL
open PySem PySem.Spec L2
open PyProof.Rows hiding St
/-- the heap H2 holds the object d at a, made over Hd -/
def Laid (P : Program) (w : World) (K : PySem.W.Frag) (cn : Str) (G : D → D → R D) (ns : List Str) (C a dx : Addr) (d : D) (F' Hd H2 : Hp) : Prop :=
  ∃ (M' : Mem) (F2 : Hp) (fs : List (Str × V)), Same F' F2 ∧ Same Hd H2 ∧ (∀ b, F2 b ≠ none → Hd b ≠ none → F' b ≠ none) ∧ (∀ b, M'.is b → Hd b = none) ∧ @Wf M' F2 H2 ∧ @ObQ M' K F2 (.ref a) d ∧ @MemV M' P w K cn G ∧
    H2 a = some (.ins C dx fs) ∧ ∀ f : Str, f ≠ ("known" : Str) → f ∉ ns → fs.lookup f = none
/-- the promise of an __init__ -/
def spMk (P : Program) (w : World) (K : PySem.W.Frag) (cn : Str) (G : D → D → R D) (ns : List Str) (C : Addr) (new : List D → R D) : Sp := fun vs H Q _ =>
  ∃ (M : Mem) (F H1 : Hp) (us : List V) (ds : List D) (a dx : Addr) (d : D), vs = .ref a :: us ∧ H1 a = none ∧ H1 dx = none ∧ dx ≠ a ∧ H = upd (upd H1 dx (.own a)) a (.ins C dx []) ∧ Wf F H1 ∧ DpAll K F us ds ∧ new ds = .ok d ∧
    ∀ F' Hd H2, Grow F H1 F' Hd → Laid P w K cn G ns C a dx d F' Hd H2 → Q .non H2
/-- C(..).m(..) -/
def mkmG (m : Str) (ns : List Str) (new : List D → R D) (fa fb : AF) (gm : List D → R D) : EF := fun ρ => if plainE ρ = true then ((fa ρ).noErr.bind fun ds => (new ds).noErr).bind fun d => if m ≠ ("known" : Str) ∧ m ∉ ns then (fb ρ).noErr.bind fun es => gm (d :: es) else .bad else .bad
def mkG (w : List Sh) (i : Nat) (new : List D → R D) (fa : AF) : SF := fun ρ => if (fzAll w && plainE ρ) = true then runR ((fa ρ).noErr.bind fun ds => (new ds).noErr) ρ fun d => .nx (ρ.set i (some d)) else .bad
section
variable {X : Cx} {Er : ErT} {ta tb : TA} {pos : Pos}
theorem dr_mkmG [M : Mem] {C : Addr} {cn m : Str} {ns : List Str} {fa fb : AF} {new : List D → R D} {G : D → D → R D} {gm : List D → R D} {n : Nat} {E E' : XK} (ha : DRa X.K (fun _ _ => False) ta fa) (hb : ∀ [Mem], DRq X.K (fun _ _ => False) tb fb) (hn : ∀ ρ ds, fb ρ = .ok ds → ds.length + 1 = n) (he : ∀ c H', Er c H' → erX X.mg E c H') :
    DRd X.K Er (tMeth C m (spW X.prog X.w X.K X.mg cn G n gm) [] E (tMake C (spMk X.prog X.w X.K cn G ns C new) [] E' ta) tb) (mkmG m ns new fa fb gm) := by
  intro F H σ ρ Q s st q
  unfold mkmG at q
  by_cases hp : plainE ρ = true
  case neg => rw [if_neg hp] at q; exact q.elim
  rw [if_pos hp] at q
  refine ha F H σ ρ _ s st ?_
  cases er : fa ρ with
  | err c => rw [er] at q; exact q.elim
  | bad => rw [er] at q; exact q.elim
  | ok ds =>
  rw [er] at q
  simp only [ne_ok', R.bind_ok] at q
  intro F1 H1 g1 vs dvs a dx hxn hdn hne
  cases en : new ds with
  | err c => rw [en] at q; exact q.elim
  | bad => rw [en] at q; exact q.elim
  | ok d =>
  rw [en] at q
  simp only [ne_ok', R.bind_ok] at q
  by_cases hm : m ≠ ("known" : Str) ∧ m ∉ ns
  case neg => rw [if_neg hm] at q; exact q.elim
  rw [if_pos hm] at q
  rw [List.append_nil]
  refine ⟨M, F1, H1, vs, ds, a, dx, d, rfl, hxn, hdn, hne, rfl, g1.fh, dvs, en, fun F' Hd H2 gr ld => ?_⟩
  obtain ⟨M', F2, fs, s1, s2, nw, hk, wf2, ob, hv, hH, hl⟩ := ld
  letI : Mem := M
  refine ⟨rfl, a, dx, fs, rfl, hH, hl m hm.1 hm.2, ?_⟩
  refine @hb M' F2 H2 σ ρ _ wf2 (envR_plain (M := M) st hp (same_trans (same_trans g1.ff gr.ff) s1)) ?_
  cases eb : fb ρ with
  | err c => rw [eb] at q; exact q.elim
  | bad => rw [eb] at q; exact q.elim
  | ok es =>
  rw [eb] at q
  simp only [ne_ok', R.bind_ok] at q
  intro F3 H3 g3 us dus
  rw [List.append_nil]
  have l1 := @dqAll_len M' _ _ _ _ dus
  have l2 := hn ρ es eb
  have tot : ∀ {F4 H4 : Hp}, @Grow M' F3 H3 F4 H4 → Grow F H F4 H4 := fun {F4 H4} g4 =>
    g1.trans (gr.trans (grow_leave (M := M) (M' := M') gr.fh hk s1 s2 nw (@Grow.trans M' _ _ _ _ _ _ g3 g4)))
  refine ⟨by simp; omega, M', F3, d :: es, hv, @Grow.fh M' _ _ _ _ g3, ⟨@dq_mono M' _ _ _ (@Grow.ff M' _ _ _ _ g3) _ _ (.inr (.inr (.inr (.inl ob)))), dus⟩, ?_⟩
  cases em : gm (d :: es) with
  | bad => rw [em] at q; exact q.elim
  | err c => rw [em] at q; exact fun F4 H4 g4 => he c H4 (q F4 H4 (tot g4))
  | ok r => rw [em] at q; exact fun F4 H4 g4 => q F4 H4 (tot g4)
theorem de_mkmG [M : Mem] {pl : Sem Bool} {CX CX' : CXT} {k k' : Nat} {fi fm C : Addr} {fd fd' : FuncData} {ps ps' : List Str} {E E' : XK} {cn cx m : Str} {ns : List Str} {p p' apos : Pos} {e e2 : Expr} {es es2 : List Expr} {fa fb : AF} {new : List D → R D} {G : D → D → R D} {gm : List D → R D} {n : Nat}
    (c : Cls X.K C) (M0 : Mk X.K C fi) (F0 : FnOk X.prog X.w X.K X.mg X.base CX k fi fd ps (spMk X.prog X.w X.K cn G ns C new)) (hr : Room (k + 1) X.A) (hg : Gl X cx) (hm : X.mg cx = some (.ref C)) (hb : Binds X.K fd ps []) (hx : Passes CX X E')
    (ha : DA X (fun _ _ => False) (e :: es) ta fa) (hme : Meth X.K C m fm) (F1 : FnOk X.prog X.w X.K X.mg X.base CX' k' fm fd' ps' (spW X.prog X.w X.K X.mg cn G n gm)) (hr' : Room k' X.A) (hb' : Binds X.K fd' ps' []) (hx' : Passes CX' X E) (he : ∀ c H', Er c H' → erX X.mg E c H')
    (hbq : ∀ [Mem], DAq X (fun _ _ => False) (e2 :: es2) tb fb) (hn : ∀ ρ ds, fb ρ = .ok ds → ds.length + 1 = n)
    (hdb : (cx == ("__debug__" : Str)) = false := by decide) (hs1 : starEach (e :: es) X.env = (false, eval e X.env) :: starEach es X.env := by rfl) (hpl1 : (backTo p' (starEach es X.env)).any (·.1) = false := by rfl)
    (hst : starEach (e2 :: es2) X.env = (false, eval e2 X.env) :: starEach es2 X.env := by rfl) (hpl : (backTo pos (starEach es2 X.env)).any (·.1) = false := by rfl)
    (ht : eval (.Call (.Attribute (.Call (.Name cx p) (e :: es) [] p') m apos) (e2 :: es2) [] pos) X.env = (do
      let ov ← eval (.Call (.Name cx p) (e :: es) [] p') X.env
      standAt apos.atName
      let (f, first) ← holding [ov] (getMethod ov m pl)
      callWith pos f first (backTo pos (starEach (e2 :: es2) X.env)) (backToKw pos (keywordEach [] X.env))) := by exact mcall_of (abase_callA (by decide)) fun _ => rfl) :
    DE X Er (.Call (.Attribute (.Call (.Name cx p) (e :: es) [] p') m apos) (e2 :: es2) [] pos) (tMeth C m (spW X.prog X.w X.K X.mg cn G n gm) [] E (tMake C (spMk X.prog X.w X.K cn G ns C new) [] E' ta) tb) (mkmG m ns new fa fb gm) :=
  ⟨pe_meth (pe_make M0 F0 hr hg hm hb .nil hx ha.pe hdb hs1 hpl1) c hme F1 hr' hb' .nil hx' hbq.pe hst hpl ht, dr_mkmG ha.rd (@fun M' => daq_rd M' (@hbq M')) hn he⟩
end
section
variable {X : Cx} {Er : ErT} {s0 : Sh} {wl w w' : List Sh} {ta : TA} {t : TS} {f : SF} {pos : Pos}
theorem ds_mkG [M : Mem] {CX : CXT} {k : Nat} {fi C : Addr} {fd : FuncData} {ps : List Str} {E : XK} {cn x cx : Str} {ns : List Str} {i : Nat} {p p' pn : Pos} {e : Expr} {es : List Expr} {rest : List Stmt} {fa : AF} {new : List D → R D} {G : D → D → R D}
    (M0 : Mk X.K C fi) (F0 : FnOk X.prog X.w X.K X.mg X.base CX k fi fd ps (spMk X.prog X.w X.K cn G ns C new)) (hr : Room (k + 1) X.A) (hg : Gl X cx) (hm : X.mg cx = some (.ref C)) (hb : Binds X.K fd ps []) (hx : Passes CX X E)
    (hN : X.N.Nodup) (hi : X.N[i]? = some x) (hxl : Loc X.env.scope x) (ha : DA X (fun _ _ => False) (e :: es) ta fa)
    (hrest : ∀ [Mem], MemV X.prog X.w X.K cn G → DS X Er .fz wl (w.set i .fz) rest w' t f) (hw0 : s0 = .fz)
    (hdb : (cx == ("__debug__" : Str)) = false := by decide) (he : starEach (e :: es) X.env = (false, eval e X.env) :: starEach es X.env := by rfl) (hpl : (backTo p' (starEach es X.env)).any (·.1) = false := by rfl)
    (hs : swapsWith (.Call (.Name cx p) (e :: es) [] p') (some (.Name x pn)) pos.line X.env = pure false := by rfl) (hf : X.fn x = true ∨ X.env.scope.names.lookup x = some .local := by first | exact .inl rfl | exact .inr rfl) :
    DS X Er s0 wl w (.Assign [.Name x pn] (.Call (.Name cx p) (e :: es) [] p') pos :: rest) w' (tSeq (tAsg (tMake C (spMk X.prog X.w X.K cn G ns C new) [] E ta) (gName i)) t) (seqS (mkG w i new fa) (endS f)) := by
  subst hw0
  refine ⟨pss_cons (ps_set hN hi hxl (pe_make M0 F0 hr hg hm hb .nil hx ha.pe hdb he hpl) hs hf) (ds_ps (memK X.prog X.w X.K (G .none) .none 0) (@hrest (memK X.prog X.w X.K (G .none) .none 0) memK_v)), fun fr F H σ ρ Dn st q => ?_⟩
  unfold seqS mkG at q
  by_cases hc : (fzAll w && plainE ρ) = true
  case neg => rw [if_neg hc] at q; exact q.elim
  rw [if_pos hc] at q
  simp only [Bool.and_eq_true] at hc
  obtain ⟨hfz, hpn⟩ := hc
  have env := st.envA
  rw [fz_hid hfz] at env
  refine ha.rd F H σ ρ _ st.fh env ?_
  cases er : fa ρ with
  | err c => rw [er] at q; exact q.elim
  | bad => rw [er] at q; exact q.elim
  | ok ds =>
  rw [er] at q
  simp only [ne_ok', R.bind_ok] at q
  intro F1 H1 g1 vs dvs a dx hxn hdn hne
  cases en : new ds with
  | err c => rw [en] at q; exact q.elim
  | bad => rw [en] at q; exact q.elim
  | ok d =>
  rw [en] at q
  simp only [ne_ok', R.bind_ok, runR_ok, then_nx] at q
  have st1 := st.grow g1
  rw [List.append_nil]
  refine ⟨M, F1, H1, vs, ds, a, dx, d, rfl, hxn, hdn, hne, rfl, g1.fh, dvs, en, fun F' Hd H2 gr ld => ?_⟩
  obtain ⟨M', F2, fs, sF2, s2, nw, hk, wf2, ob, hv, hH, hl⟩ := ld
  letI : Mem := M
  refine ⟨rfl, ?_⟩
  have st2 := st1.grow gr
  have hle : ∀ j, sh (w.set i .fz) j = .fz := fun j => by
    by_cases hj : i = j
    · subst hj; exact sh_set_fz
    · rw [sh_set_ne hj]; exact fzAll_ok hfz j
  have back : ∀ {w'' : List Sh} {σ' : St} {F'' H'' : Hp} {ρ'' : Env}, @SR M' X.K ⟨F', Hd⟩ w'' F'' H'' σ' ρ'' → SR X.K fr w'' F'' H'' σ' (List.replicate ρ''.length none) := fun {w'' σ' F'' H'' ρ''} z => by
    obtain ⟨gM, hl⟩ := @sr_grow M' _ _ _ _ _ _ _ z
    have gL := grow_leave (M := M) (M' := M') gr.fh hk (same_refl _) (same_refl _) (fun _ h _ => h) gM
    exact @sr_end M _ _ w _ _ _ σ _ ρ _ (st2.grow gL) (by rw [List.length_replicate]; exact hl) fun i d => rep_none
  refine ds_rd M' (@hrest M' hv) ⟨F', Hd⟩ F2 _ _ (ρ.set i (some d)) Dn ?_ ?_
  · refine ⟨fun _ => emp, @StR.mk M' _ _ _ _ _ _ _ _ wf2 (@sameM_of M' _ _ s2) sF2 nw (fun i a o z => (by cases z)) (fun i a z => absurd rfl z) (fun j d ej => ?_) (by simpa using st2.len) (fun i a z => absurd rfl z)⟩
    rw [hle j]
    rcases env_set ej with ⟨rfl, rfl, hv⟩ | ⟨ne, ej⟩
    · exact ⟨.ref a, by rw [List.getElem?_set_self (by rw [← st2.len]; exact hv)], .inr (.inr (.inr (.inl ob)))⟩
    · obtain ⟨os, s⟩ := st2
      obtain ⟨v, y1, y2⟩ := s.sl j d ej
      rw [fzAll_ok hfz j] at y2
      exact ⟨v, by rw [List.getElem?_set_ne ne]; exact y1, .inl (dp_mono sF2 _ _ (plain_dp hpn ej y2))⟩
  · have hq : PostS X.K fr .fz wl w' F Er (endS f (ρ.set i (some d))) Dn := q
    unfold endS at hq
    cases ef : f (ρ.set i (some d)) with
    | rt d' ρ'' =>
      rw [ef] at hq
      exact fun σ' F'' H'' v w'' hw'' z dv => hq σ' F'' H'' v w'' hw'' (back z) dv
    | err c ρ'' =>
      rw [ef] at hq
      exact fun σ' F'' H'' w'' hw'' z => hq σ' F'' H'' w'' hw'' (back z)
    | nx ρ'' => rw [ef] at hq; exact hq.elim
    | bk ρ'' => rw [ef] at hq; exact hq.elim
    | bad => rw [ef] at hq; exact hq.elim
end
end DL

set_option maxHeartbeats 2000000
/-! DZ3: an object that holds a counter: its __init__. -/
namespace DL
open PySem PySem.Spec L2
open PyProof.Rows hiding St
def menF (v2 v3 : V) (a2 kad : Addr) : List (Str × V) := [("counter", .ref a2), ("laid", v2), ("weights", v3), ("known", .ref kad)]
def menD (cn : Str) (c L W : D) : D := objD cn [("counter", c), ("laid", L), ("weights", W)]
def newM (cn cn2 : Str) (fa : AF) (gI : D → R (D × D)) : List D → R D
  | [T, L, W] => (fa [none, some T, some L, some W]).noErr.bind fun ds => newO cn2 gI ds |>.bind fun c => .ok (menD cn c L W)
  | _ => .bad
@[reducible] def memM (P : Program) (w : World) (K : PySem.W.Frag) (G : D → R D) (d0 : D) (kad : Addr) (d2 : D) (kad2 : Addr) : Mem where
  is := fun a => a = kad
  good := fun F k o => memGood P w K G F k o
  mono := memGood_mono
  drop := memGood_drop
  lk := fun d k => (d = d0 ∧ k = kad) ∨ (d = d2 ∧ k = kad2)
theorem memM_v {P : Program} {w : World} {K : PySem.W.Frag} {G : D → D → R D} {cn cn2 : Str} {kvs0 kvs2 : List (Str × D)} {kad kad2 : Addr} (hne : cn ≠ cn2) : @MemV (memM P w K (G (objD cn kvs0)) (objD cn kvs0) kad (objD cn2 kvs2) kad2) P w K cn G := fun kvs k h => by
  rcases h with ⟨e1, e2⟩ | ⟨e1, e2⟩
  · subst e2
    rw [e1]
    exact ⟨rfl, fun _ _ => .rfl⟩
  · exact absurd (objD_inj e1).1 hne
/-- the heap behind C2(..) and the fields -/
theorem men_laid {P : Program} {w : World} {K : PySem.W.Frag} {cn cn2 : Str} {G : D → D → R D} {C C2 a dx a2 dx2 kad kad2 : Addr} {F1 F' H3 Hd Hf : Hp} {v2 v3 u1 u2 vp vc : V} {L W T Gd pl c : D} (hcn : cn ≠ cn2) (hC : PySem.W.nsIn K mainGlobals cn = some (some (.ref C))) (hC2 : PySem.W.nsIn K mainGlobals cn2 = some (some (.ref C2)))
    (wf : Same F' H3) (d2 : Dp K F' v2 L) (d3 : Dp K F' v3 W) (e1 : Dp K F' u1 T) (e2 : Dp K F' u2 Gd) (e3 : Dp K F' vp pl) (e4 : Dp K F' vc c)
    (Fa : F' a = none) (Fdx : F' dx = none) (Fdx2 : F' dx2 = none) (ha2 : H3 a2 = none) (hk2 : H3 kad2 = none) (hk : H3 kad = none) (ha : H3 a = some (.ins C dx [])) (hdx : H3 dx = some (.own a)) (hdx2 : H3 dx2 = some (.own a2)) (n1 : kad2 ≠ a2) (n2 : kad ≠ a2) (n3 : kad ≠ kad2) (n4 : a ≠ dx) (n5 : a ≠ dx2) (n6 : dx ≠ dx2)
    (hHd : Hd = remH (remH (remH H3 dx2) a) dx)
    (hHf : Hf = upd (upd (upd (upd H3 a2 (.ins C2 dx2 (ctrF u1 u2 vp vc kad2))) kad2 (dN P w kad2 [])) a (.ins C dx (menF v2 v3 a2 kad))) kad (dN P w kad [])) :
    Laid P w K cn G ["counter", "laid", "weights"] C a dx (menD cn (ctrD cn2 T Gd pl c) L W) F' Hd Hf := by
  have m1 : a ≠ a2 := fun z => by rw [z, ha2] at ha; cases ha
  have m2 : a ≠ kad2 := fun z => by rw [z, hk2] at ha; cases ha
  have m3 : a ≠ kad := fun z => by rw [z, hk] at ha; cases ha
  have m4 : dx ≠ a2 := fun z => by rw [z, ha2] at hdx; cases hdx
  have m5 : dx ≠ kad2 := fun z => by rw [z, hk2] at hdx; cases hdx
  have m6 : dx ≠ kad := fun z => by rw [z, hk] at hdx; cases hdx
  have m7 : dx2 ≠ a2 := fun z => by rw [z, ha2] at hdx2; cases hdx2
  have m8 : dx2 ≠ kad2 := fun z => by rw [z, hk2] at hdx2; cases hdx2
  have m9 : dx2 ≠ kad := fun z => by rw [z, hk] at hdx2; cases hdx2
  have Fa2 : F' a2 = none := none_of_same wf ha2
  have Fk : F' kad = none := none_of_same wf hk
  obtain ⟨F4, hF4⟩ : ∃ F4, F4 = upd (upd (upd (upd F' a (.ins C dx (menF v2 v3 a2 kad))) dx (.own a)) a2 (.ins C2 dx2 (ctrF u1 u2 vp vc kad2))) dx2 (.own a2) := ⟨_, rfl⟩
  have q1 : F4 a = some (.ins C dx (menF v2 v3 a2 kad)) := by rw [hF4, upd_ne n5, upd_ne m1, upd_ne n4, upd_same]
  have q2 : F4 dx = some (.own a) := by rw [hF4, upd_ne n6, upd_ne m4, upd_same]
  have q3 : F4 a2 = some (.ins C2 dx2 (ctrF u1 u2 vp vc kad2)) := by rw [hF4, upd_ne (Ne.symm m7), upd_same]
  have q4 : F4 dx2 = some (.own a2) := by rw [hF4, upd_same]
  have q5 : ∀ b, b ≠ a → b ≠ dx → b ≠ a2 → b ≠ dx2 → F4 b = F' b := fun b z1 z2 z3 z4 => by rw [hF4, upd_ne z4, upd_ne z3, upd_ne z2, upd_ne z1]
  have r1 : Hf a = some (.ins C dx (menF v2 v3 a2 kad)) := by rw [hHf, upd_ne m3, upd_same]
  have r2 : Hf dx = some (.own a) := by rw [hHf, upd_ne m6, upd_ne (Ne.symm n4), upd_ne m5, upd_ne m4, hdx]
  have r3 : Hf a2 = some (.ins C2 dx2 (ctrF u1 u2 vp vc kad2)) := by rw [hHf, upd_ne (Ne.symm n2), upd_ne (Ne.symm m1), upd_ne (Ne.symm n1), upd_same]
  have r4 : Hf dx2 = some (.own a2) := by rw [hHf, upd_ne m9, upd_ne (Ne.symm n5), upd_ne m8, upd_ne m7, hdx2]
  have r5 : Hf kad = some (dN P w kad []) := by rw [hHf, upd_same]
  have r6 : ∀ b, b ≠ a → b ≠ a2 → b ≠ kad → b ≠ kad2 → Hf b = H3 b := fun b z1 z2 z3 z4 => by rw [hHf, upd_ne z3, upd_ne z1, upd_ne z4, upd_ne z2]
  have sF : Same F' F4 := fun b o e => by
    rw [q5 b (ne_of_none e Fa) (ne_of_none e Fdx) (ne_of_none e Fa2) (ne_of_none e Fdx2)]; exact e
  have h0 : ∀ b o, Hd b = some o → b ≠ dx ∧ b ≠ a ∧ b ≠ dx2 ∧ H3 b = some o := fun b o e => by
    rw [hHd] at e
    by_cases z1 : b = dx
    · rw [z1, remH_same] at e; cases e
    · rw [remH_ne z1] at e
      by_cases z2 : b = a
      · rw [z2, remH_same] at e; cases e
      · rw [remH_ne z2] at e
        by_cases z3 : b = dx2
        · rw [z3, remH_same] at e; cases e
        · rw [remH_ne z3] at e
          exact ⟨z1, z2, z3, e⟩
  have sH : Same Hd Hf := fun b o e => by
    obtain ⟨z1, z2, z3, e⟩ := h0 b o e
    rw [r6 b z2 (ne_of_none e ha2) (ne_of_none e hk) (ne_of_none e hk2)]; exact e
  have sFH : Same F4 Hf := fun b o e => by
    by_cases z1 : b = a
    · rw [z1, q1] at e; rw [z1, r1]; exact e
    · by_cases z2 : b = dx
      · rw [z2, q2] at e; rw [z2, r2]; exact e
      · by_cases z3 : b = a2
        · rw [z3, q3] at e; rw [z3, r3]; exact e
        · by_cases z4 : b = dx2
          · rw [z4, q4] at e; rw [z4, r4]; exact e
          · rw [q5 b z1 z2 z3 z4] at e
            have e' := wf b o e
            rw [r6 b z1 z3 (ne_of_none e' hk) (ne_of_none e' hk2)]; exact e'
  refine ⟨memM P w K (G (menD cn (ctrD cn2 T Gd pl c) L W)) (menD cn (ctrD cn2 T Gd pl c) L W) kad (ctrD cn2 T Gd pl c) kad2, F4, menF v2 v3 a2 kad, sF, sH, fun b y1 y2 => ?_, fun b z => ?_, ?_, ?_, memM_v hcn, r1, ?_⟩
  · cases e : Hd b with
    | none => exact absurd e y2
    | some o =>
      obtain ⟨z1, z2, z3, e⟩ := h0 b o e
      rw [← q5 b z2 z1 (ne_of_none e ha2) z3]; exact y1
  · have z : b = kad := z
    rw [z]
    cases e : Hd kad with
    | none => rfl
    | some o => obtain ⟨_, _, _, e⟩ := h0 kad o e; rw [hk] at e; cases e
  · refine @Wf.mk (memM P w K (G (menD cn (ctrD cn2 T Gd pl c) L W)) (menD cn (ctrD cn2 T Gd pl c) L W) kad (ctrD cn2 T Gd pl c) kad2) _ _ sFH fun b z => ?_
    have z : b = kad := z
    rw [z]
    exact ⟨by rw [q5 kad (Ne.symm m3) (Ne.symm m6) n2 (Ne.symm m9)]; exact Fk, _, r5, [], rfl, List.nodup_nil, fun x hx => (nomatch hx)⟩
  · refine ⟨a, menF v2 v3 a2 kad, cn, _, rfl, rfl, ⟨kad, by rfl, .inl ⟨rfl, rfl⟩⟩, ⟨⟨C, dx, hC, q1, q2⟩⟩, fun p hp => ?_, fun f h1 h2 => ?_⟩
    · simp only [List.mem_cons, List.not_mem_nil, or_false] at hp
      rcases hp with rfl | rfl | rfl
      · refine ⟨.ref a2, by rfl, .inr ⟨a2, ctrF u1 u2 vp vc kad2, cn2, _, rfl, rfl, ⟨kad2, by rfl, .inr ⟨rfl, rfl⟩⟩, ⟨⟨C2, dx2, hC2, q3, q4⟩⟩, fun p hp => ?_, fun f h1 h2 => ?_⟩⟩
        · simp only [List.mem_cons, List.not_mem_nil, or_false] at hp
          rcases hp with rfl | rfl | rfl | rfl
          · exact ⟨u1, rfl, dp_mono sF _ _ e1⟩
          · exact ⟨u2, rfl, dp_mono sF _ _ e2⟩
          · exact ⟨vp, rfl, dp_mono sF _ _ e3⟩
          · exact ⟨vc, rfl, dp_mono sF _ _ e4⟩
        · simp only [List.map_cons, List.map_nil, List.mem_cons, List.not_mem_nil, or_false, not_or] at h2
          obtain ⟨n1, n2, n3, n4⟩ := h2
          have b : ∀ x : Str, f ≠ x → (f == x) = false := fun x h => beq_eq_false_iff_ne.mpr h
          simp only [ctrF, List.lookup_cons, b _ n1, b _ n2, b _ n3, b _ n4, b _ h1]
          rfl
      · exact ⟨v2, rfl, .inl (dp_mono sF _ _ d2)⟩
      · exact ⟨v3, rfl, .inl (dp_mono sF _ _ d3)⟩
    · simp only [List.map_cons, List.map_nil, List.mem_cons, List.not_mem_nil, or_false, not_or] at h2
      obtain ⟨k1, k2, k3⟩ := h2
      have b : ∀ x : Str, f ≠ x → (f == x) = false := fun x h => beq_eq_false_iff_ne.mpr h
      simp only [menF, List.lookup_cons, b _ k1, b _ k2, b _ k3, b _ h1]
      rfl
  · intro f h1 h2
    simp only [List.mem_cons, List.not_mem_nil, or_false, not_or] at h2
    obtain ⟨k1, k2, k3⟩ := h2
    have b : ∀ x : Str, f ≠ x → (f == x) = false := fun x h => beq_eq_false_iff_ne.mpr h
    simp only [menF, List.lookup_cons, b _ k1, b _ k2, b _ k3, b _ h1]
    rfl
end DL

set_option maxHeartbeats 2000000
/-! DZ4: its __init__, walked. -/
namespace DL
open PySem PySem.Spec L2
open PyProof.Rows hiding St
def tInitM (X : Cx) (P : Program) (w : World) (C2 : Addr) (gI : D → R (D × D)) (E2 : XK) (ta : TA) : TS := tSeq (sFld X.K (tVar 0) (tMake C2 (spI P w X.K C2 gI) [] E2 ta) "counter") (tSeq (sFld X.K (tVar 0) (tVar 2) "laid") (tSeq (sFld X.K (tVar 0) (tVar 3) "weights") (sFld X.K (tVar 0) (tDNewN X) "known")))
section
variable {P : Program} {w : World} {K : PySem.W.Frag} {mg : Str → Option Value} {base : Heap}
theorem env4 [Mem] {F : Hp} {v0 v1 v2 v3 : V} {T L W : D} (h1 : Dp K F v1 T) (h2 : Dp K F v2 L) (h3 : Dp K F v3 W) : EnvR K F [some v0, some v1, some v2, some v3] [none, some T, some L, some W] := ⟨fun i d e => by
  match i, e with
  | 0, e => cases e
  | 1, e => cases e; exact ⟨v1, rfl, .inl h1⟩
  | 2, e => cases e; exact ⟨v2, rfl, .inl h2⟩
  | 3, e => cases e; exact ⟨v3, rfl, .inl h3⟩
  | i + 4, e => simp at e, rfl⟩
theorem init_okM {qual : Str} {st : Stmt} {f C C2 : Addr} {fd : FuncData} {N : List Str} {k : Nat} {fa : AF} {gI : D → R (D × D)} {E2 : XK} {cn cn2 : Str} {G : D → D → R D} (Fn : Fun K "__init__" qual st f fd) (S : FnScope N ["self", "tiles", "floor", "weights"] (defScope st)) (hN : N.length = 4) (hcl : Cls K C) (hna : ∀ f ∈ (["counter", "laid", "weights", "known"] : List Str), NoAttr K C f)
    (hcn : cn ≠ cn2) (hC : PySem.W.nsIn K mainGlobals cn = some (some (.ref C))) (hC2 : PySem.W.nsIn K mainGlobals cn2 = some (some (.ref C2)))
    (body : ∀ [Mem] (cdv : Value) (A : Around) (outer : List PySem.Env) (s : Shared) (H : Hp) (E : XK), Room k (A.deeper (envOfC qual (defScope st) s.heap.objs.size f cdv)) →
      ∃ ta, PSs (cxOf (L2.CX P w) P w K mg base N qual (defScope st) f cdv A outer s H E) (defBody st) (tInitM (cxOf (L2.CX P w) P w K mg base N qual (defScope st) f cdv A outer s H E) P w C2 gI E2 ta) ∧ DRa K ErN ta fa) :
    FnOk P w K mg base (L2.CX P w) (k + 1) f fd ["self", "tiles", "floor", "weights"] (spMk P w K cn G ["counter", "laid", "weights"] C (newM cn cn2 fa gI)) := by
  have two : ∀ {ds : List D} {d : D}, newM cn cn2 fa gI ds = .ok d → ∃ T L W T' Gd pc, ds = [T, L, W] ∧ fa [none, some T, some L, some W] = .ok [T', Gd] ∧ gI Gd = .ok pc ∧ d = menD cn (ctrD cn2 T' Gd pc.1 pc.2) L W := by
    intro ds d h
    match ds, h with
    | [T, L, W], h =>
      simp only [newM] at h
      cases e1 : fa [none, some T, some L, some W] with
      | err c => rw [e1] at h; cases h
      | bad => rw [e1] at h; cases h
      | ok es =>
        rw [e1] at h
        simp only [ne_ok', R.bind_ok] at h
        match es, h, e1 with
        | [T', Gd], h, e1 =>
          simp only [newO] at h
          cases e2 : gI Gd with
          | err c => rw [e2] at h; cases h
          | bad => rw [e2] at h; cases h
          | ok pc =>
            rw [e2] at h
            simp only [ne_ok', R.bind_ok] at h
            cases h
            exact ⟨T, L, W, T', Gd, pc, rfl, e1, e2, rfl⟩
  have len3 : ∀ {F : Hp} {us : List V} {T L W : D}, DpAll K F us [T, L, W] → ∃ v1 v2 v3, us = [v1, v2, v3] ∧ Dp K F v1 T ∧ Dp K F v2 L ∧ Dp K F v3 W := by
    intro F us T L W h
    cases h with
    | cons h1 h =>
      cases h with
      | cons h2 h =>
        cases h with
        | cons h3 h => cases h; exact ⟨_, _, _, rfl, h1, h2, h3⟩
  refine Fn.okX S (fun vs H Q E h => by
    obtain ⟨_, _, _, us, ds, _, _, d, rfl, _, _, _, _, _, du, en, _⟩ := h
    obtain ⟨T, L, W, _, _, _, rfl, _⟩ := two en
    obtain ⟨_, _, _, rfl, _⟩ := len3 du
    rfl) (fun cdv A outer s H vs Q E hr h => ?_)
  obtain ⟨M, F, H1, us, ds, a, dx, d, rfl, ha, hdx, hne, rfl, wf, dus, en, q⟩ := h
  obtain ⟨T, L, W, T', Gd, pc, rfl, efa, eg, rfl⟩ := two en
  obtain ⟨v1, v2, v3, rfl, d1, d2, d3⟩ := len3 dus
  obtain ⟨ta, hp, ra⟩ := body cdv A outer s (upd (upd H1 dx (.own a)) a (.ins C dx [])) E hr
  refine ⟨_, hp, ?_⟩
  have hσ : L2.start N [.ref a, v1, v2, v3] = [some (.ref a), some v1, some v2, some v3] := by
    unfold L2.start
    simp [hN]
  rw [hσ]
  have n1 := hna "counter" (by simp)
  have n2 := hna "laid" (by simp)
  have n3 := hna "weights" (by simp)
  have n4 := hna "known" (by simp)
  have wb : Wf F (upd H1 dx (.own a)) := wf.upd hdx
  have hba : upd H1 dx (.own a) a = none := by rw [upd_ne (Ne.symm hne)]; exact ha
  have wba := wb.upd (o := HO.ins C dx []) hba
  have na : ¬ Mem.is a := wb.no hba
  have nd : ¬ Mem.is dx := wf.no hdx
  refine ra F _ _ [none, some T, some L, some W] _ wba (env4 d1 d2 d3) ?_
  rw [efa]
  intro F2 H2 g2 us2 dus2 a2 dx2 hx2 hd2 hne2
  obtain ⟨u1, u2, rfl, e1, e2⟩ : ∃ u1 u2, us2 = [u1, u2] ∧ Dp K F2 u1 T' ∧ Dp K F2 u2 Gd := by
    cases dus2 with
    | cons h1 h =>
      cases h with
      | cons h2 h => cases h; exact ⟨_, _, rfl, h1, h2⟩
  refine ⟨M, F2, upd H2 dx2 (.own a2), u1, u2, T', Gd, a2, dx2, rfl, by rw [upd_ne (Ne.symm hne2)]; exact hx2, rfl, upd_same, g2.fh.upd hd2, e1, e2, ?_⟩
  rw [eg]
  intro F3 H3 g3 vp vc kad2 e3 e4 hxa2 hk2 hka2
  refine ⟨rfl, ?_⟩
  -- the addresses
  have H2a : H2 a = some (.ins C dx []) := g2.hh a _ na upd_same
  have H2d : H2 dx = some (.own a) := g2.hh dx _ nd (by rw [upd_ne hne]; exact upd_same)
  have nd2 : ¬ Mem.is dx2 := g2.fh.no hd2
  have b1 : a ≠ dx2 := fun z => by rw [z, hd2] at H2a; cases H2a
  have b2 : dx ≠ dx2 := fun z => by rw [z, hd2] at H2d; cases H2d
  have H3a : H3 a = some (.ins C dx []) := g3.hh a _ na (by rw [upd_ne b1]; exact H2a)
  have H3d : H3 dx = some (.own a) := g3.hh dx _ nd (by rw [upd_ne b2]; exact H2d)
  have H3d2 : H3 dx2 = some (.own a2) := g3.hh dx2 _ nd2 upd_same
  have b3 : a ≠ a2 := fun z => by rw [z, hxa2] at H3a; cases H3a
  have b4 : a ≠ kad2 := fun z => by rw [z, hk2] at H3a; cases H3a
  have gh1 := grow_hide g2.fh hd2 g3
  have gh2 := grow_hide wb hba (g2.trans gh1)
  have gh3 := grow_hide wf hdx gh2
  have F3a : F3 a = none := by
    cases z : F3 a with
    | none => rfl
    | some o =>
      have := gh2.nw
      have y1 := g3.nw a (by rw [z]; simp) (by rw [upd_ne b1, H2a]; simp)
      have y2 := g2.nw a y1 (by rw [upd_same]; simp)
      exact absurd (none_of_same wb.s hba) y2
  have F3d : F3 dx = none := by
    cases z : F3 dx with
    | none => rfl
    | some o =>
      have y1 := g3.nw dx (by rw [z]; simp) (by rw [upd_ne b2, H2d]; simp)
      have y2 := g2.nw dx y1 (by rw [upd_ne hne, upd_same]; simp)
      exact absurd (none_of_same wf.s hdx) y2
  have F3d2 : F3 dx2 = none := by
    cases z : F3 dx2 with
    | none => rfl
    | some o =>
      have y1 := g3.nw dx2 (by rw [z]; simp) (by rw [upd_same]; simp)
      exact absurd (none_of_same g2.fh.s hd2) y1
  have sF : Same F F3 := same_trans g2.ff g3.ff
  -- the fields
  obtain ⟨Hm, hHm⟩ : ∃ Hm, Hm = upd (upd H3 a2 (.ins C2 dx2 (ctrF u1 u2 vp vc kad2))) kad2 (dN P w kad2 []) := ⟨_, rfl⟩
  have Hma : Hm a = some (.ins C dx []) := by rw [hHm, upd_ne b4, upd_ne b3]; exact H3a
  show ∃ x, _ ∧ _
  rw [← hHm]
  refine ⟨.ref a, rfl, a, C, dx, [], rfl, Hma, hcl, n1, by simp, ?_⟩
  have f1 : putF "counter" (.ref a2) [] = ([("counter", .ref a2)] : List (Str × V)) := rfl
  rw [f1]
  refine ⟨v2, rfl, .ref a, rfl, a, C, dx, _, rfl, upd_same, hcl, n2, by simp, ?_⟩
  have f2 : putF "laid" v2 [("counter", .ref a2)] = ([("counter", .ref a2), ("laid", v2)] : List (Str × V)) := by
    simp only [putF]
    rw [if_neg (by decide +kernel)]
  rw [f2, upd_upd]
  refine ⟨v3, rfl, .ref a, rfl, a, C, dx, _, rfl, upd_same, hcl, n3, by simp, ?_⟩
  have f3 : putF "weights" v3 [("counter", .ref a2), ("laid", v2)] = ([("counter", .ref a2), ("laid", v2), ("weights", v3)] : List (Str × V)) := by
    simp only [putF]
    rw [if_neg (by decide +kernel), if_neg (by decide +kernel)]
  rw [f3, upd_upd]
  intro kad hk
  have hka : kad ≠ a := fun z => by rw [z, upd_same] at hk; cases hk
  have hkm : Hm kad = none := by rw [upd_ne hka] at hk; exact hk
  have f4 : putF "known" (.ref kad) [("counter", .ref a2), ("laid", v2), ("weights", v3)] = menF v2 v3 a2 kad := by
    simp only [putF]
    rw [if_neg (by decide +kernel), if_neg (by decide +kernel), if_neg (by decide +kernel)]
    rfl
  refine ⟨.ref a, rfl, a, C, dx, [("counter", .ref a2), ("laid", v2), ("weights", v3)], rfl, by rw [upd_ne (Ne.symm hka)]; exact upd_same, hcl, n4, by simp, ?_⟩
  rw [f4, upd_comm hka, upd_upd]
  have k1 : kad ≠ kad2 := fun z => by rw [z, hHm, upd_same] at hkm; cases hkm
  have k2 : kad ≠ a2 := fun z => by rw [hHm, upd_ne k1, z, upd_same] at hkm; cases hkm
  have k3 : H3 kad = none := by rw [hHm, upd_ne k1, upd_ne k2] at hkm; exact hkm
  exact q F3 _ _ gh3 (men_laid (F1 := F3) hcn hC hC2 g3.fh.s (dp_mono sF _ _ d2) (dp_mono sF _ _ d3) (dp_mono g3.ff _ _ e1) (dp_mono g3.ff _ _ e2) e3 e4 F3a F3d F3d2 hxa2 hk2 k3 H3a H3d H3d2 hka2 k2 k1 (Ne.symm hne) b1 b2 rfl (by rw [hHm]; rfl))
end
end DL

set_option maxHeartbeats 1000000
/-! DZ5: a memo whose value is one own method's; fuel of an object that holds a counter. -/
namespace DL
open PySem PySem.Spec L2
open PyProof.Rows hiding St
section
variable [Mem] {X : Cx} {Er : ErT} {s0 : Sh} {wl w w1 w' : List Sh} {xs x1 x2 : Str} {p1 p2 p3 p4 p5 p6 p7 p8 p9 q1 q2 q3 q4 q5 q6 q7 q8 q9 r1 r2 r3 r4 r5 : Pos} {ka kb kc : Nat}
theorem ds_memo1 {cn : Str} {G : D → D → R D} {cond : D → D → Bool} {m : Nat} {tE : TE} {fE : EF} {eE : Expr} (hv : MemV X.prog X.w X.K cn G) (hcl : ∀ C, PySem.W.nsIn X.K mainGlobals cn = some (some (.ref C)) → Cls X.K C ∧ NoAttr X.K C "known") (hu : X.A.units + 64 < cLine)
    (h0 : ∀ p, PE X (.Name xs p) (tVar 0)) (h1 : ∀ p, PE X (.Name x1 p) (tVar 1)) (h2 : ∀ p, PE X (.Name x2 p) (tVar 2)) (hE : DE X Er eE tE fE)
    (hG : ∀ d0 k1 k2, cond d0 (.tuple [k1, k2]) = true → outM (seqS nxS (retS w fE) (some d0 :: some k1 :: some k2 :: List.replicate m none)) = G d0 (.tuple [k1, k2]))
    (hw : ∀ j, j < 3 → sh w j = .fz := by exact fun j _ => fzAll_ok rfl j) (hs0 : s0 = .fz := by rfl)
    (hsw : swapsWith eE (some (.Subscript (.Attribute (.Name xs q1) "known" q2) (.Tuple [.Name x1 q3, .Name x2 q4] kb q5) q6)) q7.line X.env = pure false := by rfl)
    (hbm : behindInMarks .NotIn (.Attribute (.Name xs p5) "known" p6) = false := by rfl)
    (ht : ∀ (a b d : Pos), starEach [.Name x1 a, .Name x2 b] X.env = (false, eval (.Name x1 a) X.env) :: starEach [.Name x2 b] X.env ∧ starEach [.Name x2 d] X.env = (false, eval (.Name x2 d) X.env) :: starEach [] X.env := by intros; exact ⟨rfl, rfl⟩)
    (hb : ∀ p, attributeBase (.Name xs p) "known" X.env (eval (.Name xs p) X.env) = eval (.Name xs p) X.env := by intros; rfl) :
    DS X Er s0 wl w [.If (.Compare (.Tuple [.Name x1 p1, .Name x2 p2] ka p3) [.NotIn] [.Attribute (.Name xs p5) "known" p6] p7)
      [.Assign [.Subscript (.Attribute (.Name xs q1) "known" q2) (.Tuple [.Name x1 q3, .Name x2 q4] kb q5) q6] eE q7] [] p8,
      .Return (some (.Subscript (.Attribute (.Name xs r1) "known" r2) (.Tuple [.Name x1 r3, .Name x2 r4] kc r5) p4)) p9] w'
      (tSeq (tIfS (tB (tNNotIn X tKey (tKnown X.K))) (sNPut X (tKnown X.K) tKey tE) tNext) (tRet (tNGet X (tKnown X.K) tKey))) (memoS cn G cond m) := by
  have hu16 : X.A.units + 16 < cLine := by omega
  have key : ∀ (a b c : Pos) (k : Nat), PE X (.Tuple [.Name x1 a, .Name x2 b] k c) tKey := fun a b c k => pe_tup (pa_cons (h1 a) (pa_cons (h2 b) pa_nil (ht a b b).2) (ht a b b).1)
  have kn : ∀ (a b : Pos), PE X (.Attribute (.Name xs a) "known" b) (tKnown X.K) := fun a b => pe_fld (h0 a) (hb a)
  exact ⟨pss_cons (ps_if (pt_cmp (pc_nnotin hu16 (key _ _ _ _) (kn _ _)) hbm) (pss_one (ps_nput hu16 (kn _ _) (key _ _ _ _) hE.pe hsw)) pss_nil) (pss_one (ps_ret (pe_nget hu16 (kn _ _) (key _ _ _ _) (fun _ _ => rfl)))), dr_memo (tA := tNext) (fA := nxS) hv hcl hw hw hs0 (fun fr F H σ ρ Dn st p => p σ F H (same_refl _) st) hE.rd (fun ρ => ⟨rfl, fun j hj => rfl⟩) hG⟩
end
/-! fuel: how many places are left, of the counter in the field h -/
def lenM (h f : Str) (d0 : D) : Nat := match objOf d0 with
  | some (_, kvs) => (match kvs.lookup h with
    | some d => lenP f d
    | none => 0)
  | none => 0
def fuelM (h f : Str) (d0 k1 : D) : Nat := match k1 with
  | .int i => lenM h f d0 - i.toNat
  | _ => 0
def condM (h f : Str) (j : Nat) (d0 kd : D) : Bool := match kd with
  | .tuple [k1, _] => decide (fuelM h f d0 k1 = j)
  | _ => false
def gwAllM (h f : Str) (gw : Nat → D → D → R D) (d0 kd : D) : R D := match kd with
  | .tuple [k1, _] => gw (fuelM h f d0 k1) d0 kd
  | _ => .bad
theorem memo_fuelM {f h cn : Str} {gw : Nat → D → D → R D} {j m : Nat} : memoS cn (gwAllM h f gw) (condM h f j) m = memoS cn (gw j) (condM h f j) m := by
  funext ρ
  match ρ with
  | some d0 :: some k1 :: some k2 :: r =>
    simp only [memoS]
    by_cases hh : condM h f j d0 (.tuple [k1, k2]) = true
    · have e : fuelM h f d0 k1 = j := by simpa [condM] using hh
      simp only [gwAllM, e]
    · have hh : condM h f j d0 (.tuple [k1, k2]) = false := by simpa using hh
      simp only [hh, Bool.and_false, Bool.false_and, memoO]
      rfl
  | [] => rfl
  | [some _] => rfl
  | [none] => rfl
  | [some _, some _] => rfl
  | [some _, none] => rfl
  | [none, _] => rfl
  | none :: _ :: _ :: _ => rfl
  | some _ :: none :: _ :: _ => rfl
  | some _ :: some _ :: none :: _ => rfl

end DL

set_option maxHeartbeats 1000000
/-! DZ6: short forms. -/
namespace DL
open PySem PySem.Spec L2
open PyProof.Rows hiding St
theorem kmkmG (K : PySem.W.Frag) (mg : Str → Option Value) [M : Mem] {X : Cx} {Er : ErT} {ta tb : TA} {pos : Pos} {pl : Sem Bool} {CX CX' : CXT} {k k' : Nat} {fi fm : Addr} {fd fd' : FuncData} {ps ps' : List Str} {E E' : XK} {x m : Str} {fl : List Str} {p p' apos : Pos} {e e2 : Expr} {es es2 : List Expr} {fa fb : AF} {new : List D → R D} {ns : List Str} {G : D → D → R D} {gm : List D → R D} {n : Nat}
    (T : KlI K mg x fl) (M0 : Mk K T.C fi) (F0 : FnOk X.prog X.w K mg X.base CX k fi fd ps (spMk X.prog X.w K x G ns T.C new)) (hr : Room (k + 1) X.A) (hg : Gl X x) (hb : Binds K fd ps []) (hx : Passes CX X E')
    (ha : DA X ErN (e :: es) ta fa) (hme : Meth K T.C m fm) (F1 : FnOk X.prog X.w K mg X.base CX' k' fm fd' ps' (spW X.prog X.w K mg x G n gm)) (hr' : Room k' X.A) (hb' : Binds K fd' ps' []) (hx' : Passes CX' X E) (he : ∀ c H', Er c H' → erX mg E c H')
    (hbq : ∀ [Mem], DAq X ErN (e2 :: es2) tb fb) (hn : ∀ ρ ds, fb ρ = .ok ds → ds.length + 1 = n) (hK : X.K = K := by rfl) (hG : X.mg = mg := by rfl)
    (hdb : (x == ("__debug__" : Str)) = false := by decide) (hs1 : starEach (e :: es) X.env = (false, eval e X.env) :: starEach es X.env := by rfl) (hpl1 : (backTo p' (starEach es X.env)).any (·.1) = false := by rfl)
    (hst : starEach (e2 :: es2) X.env = (false, eval e2 X.env) :: starEach es2 X.env := by rfl) (hpl : (backTo pos (starEach es2 X.env)).any (·.1) = false := by rfl)
    (ht : eval (.Call (.Attribute (.Call (.Name x p) (e :: es) [] p') m apos) (e2 :: es2) [] pos) X.env = (do
      let ov ← eval (.Call (.Name x p) (e :: es) [] p') X.env
      standAt apos.atName
      let (f, first) ← holding [ov] (getMethod ov m pl)
      callWith pos f first (backTo pos (starEach (e2 :: es2) X.env)) (backToKw pos (keywordEach [] X.env))) := by exact mcall_of (abase_callA (by decide)) fun _ => rfl) :
    DE X Er (.Call (.Attribute (.Call (.Name x p) (e :: es) [] p') m apos) (e2 :: es2) [] pos) (tMeth T.C m (spW X.prog X.w K mg x G n gm) [] E (tMake T.C (spMk X.prog X.w K x G ns T.C new) [] E' ta) tb) (mkmG m ns new fa fb gm) := by
  subst hK; subst hG
  exact de_mkmG T.cl M0 F0 hr hg T.m hb hx ha hme F1 hr' hb' hx' he hbq hn hdb hs1 hpl1 hst hpl ht
theorem kds_mkG (K : PySem.W.Frag) (mg : Str → Option Value) [M : Mem] {X : Cx} {Er : ErT} {s0 : Sh} {wl w w' : List Sh} {ta : TA} {t : TS} {f : SF} {pos : Pos} {CX : CXT} {k : Nat} {fi : Addr} {fd : FuncData} {ps : List Str} {E : XK} {cx x : Str} {fl : List Str} (i : Nat) {p p' pn : Pos} {e : Expr} {es : List Expr} {rest : List Stmt} {fa : AF} {new : List D → R D} {ns : List Str} {G : D → D → R D}
    (T : KlI K mg cx fl) (M0 : Mk K T.C fi) (F0 : FnOk X.prog X.w K mg X.base CX k fi fd ps (spMk X.prog X.w K cx G ns T.C new)) (hr : Room (k + 1) X.A) (hg : Gl X cx) (hb : Binds K fd ps []) (hx : Passes CX X E)
    (hN : X.N.Nodup) (ha : DA X ErN (e :: es) ta fa) (hrest : ∀ [Mem], MemV X.prog X.w K cx G → DS X Er .fz wl (w.set i .fz) rest w' t f) (hw0 : s0 = .fz := by rfl)
    (hi : X.N[i]? = some x := by rfl) (hxl : Loc X.env.scope x := by first | exact Or.inl rfl | exact Or.inr rfl) (hK : X.K = K := by rfl) (hG : X.mg = mg := by rfl)
    (hdb : (cx == ("__debug__" : Str)) = false := by decide) (he : starEach (e :: es) X.env = (false, eval e X.env) :: starEach es X.env := by rfl) (hpl : (backTo p' (starEach es X.env)).any (·.1) = false := by rfl)
    (hs : swapsWith (.Call (.Name cx p) (e :: es) [] p') (some (.Name x pn)) pos.line X.env = pure false := by rfl) (hf : X.fn x = true ∨ X.env.scope.names.lookup x = some .local := by first | exact .inl rfl | exact .inr rfl) :
    DS X Er s0 wl w (.Assign [.Name x pn] (.Call (.Name cx p) (e :: es) [] p') pos :: rest) w' (tSeq (tAsg (tMake T.C (spMk X.prog X.w K cx G ns T.C new) [] E ta) (gName i)) t) (seqS (mkG w i new fa) (endS f)) := by
  subst hK; subst hG
  exact ds_mkG M0 F0 hr hg T.m hb hx hN hi hxl ha hrest hw0 hdb he hpl hs hf
section
variable [Mem] {X : Cx} {e : Expr} {ta : TA} {P : Program} {w : World} {C2 : Addr} {gI : D → R (D × D)} {E2 : XK} {xs x2 x3 : Str} {a1 a2 a3 a4 b1 b2 b3 b4 c2 c3 c4 d1 d2 d3 d4 : Pos}
theorem ps_initM (hm : PE X e (tMake C2 (spI P w X.K C2 gI) [] E2 ta)) (h0 : ∀ p, PE X (.Name xs p) (tVar 0)) (h2 : ∀ p, PE X (.Name x2 p) (tVar 2)) (h3 : ∀ p, PE X (.Name x3 p) (tVar 3))
    (s1 : swapsWith e (some (.Attribute (.Name xs a1) "counter" b1)) d1.line X.env = pure false := by rfl) (s2 : swapsWith (.Name x2 c2) (some (.Attribute (.Name xs a2) "laid" b2)) d2.line X.env = pure false := by rfl) (s3 : swapsWith (.Name x3 c3) (some (.Attribute (.Name xs a3) "weights" b3)) d3.line X.env = pure false := by rfl)
    (s4 : swapsWith (.Dict [] [] c4) (some (.Attribute (.Name xs a4) "known" b4)) d4.line X.env = pure false := by rfl) :
    PSs X [.Assign [.Attribute (.Name xs a1) "counter" b1] e d1, .Assign [.Attribute (.Name xs a2) "laid" b2] (.Name x2 c2) d2, .Assign [.Attribute (.Name xs a3) "weights" b3] (.Name x3 c3) d3, .Assign [.Attribute (.Name xs a4) "known" b4] (.Dict [] [] c4) d4] (tInitM X P w C2 gI E2 ta) :=
  pss_cons (ps_fld (h0 _) hm s1) (pss_cons (ps_fld (h0 _) (h2 _) s2) (pss_cons (ps_fld (h0 _) (h3 _) s3) (pss_one (ps_fld (h0 _) pe_dnewN s4))))
end
theorem kpe_make (K : PySem.W.Frag) (mg : Str → Option Value) {X : Cx} {CX : CXT} {k : Nat} {fi : Addr} {fd : FuncData} {ps : List Str} {E : XK} {x : Str} {fl : List Str} {p pos : Pos} {e : Expr} {es : List Expr} {sp : Sp} {t : TA} (T : KlI K mg x fl) (M0 : Mk K T.C fi) (F0 : FnOk X.prog X.w K mg X.base CX k fi fd ps sp) (hr : Room (k + 1) X.A) (hg : Gl X x) (hb : Binds K fd ps []) (hx : Passes CX X E)
    (ha : PA X (e :: es) t) (hK : X.K = K := by rfl) (hG : X.mg = mg := by rfl) (hdb : (x == ("__debug__" : Str)) = false := by decide) (he : starEach (e :: es) X.env = (false, eval e X.env) :: starEach es X.env := by rfl) (hpl : (backTo pos (starEach es X.env)).any (·.1) = false := by rfl) :
    PE X (.Call (.Name x p) (e :: es) [] pos) (tMake T.C sp [] E t) := by
  subst hK; subst hG
  exact pe_make M0 F0 hr hg T.m hb .nil hx ha hdb he hpl
theorem ps_initMk (K : PySem.W.Frag) (mg : Str → Option Value) {P : Program} {w : World} [Mem] {X : Cx} {CX : CXT} {k : Nat} {fi : Addr} {fd : FuncData} {ps : List Str} {E2 : XK} {x : Str} {fl : List Str} {p pos : Pos} {e : Expr} {es : List Expr} {ta : TA} {fa : AF} {gI : D → R (D × D)} {xs x2 x3 : Str} {a1 a2 a3 a4 b1 b2 b3 b4 c2 c3 c4 d1 d2 d3 d4 : Pos}
    (T : KlI K mg x fl) (M0 : Mk K T.C fi) (F0 : FnOk X.prog X.w K mg X.base CX k fi fd ps (spI P w K T.C gI)) (hr : Room (k + 1) X.A) (hg : Gl X x) (hb : Binds K fd ps []) (hx : Passes CX X E2) (ha : DA X ErN (e :: es) ta fa)
    (h0 : ∀ p, PE X (.Name xs p) (tVar 0)) (h2 : ∀ p, PE X (.Name x2 p) (tVar 2)) (h3 : ∀ p, PE X (.Name x3 p) (tVar 3)) (hK : X.K = K := by rfl) (hG : X.mg = mg := by rfl)
    (hdb : (x == ("__debug__" : Str)) = false := by decide) (he : starEach (e :: es) X.env = (false, eval e X.env) :: starEach es X.env := by rfl) (hpl : (backTo pos (starEach es X.env)).any (·.1) = false := by rfl)
    (s1 : swapsWith (.Call (.Name x p) (e :: es) [] pos) (some (.Attribute (.Name xs a1) "counter" b1)) d1.line X.env = pure false := by rfl) (s2 : swapsWith (.Name x2 c2) (some (.Attribute (.Name xs a2) "laid" b2)) d2.line X.env = pure false := by rfl) (s3 : swapsWith (.Name x3 c3) (some (.Attribute (.Name xs a3) "weights" b3)) d3.line X.env = pure false := by rfl)
    (s4 : swapsWith (.Dict [] [] c4) (some (.Attribute (.Name xs a4) "known" b4)) d4.line X.env = pure false := by rfl) :
    PSs X [.Assign [.Attribute (.Name xs a1) "counter" b1] (.Call (.Name x p) (e :: es) [] pos) d1, .Assign [.Attribute (.Name xs a2) "laid" b2] (.Name x2 c2) d2, .Assign [.Attribute (.Name xs a3) "weights" b3] (.Name x3 c3) d3, .Assign [.Attribute (.Name xs a4) "known" b4] (.Dict [] [] c4) d4] (tInitM X P w T.C gI E2 ta) ∧ DRa K ErN ta fa := by
  subst hK; subst hG
  exact ⟨ps_initM (pe_make M0 F0 hr hg T.m hb .nil hx ha.pe hdb he hpl) h0 h2 h3 s1 s2 s3 s4, ha.rd⟩
/-- o.m(), m uses the memo -/
theorem kmethW0 [Mem] {X : Cx} {Er : ErT} {te : TE} {e : Expr} {fe : EF} {pos : Pos} (K : PySem.W.Frag) (mg : Str → Option Value) {P : Program} {w : World} {pl : Sem Bool} {CX : CXT} {k : Nat} {fd : FuncData} {ps : List Str} {E : XK} {x m : Str} {fl : List Str} {f : Addr} {G : D → D → R D} {g : List D → R D} {apos : Pos} (T : KlI K mg x fl) (hv : MemV P w K x G) (h : DEq X Er e te fe) (hm : Meth K T.C m f)
    (F : FnOk P w K mg X.base CX k f fd ps (spW P w K mg x G 1 g)) (hr : Room k X.A) (hb : Binds K fd ps []) (hx : Passes CX X E) (he : ∀ c H', Er c H' → erX mg E c H')
    (hK : X.K = K := by rfl) (hG : X.mg = mg := by rfl) (hP : X.prog = P := by rfl) (hW : X.w = w := by rfl)
    (ht : eval (.Call (.Attribute e m apos) [] [] pos) X.env = (do
      let ov ← eval e X.env
      standAt apos.atName
      let (f, first) ← holding [ov] (getMethod ov m pl)
      callWith pos f first (backTo pos (starEach [] X.env)) (backToKw pos (keywordEach [] X.env))) := by rfl) :
    DE X Er (.Call (.Attribute e m apos) [] [] pos) (tMeth T.C m (spW P w K mg x G 1 g) [] E te tNil) (methE x m g fe nilA) := by
  subst hK; subst hG; subst hP; subst hW
  exact ⟨pe_meth0 h.pe T.cl hm F hr hb .nil hx ht, dr_methW hv T.n he (fun ρ ds e => by cases e; rfl) h.rd (daq_nil (X := X)).rd⟩
end DL

set_option maxHeartbeats 1000000
/-! DZ7: min(list of ints). -/
namespace DL
open PySem PySem.Spec L2
open PyProof.Rows hiding St
theorem dataLt_int (a b : Int) : PySem.W.dataLt (.int a) (.int b) = decide (a < b) := by
  have e : ∀ a b : Int, itemLt (Sum.inl a) (Sum.inl b) = decide (a < b) := fun a b => rfl
  have h : PySem.W.dataLt (.int a) (.int b) = PyProof.Rows.lexLt itemOrd [Sum.inl a] [Sum.inl b] := rfl
  have n : PyProof.Rows.lexLt itemOrd [] [] = false := rfl
  rw [h, lex_cons, n]
  simp only [e]
  by_cases h1 : a < b
  · rw [decide_eq_true h1]
    exact Bool.true_or _
  · rw [decide_eq_false h1]
    simp
theorem minD_ints (n : Int) (ns : List Int) : PySem.W.minD (.int n) (ns.map .int) = .int (ns.foldl min n) := by
  unfold PySem.W.minD
  induction ns generalizing n with
  | nil => rfl
  | cons q ns ih =>
    rw [List.map_cons, List.foldl_cons, List.foldl_cons, dataLt_int]
    split
    · rename_i h
      have h := of_decide_eq_true h
      rw [Int.min_eq_right (by omega)]
      exact ih q
    · rename_i h
      have h : ¬ q < n := fun z => h (decide_eq_true z)
      rw [Int.min_eq_left (by omega)]
      exact ih n
def rMinN (K : PySem.W.Frag) : List V → Hp → VK → Prop := fun vs H Q => ∃ (a : Addr) (xs : List V) (n : Int) (ns : List Int), vs = [V.ref a] ∧ SqL K H a xs ∧ DpAll K H xs ((n :: ns).map .int) ∧ Q (.int (ns.foldl min n)) H
theorem depth_ints : ∀ ns : List Int, PyData.depthAll (ns.map .int) ≤ 1
  | [] => Nat.zero_le _
  | p :: ps => by
    rw [List.map_cons]
    show max (PyData.depth (.int p)) (PyData.depthAll (ps.map .int)) ≤ 1
    have : PyData.depth (.int p) = 0 := rfl
    have := depth_ints ps
    omega
theorem lay_ints : ∀ ps : List Int, PyData.canLayAll0 (ps.map .int) = true
  | [] => rfl
  | p :: ps => by
    rw [List.map_cons]
    show (PyData.canLay0 (.int p) && PyData.canLayAll0 (ps.map .int)) = true
    rw [lay_ints ps]
    rfl
theorem cr_minN {X : Cx} (hu : X.A.units + 16 < cLine) (hc : X.calm = true) : CallR X (.builtin "min") (rMinN X.K) := by
  intro pins s σ H vs us Q I r h
  obtain ⟨a, xs, p, ps, rfl, hs, hd, q⟩ := h
  obtain ⟨its, rv, hl, hz⟩ := I.list hs
  rw [Vals.ref1 r]
  obtain ⟨as, hr⟩ := Dp.readsAll I _ _ its (hd.old (lay_ints (p :: ps))) rv
  have hal : PySem.W.AlikeAll ((p :: ps).map .int) := ⟨fun x hx y hy => by
    obtain ⟨x, _, rfl⟩ := List.mem_map.mp hx
    obtain ⟨y, _, rfl⟩ := List.mem_map.mp hy
    rfl, fun x hx => by
    obtain ⟨x, _, rfl⟩ := List.mem_map.mp hx
    exact fun z => by cases z⟩
  have hdp := depth_ints (p :: ps)
  refine PySem.W.min_list_data (vs := its.toArray) (x := .int p) (xs := ps.map .int) (I.ok.hd hc) hl.isList hr hal (by have : PyData.depthAll (.int p :: ps.map .int) ≤ 1 := hdp; omega) fun i v h' tk bs hv hR hk => ?_
  have hv : its[i]? = some v := by simpa using hv
  obtain ⟨hi, hie⟩ := List.getElem?_eq_some_iff.mp hv
  have hxl : i < xs.length := by rw [rv.length]; exact hi
  have hdl := dpAll_len hd
  obtain ⟨d, hdi⟩ : ∃ d : D, ((p :: ps).map PyData.int)[i]? = some d := ⟨_, List.getElem?_eq_getElem (by omega)⟩
  obtain ⟨x, hx, dx⟩ := dpAll_get hd hdi
  have rx : RelV x v := by
    obtain ⟨u, hu1, hu2⟩ := Vals.get rv hx
    rw [hv] at hu1
    cases hu1
    exact hu2
  have hcl : d.canLay0 = true := by
    obtain ⟨y, _, rfl⟩ := List.mem_map.mp (List.mem_of_getElem? hdi)
    rfl
  obtain ⟨bs2, hR2⟩ := Dp.reads I d x v (dx.old hcl) rx
  rw [minD_ints] at hR
  have e : d = .int (ps.foldl min p) := (SeqAt.readOf_eq hcl (Reads.keeps hk hR2)).symm.trans (SeqAt.readOf_eq (by rfl) hR)
  rw [e] at dx
  cases dx
  exact ⟨_, H, I.kept hk, rx, q⟩
section
variable [Mem]
theorem cg_minN (K : PySem.W.Frag) : CallG K (rMinN K) minLD := by
  intro F H vs ds d Q s h e k
  match ds, h, e with
  | [.list xs], .cons (.lst h1 h2) .nil, e =>
    simp only [minLD] at e
    split at e
    · rename_i p ps z
      cases e
      have e2 := intsOf_eq z
      subst e2
      exact ⟨_, _, p, ps, rfl, same_seqL s.s h1, dpAll_mono s.s _ _ h2, k _ F H (.refl s) (.int _)⟩
    · cases e
theorem kminN (K : PySem.W.Frag) {X : Cx} (hu : X.A.units + 16 < cLine) (hc : X.calm = true := by rfl) (hK : X.K = K := by rfl) : CallR X (.builtin "min") (rMinN K) := by subst hK; exact cr_minN hu hc
end
end DL

set_option maxHeartbeats 1000000
/-! DZ8: break. -/
namespace DL
open PySem PySem.Spec L2
def bkS : SF := fun ρ => .bk ρ
section
variable [Mem] {X : Cx} {Er : ErT} {s0 : Sh} {w w' : List Sh} {pos : Pos}
theorem d_break : D1 X Er s0 w w (.Break pos) w' tBreak bkS := ⟨ps_break, fun fr F H σ ρ Dn st p => p σ F H (same_refl _) st⟩
end
end DL

set_option maxHeartbeats 2000000
/-! DZ9: try: if .. : x = e1 elif .. : x = e2 .. / except C as n: k = n, over data. -/
namespace DL
open PySem PySem.Spec L2
open PyProof.Rows hiding St
section
variable [M : Mem]
/-- the body of a try that gives one name a value -/
structure DKB (X : Cx) (ia : Nat) (body : List Stmt) (tb : WX → TS) (f : EF) : Prop where
  ps : ∀ (W : WX) (pn : List (Addr × Obj)) (xe : Value → Shared → Prop), Takes (X.tr pn xe) W → PSs (X.tr pn xe) body (tb W)
  rd : ∀ (W : WX) F H σ ρ (Dn : Ends), Wf F H → EnvR X.K F σ ρ → Post F H (ErW X.mg W σ) (f ρ) (fun F' H' d => ∀ v, Dp X.K F' v d → Dn.nx (σ.set ia (some v)) H') → tb W Dn σ H
section
variable {X : Cx} {ia : Nat} {xa : Str} {e : Expr} {te : WX → TE} {f : EF} {p4 p5 pos : Pos}
theorem dkb_asg (hN : X.N.Nodup) (hia : X.N[ia]? = some xa) (hla : Loc X.env.scope xa) (h : DK X e te f)
    (hsw : swapsWith e (some (.Name xa p4)) p5.line X.env = pure false := by rfl) (hfa : X.fn xa = true ∨ X.env.scope.names.lookup xa = some .local := by first | exact .inl rfl | exact .inr rfl) :
    DKB X ia [.Assign [.Name xa p4] e p5] (fun W => tAsg (te W) (gName ia)) f :=
  ⟨fun W pn xe tk => pss_one (ps_set (X := X.tr pn xe) hN hia hla (h.pe W pn xe tk) hsw hfa), fun W F H σ ρ Dn s st q => h.rd W F H σ ρ _ s st q⟩
theorem dkb_if {c : Expr} {a b : List Stmt} {tt : TT} {t1 t2 : WX → TS} {fc : TF} {f1 f2 : EF} (hc : ∀ pn xe, DT (X.tr pn xe) (fun _ _ => False) c tt fc) (h : DKB X ia a t1 f1) (h2 : DKB X ia b t2 f2) : DKB X ia [.If c a b pos] (fun W => tIfS tt (t1 W) (t2 W)) (ifK fc f1 f2) := by
  refine ⟨fun W pn xe tk => pss_one (ps_if (hc pn xe).pe (h.ps W pn xe tk) (h2.ps W pn xe tk)), fun W F H σ ρ Dn s st q => ?_⟩
  refine (hc [] fun _ _ => False).rd F H σ ρ _ s st (Post.imp (post_noErr q) fun F1 H1 c g1 p1 => ?_)
  cases c with
  | true => exact h.rd W F1 H1 σ ρ Dn g1.fh (st.mono g1.ff) p1
  | false => exact h2.rd W F1 H1 σ ρ Dn g1.fh (st.mono g1.ff) p1
end
section
variable {X : Cx} {Er : ErT} {s0 : Sh} {wl w : List Sh} {ia ie ik : Nat} {xn xk xc : Str} {cB : Value} {cs : List Str} {body : List Stmt} {tb : WX → TS} {f : EF} {np p1 p2 p3 pos pos' : Pos}
theorem d_tryB (hs : X.stack = X.env :: X.outer) (hf : X.env.frame = some X.env.locals) (hx0 : X.ex = []) (hN : X.N.Nodup) (hc : Names X xc cB) (hcs : ∀ c ∈ cs, Caught X cB c)
    (h : DKB X ia body tb f) (hie : X.N[ie]? = some xn) (hik : X.N[ik]? = some xk) (hln : X.env.kindOf xn = some .local) (hv : Vis X.env.scope xn) (hlk : Loc X.env.scope xk)
    (hw : ∀ i, sh w i = .fz) (hne : ie ≠ ik)
    (hd1 : (xn == ("__debug__" : Str)) = false := by decide) (hd2 : (xn == ("__classdict__" : Str)) = false := by decide)
    (hsk : swapsWith (.Name xn p2) (some (.Name xk p1)) p3.line X.env = pure false := by rfl) (hfk : X.fn xk = true ∨ X.env.scope.names.lookup xk = some .local := by first | exact .inl rfl | exact .inr rfl) :
    D1 X Er s0 wl w (.Try body [.ExceptHandler (some (.Name xc np)) (some xn) [.Assign [.Name xk p1] (.Name xn p2) p3] pos'] [] [] pos) w
      (fun D σ H => tb (wKeep X.K cB ie ik D) D σ H) (tryS w ia ie ik cs f) := by
  refine ⟨ps_try_keep (tb := tb) hs hf hx0 hN hie hln hv hik hlk hc (fun W pn xe tk po => h.ps W pn xe tk) hd1 hd2 hsk hfk, fun fr F H σ ρ Dn st q => ?_⟩
  unfold tryS at q
  by_cases hz : fzAll w = true
  · rw [if_pos hz] at q
    have env := st.envA
    rw [fz_hid hz] at env
    refine h.rd _ F H σ ρ _ st.fh env ?_
    cases ef : f ρ with
    | bad => rw [ef] at q; exact q.elim
    | ok d =>
      rw [ef] at q
      intro F' H' g v dv
      refine q _ F' H' g.ff (((st.grow g).set_fz dv).congr fun j => ?_)
      by_cases hj : ia = j
      · subst hj; rw [sh_set_fz]; exact hw ia
      · rw [sh_set_ne hj]
    | err c =>
      rw [ef] at q
      by_cases hm : c ∈ cs
      · simp only [if_pos hm] at q
        intro F' H' g C hC
        obtain ⟨C', e1, e2, e3⟩ := (hcs c hm).is
        rw [hC] at e1
        cases e1
        refine ⟨rfl, e3, fun a ha => ?_⟩
        have g2 : Grow F' H' (upd F' a (CxO (.ref C) a)) (upd H' a (CxO (.ref C) a)) := Grow.new g.fh ha
        have st2 := (st.grow g).grow g2
        have hq : DQ X.K (upd F' a (CxO (.ref C) a)) (.ref a) (excD c) := .inr (.inr (.inl ⟨c, rfl, a, C, rfl, e2, upd_same⟩))
        have st3 := ((st2.unset (i := ie)).set_q (i := ik) hq).unset (i := ie)
        have eσ : (((σ.set ie (some (.ref a))).set ik (some (.ref a))).set ie none) = (((σ.set ie none).set ik (some (.ref a))).set ie none) := by
          rw [List.set_comm _ _ hne, List.set_set, List.set_comm _ _ hne, List.set_set]
        rw [eσ]
        refine q _ _ _ (same_trans g.ff g2.ff) (st3.congr fun j => ?_)
        by_cases hj : ik = j
        · subst hj; rw [sh_set_fz]; exact hw ik
        · rw [sh_set_ne hj]
      · simp only [if_neg hm] at q
        exact q.elim
  · rw [if_neg hz] at q
    exact q.elim
end
end
end DL

set_option maxHeartbeats 1000000
/-! EA1: a tuple whose object is known (tuple(list)): made, read, its place of a number. -/
namespace DL
open PySem PySem.Spec L2
open PyProof.Rows hiding St
def rTupO (K : PySem.W.Frag) : List V → Hp → VK → Prop := fun xs H Q => ∃ (p : Addr) (ys : List V), xs = [V.ref p] ∧ SqL K H p ys ∧ ∀ (l : Addr) (o : Obj), H l = none → o.dict = none → Q (.ref l) (upd H l (.frz o (.tup ys)))
theorem call_tupO {X : Cx} : CallR X (.type "tuple") (rTupO X.K) := by
  intro pins s σ H xs us Q I r h
  obtain ⟨p, ys, rfl, hq, q⟩ := h
  obtain ⟨u, rfl, rx⟩ := vals1 r
  cases rx
  obtain ⟨its, r', pl, hz⟩ := I.list hq
  have hlen := r'.length
  refine call_tuple_list pl.isList (fun h' kp => ?_) (by simp only [List.size_toArray] <;> omega)
  have I1 : Inv X pins σ H { s with heap := h' } := I.kept (t' := s.toks) kp
  have I2 : Inv X pins σ (upd H h'.objs.size (.frz { cls := .type "tuple", data := .seq its.toArray } (.tup ys))) { s with heap := h'.push { cls := .type "tuple", data := .seq its.toArray } } :=
    I1.laid (t' := s.toks) (fun b o e => Heap.get?_push_of_some _ e) (Nat.le_refl _) (show ObjOk X.prog X.w _ _ _ (.frz _ (.tup ys)) from ⟨Heap.get?_push_size _ rfl, hz, its, r', IsTup.new _ _⟩)
  exact ⟨.ref h'.objs.size, _, I2, rfl, q _ _ (I1.hok.fresh (Nat.le_refl _)) rfl⟩
def ordN1 : List D → Option (List D)
  | [.list xs] => some xs
  | _ => none
def ordOf : D → Option (List D)
  | .dict [(.str t, .tuple ds)] => if t = "ord" then some ds else none
  | _ => none
theorem ordOf_ord (ds : List D) : ordOf (ordD ds) = some ds := by
  unfold ordOf ordD
  simp only [if_true]
theorem ordOf_inv {d : D} {ds : List D} (h : ordOf d = some ds) : d = ordD ds := by
  unfold ordOf at h
  split at h
  · rename_i t l
    by_cases ht : t = "ord"
    · rw [if_pos ht] at h
      cases h
      rw [ht]
      rfl
    · rw [if_neg ht] at h
      cases h
  · cases h
section
variable [Mem]
theorem dq_ord {K : PySem.W.Frag} {F : Hp} {v : V} {ds : List D} (h : DQ K F v (ordD ds)) : OrdQ K F v (ordD ds) := by
  rcases h with h | ⟨_, _, _, e, _⟩ | ⟨_, e, _⟩ | h | h | h
  · cases h with
    | sd e _ _ _ => simp [sdL] at e
  · exact absurd e.symm ord_int
  · exact absurd e.symm (ord_ne (by decide +kernel))
  · obtain ⟨_, _, _, _, _, e, _⟩ := h
    exact absurd e.symm (ord_ne (by decide +kernel))
  · exact h
  · obtain ⟨_, _, _, _, e, _⟩ := h
    exact absurd e (tup_ne (by decide +kernel))
theorem ordD_inj {a b : List D} (h : ordD a = ordD b) : a = b := by
  have := ordOf_ord a
  rw [h, ordOf_ord] at this
  exact (Option.some.inj this).symm
/-- a tuple whose object is known, made new -/
def DRu (K : PySem.W.Frag) (Er : ErT) (te : TE) (f : AF) : Prop := ∀ F H σ ρ Q, Wf F H → EnvR K F σ ρ →
  Post F H Er (f ρ) (fun F' H' ds => ∀ (p : Addr) (o : Obj) (vs : List V), H' p = none → o.dict = none → DpAll K F' vs ds → Q (.ref p) (upd H' p (.frz o (.tup vs)))) → te σ H Q
structure DU (X : Cx) (Er : ErT) (e : Expr) (te : TE) (f : AF) : Prop where
  pe : PE X e te
  rd : DRu X.K Er te f
def ordB (w : List Sh) (i : Nat) (f : AF) : SF := fun ρ => runR (f (hidO w ρ)) ρ fun ds => if noListA ds = true then .nx (ρ.set i (some (ordD ds))) else .bad
def ordE (i : Nat) : EF := bE (vqE i) fun d => oE ((ordOf d).map .tuple)
def ordIxD (ds : List D) (d : D) : Option D := match intsOf ds, d with
  | some ns, .int k => if k ∈ ns then some (.int (ns.idxOf k : Nat)) else none
  | _, _ => none
def ordIxE (i : Nat) (fe : EF) : EF := bE (vqE i) fun d => match ordOf d with
  | some ds => bE fe fun b => oE (ordIxD ds b)
  | none => fun _ => .bad
section
variable {X : Cx} {Er : ErT} {e : Expr} {es : List Expr} {ta : TA} {te : TE} {p pos : Pos} {fa : AF}
theorem du_tup (hg : Gl X "tuple") (hm : X.mg "tuple" = none) (ha : DA X Er (e :: es) ta fa)
    (he : starEach (e :: es) X.env = (false, eval e X.env) :: starEach es X.env := by rfl) (hpl : (backTo pos (starEach es X.env)).any (·.1) = false := by rfl) : DU X Er (.Call (.Name "tuple" p) (e :: es) [] pos) (tCB (rTupO X.K) ta) (callN ordN1 fa) := by
  refine ⟨pe_callTy call_tupO hg hm (by decide +kernel) ha.pe (by decide) (by decide) he hpl, fun F H σ ρ Q s st p => ?_⟩
  refine ha.rd F H σ ρ _ s st (Post.imp (Post.bind p) fun F1 H1 ds g1 p1 vs dvs => ?_)
  unfold oE at p1
  cases e : ordN1 ds with
  | none => simp only [e] at p1; exact p1.elim
  | some d =>
    simp only [e] at p1
    match ds, dvs, e with
    | [.list xs], .cons (.lst h1 h2) .nil, e =>
      cases e
      exact ⟨_, _, rfl, same_seqL g1.fh.s h1, fun l o hl ho => Post.now p1 g1.fh l o _ hl ho h2⟩
/-- read as data -/
theorem ordq_dp {K : PySem.W.Frag} {F : Hp} {v : V} {ds : List D} (h : OrdQ K F v (ordD ds)) : Dp K F v (.tuple ds) := by
  obtain ⟨ds', a, o, xs, e, rfl, h1, _, h2⟩ := h
  cases ordD_inj e
  exact .tup (.inl (.inr ⟨_, h1⟩)) h2
theorem deq_rd {K : PySem.W.Frag} {i : Nat} {F H : Hp} {σ : St} {ρ : Env} {Q : VK} (s : Wf F H) (st : EnvR K F σ ρ) (p : Post F H Er (vqE i ρ) (fun F' H' d => ∀ v, DQ K F' v d → Q v H')) : tVar i σ H Q := dr_varq F H σ ρ Q s st p
theorem de_ord {i : Nat} {x : Str} (hN : X.N[i]? = some x) (hv : Vis X.env.scope x) (hd : (x == ("__debug__" : Str)) = false := by decide) (hcd : (x == ("__classdict__" : Str)) = false := by decide) : DE X Er (.Name x pos) (tVar i) (ordE i) := by
  refine ⟨pe_var hN hv hd hcd, fun F H σ ρ Q s st q => ?_⟩
  refine deq_rd (Er := Er) s st (Post.imp (Post.bind q) fun F1 H1 d g1 p1 v dv => ?_)
  unfold oE at p1
  cases e : ordOf d with
  | none => simp only [e] at p1; exact p1.elim
  | some ds =>
    simp only [e, Option.map_some] at p1
    rw [ordOf_inv e] at dv
    exact Post.now p1 g1.fh v (ordq_dp (dq_ord dv))
/-- its place of a number -/
def tOrdIx (to te : TE) : TE := fun σ H Q => to σ H fun x H1 => ∃ (a : Addr) (o : Obj) (xs : List V), x = .ref a ∧ H1 a = some (.frz o (.tup xs)) ∧ o.dict = none ∧ tCons te tNil σ H1 fun ys H2 => ∃ (ns : List Int) (k : Int), xs = ns.map V.int ∧ ys = [.int k] ∧ k ∈ ns ∧ H2 a = some (.frz o (.tup xs)) ∧ Q (.int (ns.idxOf k : Nat)) H2
theorem ints_are : ∀ {ns : List Int} {us : List Value}, Vals (ns.map V.int) us → IntsAre us ns
  | [], _, h => by cases h; exact .nil
  | n :: ns, _, h => by
    cases h with
    | cons r rr =>
      obtain ⟨t, rfl⟩ := r
      exact .cons n t (ints_are rr)
theorem dp_ints {K : PySem.W.Frag} {F : Hp} : ∀ {ns : List Int} {xs : List V}, DpAll K F xs (ns.map .int) → xs = ns.map V.int
  | [], _, h => by cases h; rfl
  | n :: ns, _, h => by
    cases h with
    | cons h1 h2 =>
      cases h1
      rw [dp_ints h2]
      rfl
theorem pe_ordIx {o : Expr} {to : TE} {apos cpos : Pos} (ho : PE X o to) (he : PE X e te)
    (hbase : attributeBase o "index" X.env (eval o X.env) = eval o X.env := by rfl)
    (hfew : ((backTo cpos (starEach [e] X.env)).all (fun x => !x.1) && (backToKw cpos (keywordEach [] X.env)).all (fun x => x.1.isSome)
      && decide ([e].length + ([] : List Keyword).length + (if ([] : List Keyword).isEmpty then 0 else 1) < 30)) = true := by rfl)
    (hline : (apos.endLine == cpos.line) = true := by rfl) (hs : starEach [e] X.env = (false, eval e X.env) :: starEach [] X.env := by rfl) (hplain : (backTo cpos (starEach [] X.env)).any (·.1) = false := by rfl) :
    PE X (.Call (.Attribute o "index" apos) [e] [] cpos) (tOrdIx to te) := by
  refine ⟨fun pins s σ H Q I h => ?_⟩
  refine wpAny_Call_method_late hbase hfew hline rfl (thn (ho.run pins s σ H _ I h) fun v s1 ⟨x, H1, I1, r1, a, ob, xs, ex, h1, hd, q1⟩ => ?_)
  subst ex
  obtain rfl : v = Value.ref a := r1
  obtain ⟨hg, hz, its, rv, tp⟩ := I1.hok a _ h1
  refine ⟨"tuple", "tuple.index", PySem.F.plainAttrs_tuple, PySem.F.slot_tuple_index, PySem.F.type_tuple_index, (let ⟨o, ho, hc, _⟩ := tp; ⟨o, ho, hc⟩), (fun b eb => by cases eb; exact ⟨ob, hg, hd⟩), ?_⟩
  have hA := (pa_cons he pa_nil hs).run cpos pins s1 σ H1 _ I1 q1
  rw [hs] at hA ⊢
  refine Calls.callWith_builtin (by show (false || (backTo cpos (starEach [] X.env)).any (·.1)) = false; rw [hplain] <;> rfl) (Calls.evalArgs_plain ?_)
  refine thn hA fun us s2 ⟨vs, H2, I2, r2, ns, k, e1, e2, hk, h2, q2⟩ => ?_
  subst e1 e2
  obtain ⟨u, rfl, t, rfl⟩ := vals1 r2
  obtain ⟨_, _, its2, rv2, tp2⟩ := I2.hok a _ h2
  exact SeqAt.tuple_index_ints tp2 (ints_are rv2) hk ⟨.int (ns.idxOf k : Nat), H2, I2.tok _, ⟨_, rfl⟩, q2⟩
theorem kOrdIx {i : Nat} {x : Str} {p1 apos cpos : Pos} {fe : EF} (hN : X.N[i]? = some x) (hv : Vis X.env.scope x) (h : DE X Er e te fe) (hd : (x == ("__debug__" : Str)) = false := by decide) (hcd : (x == ("__classdict__" : Str)) = false := by decide)
    (hbase : attributeBase (.Name x p1) "index" X.env (eval (.Name x p1) X.env) = eval (.Name x p1) X.env := by rfl)
    (hfew : ((backTo cpos (starEach [e] X.env)).all (fun x => !x.1) && (backToKw cpos (keywordEach [] X.env)).all (fun x => x.1.isSome)
      && decide ([e].length + ([] : List Keyword).length + (if ([] : List Keyword).isEmpty then 0 else 1) < 30)) = true := by rfl)
    (hline : (apos.endLine == cpos.line) = true := by rfl) (hs : starEach [e] X.env = (false, eval e X.env) :: starEach [] X.env := by rfl) (hplain : (backTo cpos (starEach [] X.env)).any (·.1) = false := by rfl) :
    DE X Er (.Call (.Attribute (.Name x p1) "index" apos) [e] [] cpos) (tOrdIx (tVar i) te) (ordIxE i fe) := by
  refine ⟨pe_ordIx (pe_var hN hv hd hcd) h.pe hbase hfew hline hs hplain, fun F H σ ρ Q s st q => ?_⟩
  refine deq_rd (Er := Er) s st (Post.imp (Post.bind q) fun F1 H1 d g1 p1 v dv => ?_)
  cases e : ordOf d with
  | none => simp only [e] at p1; exact p1.elim
  | some ds =>
    simp only [e] at p1
    rw [ordOf_inv e] at dv
    obtain ⟨ds', a, o, xs, ed, rfl, h1, h2, h3⟩ := dq_ord dv
    cases ordD_inj ed
    refine ⟨a, o, xs, rfl, g1.fh.s a _ h1, h2, ?_⟩
    refine h.rd F1 H1 σ ρ _ g1.fh (st.mono g1.ff) (Post.imp (Post.bind p1) fun F2 H2 b g2 p2 w dw => ?_)
    unfold oE ordIxD at p2
    cases ei : intsOf ds with
    | none => simp only [ei] at p2; exact p2.elim
    | some ns =>
      simp only [ei] at p2
      cases b with
      | int k =>
        by_cases hk : k ∈ ns
        · simp only [if_pos hk] at p2
          cases dw
          have e3 := intsOf_eq ei
          subst e3
          refine ⟨ns, k, dp_ints h3, rfl, hk, g2.fh.s a _ (g2.ff a _ h1), Post.now p2 g2.fh _ (.int _)⟩
        · simp only [if_neg hk] at p2
          exact p2.elim
      | _ => exact p2.elim
end
end
end DL

set_option maxHeartbeats 4000000
/-! EA2: sorted(tuple of ints); x = tuple(list) kept as a tuple whose object is known. -/
namespace DL
open PySem PySem.Spec L2 PyProof.Rows SrtO Srt
section
variable {prog : Program} {w : World} {A : Around} {E : Value → Shared → Prop} {s : Shared}
theorem sorted_tupO {l : Addr} {o : Obj} {n : Nat} {vs : List Value} {ltv : Value → Value → Bool} {Q : Value → Shared → Prop} (O : Swo ltv) (ho : s.heap.get? l = some o) (hc : o.cls = .type "tuple") (hd : o.data = .seq vs.toArray n) (hz : vs.length ≤ sizeLine)
    (hS : 2 ≤ vs.length → ∀ (h₁ : Heap) (a : Addr), SortableO prog w A.in1.in1 { s with heap := h₁ } a vs ltv)
    (h : ∀ (h1 h' : Heap) (d : Addr) (out : List Value), Srtd ltv out → Stb ltv out vs → (∀ b o, s.heap.get? b = some o → h1.get? b = some o) → (∀ b o, h1.get? b = some o → h'.get? b = some o) → h1.objs.size ≤ d → (∃ n, h'.get? d = some (seqObj "list" out.toArray n)) → Q (.ref d) { s with heap := h' }) :
    wpAny (model prog w) A (call (.builtin "sorted") [.ref l]) Q E s := by
  refine Calls.call_function_entry kind_sorted plain_sorted entry_sorted (args_sorted1 _) ?_
  unfold Builtin.«sorted»
  refine wpAny_bind (m := checkCount "sorted" 1 1 _) (wpAny_pure ?_)
  refine wpAny_bind (wpAny_collect_seq (hsz := by simpa using hz) l (.inr rfl) ho hc hd fun h1 hk1 => ?_)
  refine wpAny_bind (wpAny_newList ?_ (by simpa using hz))
  have hoL : (h1.push (seqObj "list" vs.toArray 0)).get? h1.objs.size = some (seqObj "list" vs.toArray 0) := Heap.get?_push_size _ rfl
  show wpAny _ _ _ _ _ { s with heap := h1.push (seqObj "list" vs.toArray 0) }
  refine wpAny_bind (wpAny_holding (wpAny_call_entry slot_list_sort ⟨_, hoL, rfl⟩ entry_list_sort (list_sort_ord O hoL hz (fun h2 => hS h2 _ _) fun out hs hb => ⟨_, rfl, ?_⟩) (args_list_sort _)))
  refine wpAny_pure ⟨_, rfl, h h1 _ _ out hs hb hk1 (fun b o e1 => ?_) (Nat.le_refl _) (sortedHeap_at hoL)⟩
  · have hlt : b < h1.objs.size := Heap.lt_size e1
    have e2 : (h1.push (seqObj "list" vs.toArray 0)).get? b = some o := Heap.get?_push_of_some _ e1
    rw [sortedHeap_old (Nat.ne_of_lt hlt) (Heap.lt_size e2)]
    exact e2
end
/-- sorted(t), a tuple of ints -/
def rSortedTI (K : PySem.W.Frag) : List V → Hp → VK → Prop := fun vs H Q => ∃ (a : Addr) (ns : List Int), vs = [V.ref a] ∧ SqT K H a (ns.map V.int) ∧
  ∀ (ns' : List Int) (p : Addr), ns'.Perm ns → ns'.Pairwise (· ≤ ·) → H p = none → Q (.ref p) (upd H p (.lst (ns'.map V.int)))
theorem cr_sortedTI {X : Cx} : CallR X (.builtin "sorted") (rSortedTI X.K) := by
  intro pins s σ H vs us Q I r h
  obtain ⟨a, ns, rfl, hs, q⟩ := h
  obtain ⟨its, rv, ⟨o, ho, hc, n, hd⟩, hz⟩ := I.tuple hs
  rw [Vals.ref1 r]
  have hi := rv.ints
  refine sorted_tupO swo_int ho hc hd (by rw [← rv.length]; exact hz) (fun h2 h₁ a' => ints_sortable hi h2) fun h1 h' d out e1 e2 kp1 kp2 hd hn => ?_
  obtain ⟨k1, k2, k3⟩ := ints_out hi e1 e2
  obtain ⟨ep, he'⟩ := hn
  have hlen : ((out.map iv).map V.int).length ≤ sizeLine := by
    rw [List.length_map, k2.length_eq]
    rw [List.length_map] at hz
    exact hz
  have I1 : Inv X pins σ H { s with heap := h1 } := I.kept (t' := s.toks) kp1
  exact ⟨.ref d, upd H d (.lst ((out.map iv).map V.int)), I1.laid (t' := s.toks) kp2 hd ⟨hlen, out, ep, vals_of_ints k1, he'⟩, rfl, q _ _ k2 k3 (I1.hok.fresh hd)⟩
def sortTD : List D → Option D
  | [.tuple xs] => (intsOf xs).map fun ns => .list ((sortN ns).map .int)
  | _ => none
section
variable [Mem]
theorem cg_sortTI (K : PySem.W.Frag) : CallG K (rSortedTI K) sortTD := by
  intro F H vs ds d Q s h e k
  match ds, h, e with
  | [.tuple xs], .cons (.tup h1 h2) .nil, e =>
    simp only [sortTD] at e
    obtain ⟨ns, e1, e2⟩ := Option.map_eq_some_iff.mp e
    subst e2
    have e3 := intsOf_eq e1
    subst e3
    rw [dp_ints h2] at h1
    refine ⟨_, ns, rfl, same_seqT s.s h1, fun ns' p q1 q2 hp => ?_⟩
    rw [sortN_of q1 q2]
    exact k _ _ _ (Grow.new s hp) (.lst (.inl (.inl upd_same)) (dpAll_intsI _))
theorem ksortT (K : PySem.W.Frag) {X : Cx} (hK : X.K = K := by rfl) : CallR X (.builtin "sorted") (rSortedTI K) := by subst hK; exact cr_sortedTI
/-! x = tuple(list): kept -/
section
variable {X : Cx} {Er : ErT} {s0 : Sh} {wl w w' : List Sh} {te : TE} {K : PySem.W.Frag} {pos : Pos}
theorem runUV {fr : Fr} {F H : Hp} {σ : L2.St} {ρ : DL.Env} {Dn : Ends} {fe : AF} {k : List D → Out} {Q : VK} (hw : sh w 0 = s0) (h : DRu K Er te fe) (st : SR K fr w F H σ ρ) (p : PostS K fr s0 wl w' F Er (runR (fe (hidO w ρ)) ρ k) Dn)
    (q : ∀ ds p o vs F1 H1, Same F F1 → SR K fr w F1 H1 σ ρ → H1 p = none → o.dict = none → (noListA ds = true → DpAll K F1 vs ds) → PostS K fr s0 wl w' F1 Er (k ds) Dn → Q (.ref p) (upd H1 p (.frz o (.tup vs)))) : te σ H Q := by
  obtain ⟨W, s1, s2, env, fin⟩ := st.view
  refine h W H σ _ _ s2 env ?_
  cases e : fe (hidO w ρ) with
  | ok d =>
    rw [e, runR_ok] at p
    intro W' H' gr a o vs ha ho dv
    obtain ⟨F', s3, st', hd⟩ := fin W' H' gr
    exact q d a o vs F' H' s3 st' ha ho (fun n => noListA_all hd d vs n dv) (PostS.mono p s3)
  | err c =>
    rw [e] at p
    intro W' H' gr
    obtain ⟨F', s3, st', _⟩ := fin W' H' gr
    exact p σ F' H' w hw st'
  | bad => rw [e] at p; exact p
theorem s_ordB (i : Nat) {x : Str} {e : Expr} {pos' : Pos} {fe : AF} (hN : X.N.Nodup) (h : DU X Er e te fe) (hi : X.N[i]? = some x := by rfl) (hx : Loc X.env.scope x := by first | exact Or.inl rfl | exact Or.inr rfl) (hw : sh w 0 = s0 := by rfl) (hs : swapsWith e (some (.Name x pos')) pos.line X.env = pure false := by rfl) (hf : X.fn x = true ∨ X.env.scope.names.lookup x = some .local := by first | exact .inl rfl | exact .inr rfl | assumption) :
    D1 X Er s0 wl w (.Assign [.Name x pos'] e pos) (w.set i .fz) (tAsg te (gName i)) (ordB w i fe) :=
  ⟨ps_set hN hi hx h.pe hs hf, fun fr F H σ ρ Dn st p => runUV (te := te) hw h.rd st p fun ds a o vs F1 H1 s1 st1 ha ho dv p1 => by
    by_cases n : noListA ds = true
    · rw [if_pos n] at p1
      have g := Grow.new (o := .frz o (.tup vs)) st1.fh ha
      exact p1 _ _ _ g.ff ((st1.grow g).set_q (.inr (.inr (.inr (.inr (.inl ⟨ds, a, o, vs, rfl, rfl, upd_same, ho, dpAll_mono g.ff _ _ (dv n)⟩))))))
    · rw [if_neg n] at p1
      exact p1.elim⟩
end
end
end DL

set_option maxHeartbeats 1000000
/-! EA3: short forms of EA1, EA2. -/
namespace DL
open PySem PySem.Spec L2
section
variable [Mem] {X : Cx} {Er : ErT}
theorem dov (i : Nat) {x : Str} {pos : Pos} (hN : X.N[i]? = some x := by rfl) (hv : Vis X.env.scope x := by first | exact Or.inl rfl | exact Or.inr (Or.inl rfl) | exact Or.inr (Or.inr rfl)) (hd : (x == ("__debug__" : Str)) = false := by decide) (hcd : (x == ("__classdict__" : Str)) = false := by decide) : DE X Er (.Name x pos) (tVar i) (ordE i) :=
  de_ord hN hv hd hcd
theorem kordix (i : Nat) {x : Str} {e : Expr} {te : TE} {p1 apos cpos : Pos} {fe : EF} (h : DE X Er e te fe) (hN : X.N[i]? = some x := by rfl) (hv : Vis X.env.scope x := by first | exact Or.inl rfl | exact Or.inr (Or.inl rfl) | exact Or.inr (Or.inr rfl)) (hd : (x == ("__debug__" : Str)) = false := by decide) (hcd : (x == ("__classdict__" : Str)) = false := by decide)
    (hbase : attributeBase (.Name x p1) "index" X.env (eval (.Name x p1) X.env) = eval (.Name x p1) X.env := by rfl)
    (hfew : ((backTo cpos (starEach [e] X.env)).all (fun x => !x.1) && (backToKw cpos (keywordEach [] X.env)).all (fun x => x.1.isSome)
      && decide ([e].length + ([] : List Keyword).length + (if ([] : List Keyword).isEmpty then 0 else 1) < 30)) = true := by rfl)
    (hline : (apos.endLine == cpos.line) = true := by rfl) (hs : starEach [e] X.env = (false, eval e X.env) :: starEach [] X.env := by rfl) (hplain : (backTo cpos (starEach [] X.env)).any (·.1) = false := by rfl) :
    DE X Er (.Call (.Attribute (.Name x p1) "index" apos) [e] [] cpos) (tOrdIx (tVar i) te) (ordIxE i fe) := kOrdIx hN hv h hd hcd hbase hfew hline hs hplain
theorem ktupU (K : PySem.W.Frag) {e : Expr} {es : List Expr} {ta : TA} {fa : AF} {p pos : Pos} (hg : Gl X "tuple") (hm : X.mg "tuple" = none) (ha : DA X Er (e :: es) ta fa)
    (he : starEach (e :: es) X.env = (false, eval e X.env) :: starEach es X.env := by rfl) (hpl : (backTo pos (starEach es X.env)).any (·.1) = false := by rfl) (hK : X.K = K := by rfl) : DU X Er (.Call (.Name "tuple" p) (e :: es) [] pos) (tCB (rTupO K) ta) (callN ordN1 fa) := by subst hK; exact du_tup hg hm ha he hpl
end
end DL

set_option maxHeartbeats 1000000
/-! EB1: dicts whose keys are tuples of ints: the hand layer's rules over dX. -/
namespace DL
open PySem PySem.Spec L2
open PyProof.Rows hiding St
theorem hashes_num (w w' : World) : ∀ ns : List Int, NestedKey.hashes w (ns.map .num) = NestedKey.hashes w' (ns.map .num)
  | [] => rfl
  | n :: ns => by
    rw [List.map_cons]
    simp only [NestedKey.hashes]
    rw [hashes_num w w' ns]
    rfl
theorem hash_nk (w w' : World) (ns : List Int) : NestedKey.hash w (nk ns) = NestedKey.hash w' (nk ns) := by
  unfold nk
  simp only [NestedKey.hash]
  rw [hashes_num w w' ns]
def NumK (xs : NXs) : Prop := ∀ x ∈ xs, ∃ ns, x.1 = nk ns
theorem nraw_any {P P' : Program} {w w' : World} {k : Addr} {xs : NXs} {h : Heap} (n : NumK xs) (r : NRaw P w k xs h) : NRaw P' w' k xs h := by
  obtain ⟨a, b, o, es, ep, e1, e2, e3, e4, e5⟩ := r
  refine ⟨a, b, o, es, ep, e1, e2, e3, ?_, e5⟩
  rw [e4]
  refine List.map_congr_left fun x hx => ?_
  obtain ⟨ns, hn⟩ := n x hx
  show (⟨NestedKey.hash w x.1, _, _⟩ : DictEntry) = ⟨NestedKey.hash w' x.1, _, _⟩
  rw [hn, hash_nk w w']
theorem dX_ok {P : Program} {w : World} {H : Hp} {h : Heap} {k : Addr} {xs : NXs} (r : ∀ P w, NRaw P w k xs h) : ObjOk P w H h k (dX k xs) :=
  ⟨r, (let ⟨_, _, o, _, _, e, _⟩ := r P w; ⟨o, e⟩), fun h1 h2 r k P w => (let ⟨a, b, o, es, ep, e, c⟩ := r P w; ⟨a, b, o, es, ep, k o e, c⟩)⟩
section
variable {X : Cx} {pins : List (Addr × Obj)} {σ : St} {H : Hp} {s : Shared} {d b : Addr} {xs : NXs} {key : NestedKey} {A : Around} {E : Value → Shared → Prop}
theorem dictX (I : Inv X pins σ H s) (e : H d = some (dX d xs)) (hk : ∀ x ∈ xs, NKey X.K H x.1 x.2.1) : (d == sysModules) = false ∧ xs.length ≤ sizeLine ∧ s.heap.DictOfH (nestedKind X.prog X.w) d xs := by
  obtain ⟨a1, a2, o, es, ep, h1, h2, h3, h4, h5⟩ := (I.hok d _ e).1 X.prog X.w
  exact ⟨a1, a2, o, es, ep, h1, h2, h3, h4, fun x hx => nkey_is I (hk x hx), h5⟩
theorem dictX_at (I : Inv X pins σ H s) (e : H d = some (dX d xs)) : s.TypeIs (.ref d) "dict" ∧ (∀ b, Value.ref d = .ref b → ∃ ob, s.heap.get? b = some ob ∧ ob.dict = none) ∧ (d == sysModules) = false := by
  obtain ⟨a1, _, o, _, _, h1, h2, _⟩ := (I.hok d _ e).1 X.prog X.w
  refine ⟨⟨o, h1, h2.1⟩, fun b eb => ?_, a1⟩
  cases eb
  exact ⟨o, h1, h2.2.1⟩
end
def tXGet2 (K : PySem.W.Frag) (td ty tz : TE) : TE := fun σ H Q => td σ H fun x H1 => ∃ d, x = .ref d ∧ (∃ xs, H1 d = some (dX d xs)) ∧ ty σ H1 fun y H2 => tz σ H2 fun z H3 => ∃ b xs key, y = .ref b ∧ H3 d = some (dX d xs) ∧ (∀ x ∈ xs, NKey K H3 x.1 x.2.1) ∧ NKey K H3 key b ∧
  ∃ v : V, (∀ p, atKey xs key = some p → RelV v p.2) ∧ (atKey xs key = none → v = z) ∧ Q v H3
def sXPut (K : PySem.W.Frag) (td ty tv : TE) : TS := fun D σ H => tv σ H fun v H1 => td σ H1 fun x H2 => ty σ H2 fun y H3 => ∃ d b xs key, x = .ref d ∧ y = .ref b ∧ H3 d = some (dX d xs) ∧ (∀ x ∈ xs, NKey K H3 x.1 x.2.1) ∧ NKey K H3 key b ∧ NumK xs ∧ (∃ ns, key = nk ns) ∧ xs.length < sizeLine ∧ ∀ u, RelV v u → D.nx σ (upd H3 d (dX d (storedH xs key b u)))
def tDNewX : TE := fun _ H Q => ∀ p, H p = none → Q (.ref p) (upd H p (dX p []))
def rLenXD (K : PySem.W.Frag) : List V → Hp → VK → Prop := fun vs H Q => ∃ (p : Addr) (xs : NXs), vs = [.ref p] ∧ H p = some (dX p xs) ∧ (∀ x ∈ xs, NKey K H x.1 x.2.1) ∧ Q (.int (xs.length : Nat)) H
theorem stored_num {xs : NXs} {key : NestedKey} {b : Addr} {u : Value} (h : NumK xs) (hk : ∃ ns, key = nk ns) : NumK (storedH xs key b u) := fun x hx => by
  unfold storedH at hx
  split at hx
  · obtain ⟨y, hy, e⟩ := List.mem_map.mp hx
    obtain ⟨ns, hn⟩ := h y hy
    refine ⟨ns, ?_⟩
    rw [← hn, ← e]
    unfold putAt
    split <;> rfl
  · rcases List.mem_append.mp hx with hx | hx
    · exact h x hx
    · rw [List.mem_singleton] at hx
      obtain ⟨ns, e⟩ := hk
      exact ⟨ns, by rw [hx, e]⟩
section
variable {X : Cx} {o i e f value : Expr} {pos pos' tpos apos cpos : Pos} {td ty tv tz : TE}
theorem pe_xget2 (hu : X.A.units + 16 < cLine) (ho : PE X o td) (he : PE X e ty) (hf : PE X f tz) (m : M2 X o "get" apos e f cpos) : PE X (.Call (.Attribute o "get" apos) [e, f] [] cpos) (tXGet2 X.K td ty tz) := by
  refine ⟨fun pins s σ H Q I h => ?_⟩
  refine wpAny_Call_method m.base m.few m.line PySem.F.plainAttrs_dict PySem.F.slot_dict_get PySem.F.type_dict_get (thn (ho.run pins s σ H _ I h) fun u s1 ⟨x, H1, I1, rx, d, ex, ⟨xs1, h1⟩, q1⟩ => ?_)
  subst ex
  obtain rfl : u = Value.ref d := rx
  obtain ⟨t1, t2, a1⟩ := dictX_at I1 h1
  refine ⟨t1, t2, ?_⟩
  rw [m.trees]
  refine wpAny_dict_get2_heap (knd := nestedKind X.prog X.w) (by show X.A.units + 1 + 8 < cLine; omega) a1 (thn (he.run pins s1 σ H1 _ I1 q1) fun iv s2 ⟨y, H2, I2, ry, q2⟩ => thn (hf.run pins s2 σ H2 _ I2 q2) fun fv s3 ⟨z, H3, I3, rz, b, xs, key, ey, e3, hk, kb, v, hv1, hv2, q3⟩ => ?_)
  subst ey
  obtain rfl : iv = Value.ref b := ry
  obtain ⟨_, _, dd⟩ := dictX I3 e3 hk
  refine ⟨b, key, xs, rfl, nkey_is I3 kb, dd, ?_⟩
  cases hp : atKey xs key with
  | some p => exact ⟨v, H3, I3.tok _, hv1 p hp, q3⟩
  | none =>
    rw [hv2 hp] at q3
    exact ⟨z, H3, I3.tok _, rz, q3⟩
theorem ps_xput (hu : X.A.units + 16 < cLine) (ho : PE X o td) (hi : PE X i ty) (hv : PE X value tv) (hs : swapsWith value (some (.Subscript o i pos')) pos.line X.env = pure false) :
    PS X (.Assign [.Subscript o i pos'] value pos) (sXPut X.K td ty tv) := by
  refine ⟨fun pins s σ H D I h => ?_⟩
  refine wpAny_Assign_Subscript (thn (hv.run pins s σ H _ I h) fun r s1 ⟨v, H1, I1, rv, q1⟩ => thn (ho.run pins s1 σ H1 _ I1 q1) fun u s2 ⟨x, H2, I2, rx, q2⟩ => thn (hi.run pins s2 σ H2 _ I2 q2) fun iv s3 ⟨y, H3, I3, ry, d, b, xs, key, ex, ey, e, hk, kb, hn, hkn, hl, q3⟩ => ?_) hs
  subst ex ey
  obtain rfl : u = Value.ref d := rx
  obtain rfl : iv = Value.ref b := ry
  obtain ⟨a1, a2, dd⟩ := dictX I3 e hk
  refine wpAny_setItem_heap (knd := nestedKind X.prog X.w) (hsz := a2) (by show X.A.units + 1 + 8 < cLine; omega) (nkey_is I3 kb) dd fun h' dd' hs => ?_
  obtain ⟨q, es, ep, hq, h2, h3, h4, _, h5⟩ := dd'
  exact ⟨σ, _, d_write I3 (by rw [e]; exact True.intro) hs ⟨q, hq⟩ (dX_ok fun P w => nraw_any (P := X.prog) (w := X.w) (stored_num hn hkn) ⟨a1, Nat.le_trans storedH_le hl, q, es, ep, hq, h2, h3, h4, h5⟩), q3 r rv⟩
theorem pe_dnewX : PE X (.Dict [] [] pos) tDNewX := ⟨fun pins s σ H Q I h =>
  wpAny_Dict_empty ⟨.ref s.heap.objs.size, _, I.laid (a := s.heap.objs.size) (o := dX s.heap.objs.size []) (t' := s.toks) (fun _ _ q => Heap.get?_push_of_some _ q) (Nat.le_refl _)
    (dX_ok fun P w => ⟨beq_eq_false_iff_ne.mpr (Ne.symm (Nat.ne_of_lt I.big)), Nat.zero_le _, _, #[], 0, Heap.get?_push_size _ rfl, ⟨rfl, rfl, rfl⟩, rfl, rfl, List.nodup_nil⟩), rfl, h _ (I.hok.fresh (Nat.le_refl _))⟩⟩
theorem call_len_dX : CallR X (.builtin "len") (rLenXD X.K) := by
  intro pins s σ H xs us Q I r h
  obtain ⟨p, ys, rfl, hp, hk, q⟩ := h
  obtain ⟨u, rfl, rx⟩ := vals1 r
  obtain rfl : u = .ref p := rx
  obtain ⟨a1, a2, dd⟩ := dictX I hp hk
  refine call_len_dictH a1 dd (by rw [sizeLine_eq] at a2; omega) ?_
  exact ⟨.int ((ys.length : Nat) : Int), H, I.tok _, ⟨_, rfl⟩, q⟩
end
end DL

set_option maxHeartbeats 1000000
/-! EB2: dicts whose keys are tuples of ints, owned by a slot; read when frozen. -/
namespace DL
open PySem PySem.Spec L2
open PyProof.Rows hiding St
abbrev TKV := List (List Int × D)
def getT (kvs : TKV) (k : List Int) : Option D := (kvs.find? fun p => decide (p.1 = k)).map (·.2)
def putT (kvs : TKV) (k : List Int) (v : D) : TKV := if (kvs.any fun p => decide (p.1 = k)) = true then kvs.map (fun p => if p.1 = k then (p.1, v) else p) else kvs ++ [(k, v)]
def tkvOf : List (D × D) → Option TKV
  | [] => some []
  | (.tuple ks, v) :: r => (intsOf ks).bind fun ns => (tkvOf r).map ((ns, v) :: ·)
  | _ => none
def tupOf : D → Option TKV
  | .dict ((.str t, .none) :: l) => if t = "tup" then tkvOf l else none
  | _ => none
theorem intsOf_ints (ns : List Int) : intsOf (ns.map .int) = some ns := by
  induction ns with
  | nil => rfl
  | cons n ns ih => rw [List.map_cons]; simp [intsOf, ih]
theorem tkvOf_map (kvs : TKV) : tkvOf (kvs.map fun p => (.tuple (p.1.map .int), p.2)) = some kvs := by
  induction kvs with
  | nil => rfl
  | cons p r ih => simp [tkvOf, ih, intsOf_ints]
theorem tupOf_dic (kvs : TKV) : tupOf (tupDic kvs) = some kvs := by
  unfold tupOf tupDic
  simp only [if_true]
  exact tkvOf_map kvs
theorem tkvOf_inv : ∀ {l : List (D × D)} {kvs : TKV}, tkvOf l = some kvs → l = kvs.map fun p => (.tuple (p.1.map .int), p.2)
  | [], kvs, h => by cases h; rfl
  | (.tuple ks, v) :: r, kvs, h => by
    simp only [tkvOf] at h
    obtain ⟨ns, h1, h2⟩ := Option.bind_eq_some_iff.mp h
    obtain ⟨l, h3, h4⟩ := Option.map_eq_some_iff.mp h2
    subst h4
    rw [tkvOf_inv h3, intsOf_eq h1]
    rfl
  | (.none, _) :: _, _, h => by cases h
  | (.int _, _) :: _, _, h => by cases h
  | (.bool _, _) :: _, _, h => by cases h
  | (.str _, _) :: _, _, h => by cases h
  | (.list _, _) :: _, _, h => by cases h
  | (.dict _, _) :: _, _, h => by cases h
theorem tupOf_inv {d : D} {kvs : TKV} (h : tupOf d = some kvs) : d = tupDic kvs := by
  unfold tupOf at h
  split at h
  · rename_i t l
    by_cases ht : t = "tup"
    · rw [if_pos ht] at h
      rw [ht, tkvOf_inv h]
      rfl
    · rw [if_neg ht] at h; cases h
  · cases h
theorem nk_inj {a b : List Int} (h : nk a = nk b) : a = b := by
  unfold nk at h
  injection h with h
  induction a generalizing b with
  | nil => cases b with
    | nil => rfl
    | cons y b => cases h
  | cons x a ih =>
    cases b with
    | nil => cases h
    | cons y b =>
      injection h with h1 h2
      injection h1 with h1
      rw [h1, ih h2]
section
variable [Mem] {K : PySem.W.Frag} {F : Hp}
theorem tupM_num : ∀ {kvs : TKV} {xs : NXs}, TupM K F kvs xs → NumK xs
  | [], [], _ => fun _ h => nomatch h
  | p :: ps, x :: xs, h => fun y hy => by
    rcases List.mem_cons.mp hy with rfl | hy
    · exact ⟨p.1, h.1.1⟩
    · exact tupM_num h.2 y hy
  | [], _ :: _, h => h.elim
  | _ :: _, [], h => h.elim
theorem tupM_key : ∀ {kvs : TKV} {xs : NXs}, TupM K F kvs xs → ∀ x ∈ xs, NKey K F x.1 x.2.1
  | [], [], _ => fun _ h => nomatch h
  | p :: ps, x :: xs, h => fun y hy => by
    rcases List.mem_cons.mp hy with rfl | hy
    · exact h.1.2.1
    · exact tupM_key h.2 y hy
  | [], _ :: _, h => h.elim
  | _ :: _, [], h => h.elim
theorem tupM_len : ∀ {kvs : TKV} {xs : NXs}, TupM K F kvs xs → kvs.length = xs.length
  | [], [], _ => rfl
  | p :: ps, x :: xs, h => by rw [List.length_cons, List.length_cons, tupM_len h.2]
  | [], _ :: _, h => h.elim
  | _ :: _, [], h => h.elim
theorem tupM_get (k : List Int) : ∀ {kvs : TKV} {xs : NXs}, TupM K F kvs xs → (getT kvs k = none ∧ atKey xs (nk k) = none) ∨ ∃ d v p, getT kvs k = some d ∧ vOf d = some v ∧ atKey xs (nk k) = some p ∧ RelV v p.2
  | [], [], _ => .inl ⟨rfl, rfl⟩
  | p :: ps, x :: xs, h => by
    obtain ⟨⟨h1, h2, v, h3, h4⟩, h5⟩ := h
    by_cases e : p.1 = k
    · refine .inr ⟨p.2, v, x.2, ?_, h3, ?_, h4⟩
      · unfold getT
        rw [List.find?_cons_of_pos (by simpa using e)]
        rfl
      · unfold atKey
        have : x.1 = nk k := by rw [h1, e]
        rw [List.find?_cons_of_pos (by simpa using this)]
        rfl
    · have e2 : ¬ x.1 = nk k := fun z => e (nk_inj (h1.symm.trans z))
      have g1 : getT (p :: ps) k = getT ps k := by
        unfold getT
        rw [List.find?_cons_of_neg (by simpa using e)]
      have g2 : atKey (x :: xs) (nk k) = atKey xs (nk k) := by
        unfold atKey
        rw [List.find?_cons_of_neg (by simpa using e2)]
      rw [g1, g2]
      exact tupM_get k h5
  | [], _ :: _, h => h.elim
  | _ :: _, [], h => h.elim
theorem tupM_app {d : D} {v : V} {k : List Int} {b : Addr} {u : Value} (hk : NKey K F (nk k) b) (hd : vOf d = some v) (hr : RelV v u) : ∀ {kvs : TKV} {xs : NXs}, TupM K F kvs xs → TupM K F (kvs ++ [(k, d)]) (xs ++ [(nk k, b, u)])
  | [], [], _ => ⟨⟨rfl, hk, v, hd, hr⟩, trivial⟩
  | p :: ps, x :: xs, h => ⟨h.1, tupM_app hk hd hr h.2⟩
  | [], _ :: _, h => h.elim
  | _ :: _, [], h => h.elim
theorem tupM_map {d : D} {v : V} {k : List Int} {u : Value} (hd : vOf d = some v) (hr : RelV v u) : ∀ {kvs : TKV} {xs : NXs}, TupM K F kvs xs → TupM K F (kvs.map fun p => if p.1 = k then (p.1, d) else p) (xs.map (putAt (nk k) u))
  | [], [], _ => trivial
  | p :: ps, x :: xs, h => by
    obtain ⟨⟨h1, h2, w, h3, h4⟩, h5⟩ := h
    refine ⟨?_, tupM_map hd hr h5⟩
    unfold putAt
    show (_ = nk (if p.1 = k then (p.1, d) else p).1 ∧ _ ∧ ∃ v, vOf (if p.1 = k then (p.1, d) else p).2 = some v ∧ _)
    by_cases e : p.1 = k
    · have e2 : x.1 = nk k := by rw [h1, e]
      rw [if_pos e, if_pos e2]
      exact ⟨h1, h2, v, hd, hr⟩
    · have e2 : ¬ x.1 = nk k := fun z => e (nk_inj (h1.symm.trans z))
      rw [if_neg e, if_neg e2]
      exact ⟨h1, h2, w, h3, h4⟩
  | [], _ :: _, h => h.elim
  | _ :: _, [], h => h.elim
theorem any_get (kvs : TKV) (k : List Int) : (kvs.any fun p => decide (p.1 = k)) = (getT kvs k).isSome := by
  induction kvs with
  | nil => rfl
  | cons p r ih =>
    unfold getT at ih ⊢
    by_cases e : p.1 = k
    · simp [e]
    · rw [List.any_cons, ih, List.find?_cons_of_neg (by simpa using e)]
      simp [e]
theorem tupM_put {d : D} {v : V} {k : List Int} {b : Addr} {u : Value} {kvs : TKV} {xs : NXs} (h : TupM K F kvs xs) (hk : NKey K F (nk k) b) (hd : vOf d = some v) (hr : RelV v u) : TupM K F (putT kvs k d) (storedH xs (nk k) b u) := by
  unfold putT storedH
  rw [any_get]
  rcases tupM_get k h with ⟨e1, e2⟩ | ⟨d', v', p, e1, _, e2, _⟩
  · rw [e1, e2, if_neg (by simp), if_neg (by simp)]
    exact tupM_app hk hd hr h
  · rw [e1, e2, if_pos (show (some d').isSome = true from rfl), if_pos (show (some p).isSome = true from rfl)]
    exact tupM_map hd hr h
theorem nkey_of {H : Hp} {v : V} {ds : List D} {ns : List Int} (h : Dp K H v (.tuple ds)) (e : intsOf ds = some ns) : ∃ b, v = .ref b ∧ NKey K H (nk ns) b := by
  have ed := intsOf_eq e
  subst ed
  have hd : (nk ns).data = .tuple (ns.map .int) := by
    unfold nk
    show PyData.tuple (NestedKey.datas (ns.map .num)) = _
    congr 1
    clear h e
    induction ns with
    | nil => rfl
    | cons n ns ih => rw [List.map_cons, List.map_cons]; show _ :: _ = _ :: _; rw [ih]; rfl
  have hdep : (nk ns).depth ≤ 8 := by
    have : NestedKey.depthAll (ns.map .num) ≤ 1 := by
      clear h e hd
      induction ns with
      | nil => exact Nat.zero_le _
      | cons n ns ih =>
        rw [List.map_cons]
        simp only [NestedKey.depthAll]
        have : (NestedKey.num n).depth ≤ 1 := by simp [NestedKey.depth]
        omega
    unfold nk
    simp only [NestedKey.depth]
    omega
  cases h with
  | tup h1 h2 => exact ⟨_, rfl, by rw [hd]; exact .tup h1 h2, hdep⟩
end
def dtO : Own := ⟨fun K v F o d => ∃ (a : Addr) (kvs : TKV) (xs : NXs), v = .ref a ∧ d = tupDic kvs ∧ o = upd emp a (dX a xs) ∧ TupM K F kvs xs, fun ⟨a, kvs, xs, e1, e2, e3, e4⟩ s => ⟨a, kvs, xs, e1, e2, e3, e4.mono s⟩⟩
/-! mirrors -/
def newT (i : Nat) : SF := fun ρ => .nx (ρ.set i (some (tupDic [])))
def tupD (ρ : Env) (d : D) (k : TKV → Out) : Out := match tupOf d with
  | some kvs => k kvs
  | none => .bad
def keyI (d : D) : Option (List Int) := match d with
  | .tuple ks => intsOf ks
  | _ => none
def putTO (ρ : Env) (i : Nat) (kvs : TKV) (v k : D) : Out := match keyI k, vOf v with
  | some ns, some _ => if kvs.length < 1000000 then .nx (ρ.set i (some (tupDic (putT kvs ns v)))) else .bad
  | _, _ => .bad
def putTS (w : List Sh) (i : Nat) (fk fe : EF) : SF := fun ρ => atSlot ρ i fun d => tupD ρ d fun kvs => runR (fe (hidA w ρ)) ρ fun v => runR (fk (hidA w ρ)) ρ fun k => putTO ρ i kvs v k
def talTO (ρ : Env) (i : Nat) (kvs : TKV) (ns : List Int) (m : D) : Out := match intD m with
  | some m => (match (getT kvs ns).getD (.int 0) with
    | .int z => if kvs.length < 1000000 then .nx (ρ.set i (some (tupDic (putT kvs ns (.int (z + m)))))) else .bad
    | _ => .bad)
  | none => .bad
def talTK (k : D) (g : List Int → Out) : Out := match keyI k with
  | some ns => g ns
  | none => .bad
def talTS (w : List Sh) (i j : Nat) (fe : EF) : SF := fun ρ => atSlot ρ i fun d => tupD ρ d fun kvs => runR (vE j (hidA w ρ)) ρ fun k => talTK k fun ns => runR (fe (hidA w ρ)) ρ fun m => talTO ρ i kvs ns m
/-- x.get(k, z), x frozen -/
def getTD (kvs : TKV) (k z : D) : Option D := (keyI k).map fun ns => (getT kvs ns).getD z
def getTE (i : Nat) (fk fz : EF) : EF := bE (vqE i) fun d => match tupOf d with
  | some kvs => bE fk fun k => bE fz fun z => oE (getTD kvs k z)
  | none => fun _ => .bad
def lenTE (i : Nat) : EF := bE (vqE i) fun d => oE ((tupOf d).map fun kvs => .int (kvs.length : Nat))
section
variable [Mem]
theorem dq_tup {K : PySem.W.Frag} {F : Hp} {v : V} {kvs : TKV} (h : DQ K F v (tupDic kvs)) : ∃ a xs, v = .ref a ∧ F a = some (dX a xs) ∧ TupM K F kvs xs := by
  rcases h with h | ⟨_, _, _, e, _⟩ | ⟨_, e, _⟩ | h | h | h
  · cases h with
    | sd e _ _ _ => simp [sdL] at e
  · exact absurd e.symm tup_int
  · exact absurd e.symm (tup_ne (by decide +kernel))
  · obtain ⟨_, _, _, _, _, e, _⟩ := h
    exact absurd e.symm (tup_ne (by decide +kernel))
  · obtain ⟨_, _, _, _, e, _⟩ := h
    exact absurd e.symm (tup_ne (by decide +kernel))
  · obtain ⟨a, kvs', xs, e1, e2, e3, e4⟩ := h
    have := tupOf_dic kvs
    rw [e2, tupOf_dic] at this
    cases this
    exact ⟨a, xs, e1, e3, e4⟩
end
end DL

set_option maxHeartbeats 2000000
/-! EB3: the statements and expressions over EB2. -/
namespace DL
open PySem PySem.Spec L2
open PyProof.Rows hiding St
variable [Mem]
section
variable {K : PySem.W.Frag} {fr : Fr} {w : List Sh} {F H F' H' : Hp} {σ : St} {ρ : Env}
theorem SR.set_dt {i : Nat} {p : Addr} (h : SR K fr w F H σ ρ) (hp : H p = none) (hi : i < w.length) : SR K fr (w.set i (.ob dtO)) F (upd H p (dX p [])) (σ.set i (some (.ref p))) (ρ.set i (some (tupDic []))) :=
  h.set_ob (o := upd emp p (dX p [])) ⟨same_refl _, sameM_of (same_upd hp), h.fh.upd hp, fun _ h _ => h⟩ (fun a ha => by
    have e : a = p := by
      by_cases e : a = p
      · exact e
      · rw [upd_ne e] at ha; exact absurd rfl ha
    subst e
    exact ⟨hp, none_of_same h.fh.s hp⟩) (fun a o z => by
    by_cases e : a = p
    · subst e; rw [upd_same] at z ⊢; exact z
    · rw [upd_ne e] at z; cases z) ⟨p, [], [], rfl, rfl, rfl, trivial⟩ hi
theorem SR.get_dt {i : Nat} {d : D} (h : SR K fr w F H σ ρ) (hw : sh w i = .ob dtO) (e : ρ[i]? = some (some d)) : ∃ a kvs xs, σ[i]? = some (some (.ref a)) ∧ d = tupDic kvs ∧ H a = some (dX a xs) ∧ TupM K F kvs xs ∧
    (∀ kvs' xs', TupM K F kvs' xs' → SR K fr w F (upd H a (dX a xs')) σ (ρ.set i (some (tupDic kvs')))) ∧ ∃ F', Same F F' ∧ SR K fr (w.set i .fz) F' H σ ρ := by
  obtain ⟨os, s⟩ := h
  obtain ⟨v, e1, ⟨a, kvs, xs, rfl, e3, eo, e5⟩, so, k1, k2⟩ := s.ob hw e
  have ha : os i a = some (dX a xs) := by rw [eo, upd_same]
  have nF := (s.ow i a (by rw [ha]; simp)).1
  refine ⟨a, kvs, xs, e1, e3, so a _ ha, e5, fun kvs' xs' h' => ?_, ?_⟩
  · refine k1 a (dX a xs') (tupDic kvs') (by rw [ha]; simp) ⟨a, kvs', xs', rfl, rfl, ?_, h'⟩
    rw [eo, upd_upd]
  · have hj : joinH F (os i) a = some (dX a xs) := joinH_some ha
    have sj : Same F (joinH F (os i)) := fun b u z => by
      by_cases hb : b = a
      · subst hb; rw [nF] at z; cases z
      · rw [joinH_none]
        · exact z
        · rw [eo, upd_ne hb]; rfl
    obtain ⟨q1, q2⟩ := k2 (.inr (.inr (.inr (.inr (.inr ⟨a, kvs, xs, rfl, e3, hj, e5.mono sj⟩)))))
    exact ⟨_, q2, q1⟩
theorem SR.freezeT {i : Nat} (h : SR K fr w F H σ ρ) (hw : sh w i = .ob dtO) : ∃ F', Same F F' ∧ SR K fr (w.set i .fz) F' H σ ρ := by
  have none' : (∀ d, ρ[i]? ≠ some (some d)) → ∃ F', Same F F' ∧ SR K fr (w.set i .fz) F' H σ ρ := fun hn => by
    obtain ⟨os, s⟩ := h
    refine ⟨F, same_refl _, os, s.fh, s.gh, s.f0, s.nw, s.oh, s.ow, fun j d q => ?_, s.len, s.om⟩
    have hj : i ≠ j := fun z => by subst z; exact hn d q
    rw [sh_set_ne hj]
    exact s.sl j d q
  cases e : ρ[i]? with
  | none => exact none' fun d z => by rw [e] at z; cases z
  | some o =>
    cases o with
    | none => exact none' fun d z => by rw [e] at z; cases z
    | some d =>
      obtain ⟨_, _, _, _, _, _, _, _, q⟩ := h.get_dt hw e
      exact q
end
section
variable {X : Cx} {Er : ErT} {s0 : Sh} {wl w w' : List Sh} {t : TS} {f : SF} {te tk : TE} {K : PySem.W.Frag} {pos : Pos} {sts : List Stmt}
theorem ds_frzT (i : Nat) (hi : sh w i = .ob dtO) (h : DS X Er s0 wl (w.set i .fz) sts w' t f) : DS X Er s0 wl w sts w' t f := by
  refine ⟨h.ps, fun fr F H σ ρ Dn st p => ?_⟩
  obtain ⟨F', s, st'⟩ := st.freezeT hi
  exact h.rd fr F' H σ ρ Dn st' (PostS.mono p s)
theorem d_newT (i : Nat) {x : Str} {pos' p2 : Pos} (hN : X.N.Nodup) (hi : X.N[i]? = some x := by rfl) (hx : Loc X.env.scope x := by first | exact Or.inl rfl | exact Or.inr rfl) (hl : i < w.length := by decide) (hs : swapsWith (.Dict [] [] p2) (some (.Name x pos')) pos.line X.env = pure false := by rfl)
    (hf : X.fn x = true ∨ X.env.scope.names.lookup x = some .local := by first | exact .inl rfl | exact .inr rfl | assumption) : D1 X Er s0 wl w (.Assign [.Name x pos'] (.Dict [] [] p2) pos) (w.set i (.ob dtO)) (tAsg tDNewX (gName i)) (newT i) := by
  refine ⟨ps_set hN hi hx pe_dnewX hs hf, fun fr F H σ ρ Dn st p => ?_⟩
  intro q hq
  exact p _ F _ (same_refl _) (st.set_dt hq hl)
/-- x[k] = e -/
theorem d_putT (i : Nat) {x : Str} {e k : Expr} {p1 p3 : Pos} {fe fk : EF} (hu : X.A.units + 16 < cLine) (h : DE X Er e te fe) (hk : DE X Er k tk fk) (hi : sh w i = .ob dtO := by rfl) (hw : sh w 0 = s0 := by rfl) (hN : X.N[i]? = some x := by rfl) (hv : Vis X.env.scope x := by first | exact Or.inl rfl | exact Or.inr (Or.inl rfl) | exact Or.inr (Or.inr rfl))
    (hd : (x == ("__debug__" : Str)) = false := by decide) (hcd : (x == ("__classdict__" : Str)) = false := by decide)
    (hs : swapsWith e (some (.Subscript (.Name x p1) k p3)) pos.line X.env = pure false := by rfl) :
    D1 X Er s0 wl w (.Assign [.Subscript (.Name x p1) k p3] e pos) w (sXPut X.K (tVar i) tk te) (putTS w i fk fe) := by
  refine ⟨ps_xput hu (pe_var hN hv hd hcd) hk.pe h.pe hs, fun fr F H σ ρ Dn st p => ?_⟩
  unfold putTS atSlot at p
  cases e1 : ρ[i]? with
  | none => rw [e1] at p; exact p.elim
  | some o =>
    cases o with
    | none => rw [e1] at p; exact p.elim
    | some d =>
      rw [e1] at p
      simp only [tupD] at p
      cases e2 : tupOf d with
      | none => rw [e2] at p; exact p.elim
      | some kvs =>
        rw [e2] at p
        simp only at p
        refine runA (te := te) hw h.rd st p fun dv v F1 H1 s1 st1 hdv p1 => ?_
        obtain ⟨a, kvs1, xs1, q1, q2, q3, q4, _⟩ := st1.get_dt hi e1
        refine ⟨_, q1, ?_⟩
        refine runA (te := tk) hw hk.rd st1 p1 fun dk y F2 H2 s2 st2 hdk p2 => ?_
        obtain ⟨a2, kvs2, xs2, r1, r2, r3, r4, r5, _⟩ := st2.get_dt hi e1
        rw [q1] at r1
        cases r1
        have ek : kvs2 = kvs := by
          rw [r2, tupOf_dic] at e2
          exact Option.some.inj e2
        subst ek
        unfold putTO at p2
        cases e3 : keyI dk with
        | none => simp only [e3] at p2; exact p2.elim
        | some ns =>
          simp only [e3] at p2
          cases e4 : vOf dv with
          | none => simp only [e4] at p2; exact p2.elim
          | some v' =>
            simp only [e4] at p2
            by_cases hl : kvs2.length < 1000000
            · rw [if_pos hl] at p2
              obtain ⟨ks, rfl, eks⟩ : ∃ ks, dk = .tuple ks ∧ intsOf ks = some ns := by
                unfold keyI at e3
                split at e3
                · exact ⟨_, rfl, e3⟩
                · cases e3
              obtain ⟨b, rfl, nb⟩ := nkey_of hdk eks
              have ev : v' = v := by
                have hdv := hdv
                cases dv with
                | int z => cases hdv; cases e4; rfl
                | bool z => cases hdv; cases e4; rfl
                | _ => cases e4
              subst ev
              refine ⟨a, b, xs2, nk ns, rfl, rfl, r3, fun z hz => (tupM_key r4 z hz).mono st2.fh.s, nb.mono st2.fh.s, tupM_num r4, ⟨ns, rfl⟩, by rw [← tupM_len r4, sizeLine_eq]; omega, fun u ru => ?_⟩
              exact p2 _ F2 _ (same_refl _) (r5 _ _ (tupM_put r4 nb e4 ru))
            · rw [if_neg hl] at p2
              exact p2.elim
/-- x[y] = x.get(y, 0) + e -/
theorem d_talT (i j : Nat) {x y : Str} {e : Expr} {p1 p2 p3 p4 p5 p6 p7 p8 p9 : Pos} {j0 : Nat} {fe : EF} (hu : X.A.units + 16 < cLine) (h : DE X Er e te fe) (hi : sh w i = .ob dtO := by rfl) (hw : sh w 0 = s0 := by rfl) (hN : X.N[i]? = some x := by rfl) (hv : Vis X.env.scope x := by first | exact Or.inl rfl | exact Or.inr (Or.inl rfl) | exact Or.inr (Or.inr rfl))
    (hN2 : X.N[j]? = some y := by rfl) (hv2 : Vis X.env.scope y := by first | exact Or.inl rfl | exact Or.inr (Or.inl rfl) | exact Or.inr (Or.inr rfl))
    (hd : (x == ("__debug__" : Str)) = false := by decide) (hcd : (x == ("__classdict__" : Str)) = false := by decide) (hd2 : (y == ("__debug__" : Str)) = false := by decide) (hcd2 : (y == ("__classdict__" : Str)) = false := by decide)
    (m : M2 X (.Name x p4) "get" p5 (.Name y p6) (.Constant (.int 0) j0 p7) p8 := by exact ⟨by rfl, by rfl, by rfl, by rfl⟩)
    (hs : swapsWith (.BinOp (.Call (.Attribute (.Name x p4) "get" p5) [.Name y p6, .Constant (.int 0) j0 p7] [] p8) .Add e p9) (some (.Subscript (.Name x p1) (.Name y p2) p3)) pos.line X.env = pure false := by rfl) :
    D1 X Er s0 wl w (.Assign [.Subscript (.Name x p1) (.Name y p2) p3] (.BinOp (.Call (.Attribute (.Name x p4) "get" p5) [.Name y p6, .Constant (.int 0) j0 p7] [] p8) .Add e p9) pos) w
      (sXPut X.K (tVar i) (tVar j) (tOp (rI0 fun i j => .int (i + j)) (tXGet2 X.K (tVar i) (tVar j) (tC (.int 0))) te)) (talTS w i j fe) := by
  have px : ∀ p, PE X (.Name x p) (tVar i) := fun p => pe_var hN hv hd hcd
  have py : ∀ p, PE X (.Name y p) (tVar j) := fun p => pe_var hN2 hv2 hd2 hcd2
  have dy : ∀ p, DE X Er (.Name y p) (tVar j) (vE j) := fun p => de_var hN2 hv2 hd2 hcd2
  refine ⟨ps_xput hu (px _) (py _) (pe_op op_add (pe_xget2 hu (px _) (py _) pe_int m) h.pe) hs, fun fr F H σ ρ Dn st p => ?_⟩
  unfold talTS atSlot at p
  cases e1 : ρ[i]? with
  | none => rw [e1] at p; exact p.elim
  | some o =>
    cases o with
    | none => rw [e1] at p; exact p.elim
    | some d =>
      rw [e1] at p
      simp only [tupD] at p
      cases e2 : tupOf d with
      | none => rw [e2] at p; exact p.elim
      | some kvs =>
        rw [e2] at p
        simp only at p
        have sameK : ∀ {F1 H1 : Hp}, SR X.K fr w F1 H1 σ ρ → ∃ a xs, σ[i]? = some (some (.ref a)) ∧ H1 a = some (dX a xs) ∧ TupM X.K F1 kvs xs ∧ ∀ kvs' xs', TupM X.K F1 kvs' xs' → SR X.K fr w F1 (upd H1 a (dX a xs')) σ (ρ.set i (some (tupDic kvs'))) := fun s1 => by
          obtain ⟨a, kvs1, xs1, q1, q2, q3, q4, q5, _⟩ := s1.get_dt hi e1
          have ek : kvs1 = kvs := by
            rw [q2, tupOf_dic] at e2
            exact Option.some.inj e2
          subst ek
          exact ⟨a, xs1, q1, q3, q4, q5⟩
        obtain ⟨a, xs0, q1, q3, q4, _⟩ := sameK st
        refine ⟨_, q1, a, rfl, ⟨xs0, q3⟩, ?_⟩
        cases ej : (hidA w ρ)[j]? with
        | none =>
          simp only [vE, ej] at p
          exact p.elim
        | some oj =>
          cases oj with
          | none =>
            simp only [vE, ej] at p
            exact p.elim
          | some dj =>
            simp only [vE, ej] at p
            obtain ⟨vk, hj, dq⟩ := st.envA.sl j dj ej
            have dvk : Dp X.K F vk dj := by
              cases k : okD dj with
              | ok z => exact (dq_dp dq k).1
              | err c => exact absurd k (okD_ne dj c)
              | bad => rw [k] at p; exact p.elim
            have p1 : PostS X.K fr s0 wl w F Er (talTK dj fun ns => runR (fe (hidA w ρ)) ρ fun m => talTO ρ i kvs ns m) Dn := by
              have ek := okD_dp dvk
              rw [ek] at p
              exact p
            unfold talTK at p1
            cases e3 : keyI dj with
            | none => simp only [e3] at p1; exact p1.elim
            | some ns =>
              simp only [e3] at p1
              obtain ⟨ks, rfl, eks⟩ : ∃ ks, dj = .tuple ks ∧ intsOf ks = some ns := by
                unfold keyI at e3
                split at e3
                · exact ⟨_, rfl, e3⟩
                · cases e3
              obtain ⟨b, rfl, nb⟩ := nkey_of dvk eks
              obtain ⟨gv, hg1, hg2, hg3⟩ : ∃ gv : V, (∀ p, atKey xs0 (nk ns) = some p → RelV gv p.2) ∧ (atKey xs0 (nk ns) = none → gv = .int 0) ∧ vOf ((getT kvs ns).getD (.int 0)) = some gv := by
                rcases tupM_get ns q4 with ⟨g1, g2⟩ | ⟨d1, v1, p1, g1, g2, g3, g4⟩
                · exact ⟨.int 0, (fun p z => by rw [g2] at z; cases z), fun _ => rfl, by rw [g1]; rfl⟩
                · exact ⟨v1, (fun p z => by rw [g3] at z; cases z; exact g4), (fun z => by rw [g3] at z; cases z), by rw [g1]; exact g2⟩
              refine ⟨_, hj, b, xs0, nk ns, rfl, q3, fun z hz => (tupM_key q4 z hz).mono st.fh.s, nb.mono st.fh.s, gv, hg1, hg2, ?_⟩
              refine runA (te := te) hw h.rd st p1 fun dm vm F2 H2 s2 st2 dvm p2 => ?_
              obtain ⟨a2, xs2, y1, y3, y4, y5⟩ := sameK st2
              rw [q1] at y1
              cases y1
              unfold talTO at p2
              cases dvm with
              | int mm =>
                simp only [intD] at p2
                cases eg : (getT kvs ns).getD (.int 0) with
                | int z =>
                  rw [eg] at p2 hg3
                  simp only at p2
                  cases hg3
                  by_cases hl : kvs.length < 1000000
                  · rw [if_pos hl] at p2
                    refine ⟨z, mm, rfl, rfl, .ref a, q1, .ref b, hj, a, b, xs2, nk ns, rfl, rfl, y3, fun z hz => (tupM_key y4 z hz).mono st2.fh.s, (nb.mono s2).mono st2.fh.s, tupM_num y4, ⟨ns, rfl⟩, by rw [← tupM_len y4, sizeLine_eq]; omega, fun u ru => ?_⟩
                    exact p2 _ F2 _ (same_refl _) (y5 _ _ (tupM_put y4 (nb.mono s2) rfl ru))
                  · rw [if_neg hl] at p2
                    exact p2.elim
                | _ => rw [eg] at p2; exact p2.elim
              | _ => exact p2.elim
/-- x.get(k, z), x frozen -/
theorem de_getT (i : Nat) {x : Str} {k z : Expr} {tz : TE} {p4 p5 p8 : Pos} {fk fz : EF} (hu : X.A.units + 16 < cLine) (hk : DE X Er k tk fk) (hz : DE X Er z tz fz) (hN : X.N[i]? = some x := by rfl) (hv : Vis X.env.scope x := by first | exact Or.inl rfl | exact Or.inr (Or.inl rfl) | exact Or.inr (Or.inr rfl))
    (hd : (x == ("__debug__" : Str)) = false := by decide) (hcd : (x == ("__classdict__" : Str)) = false := by decide)
    (m : M2 X (.Name x p4) "get" p5 k z p8 := by exact ⟨by rfl, by rfl, by rfl, by rfl⟩) :
    DE X Er (.Call (.Attribute (.Name x p4) "get" p5) [k, z] [] p8) (tXGet2 X.K (tVar i) tk tz) (getTE i fk fz) := by
  refine ⟨pe_xget2 hu (pe_var hN hv hd hcd) hk.pe hz.pe m, fun F H σ ρ Q s st q => ?_⟩
  refine deq_rd (Er := Er) s st (Post.imp (Post.bind q) fun F1 H1 d g1 p1 v dv => ?_)
  cases e : tupOf d with
  | none => simp only [e] at p1; exact p1.elim
  | some kvs =>
    simp only [e] at p1
    rw [tupOf_inv e] at dv
    obtain ⟨a, xs, rfl, h1, h2⟩ := dq_tup dv
    refine ⟨a, rfl, ⟨xs, g1.fh.s a _ h1⟩, ?_⟩
    refine hk.rd F1 H1 σ ρ _ g1.fh (st.mono g1.ff) (Post.imp (Post.bind p1) fun F2 H2 dk g2 p2 y hy => ?_)
    refine hz.rd F2 H2 σ ρ _ g2.fh (st.mono (same_trans g1.ff g2.ff)) (Post.imp (Post.bind p2) fun F3 H3 dz g3 p3 w hw => ?_)
    unfold oE getTD at p3
    cases e3 : keyI dk with
    | none => simp only [e3] at p3; exact p3.elim
    | some ns =>
      simp only [e3, Option.map_some] at p3
      obtain ⟨ks, rfl, eks⟩ : ∃ ks, dk = .tuple ks ∧ intsOf ks = some ns := by
        unfold keyI at e3
        split at e3
        · exact ⟨_, rfl, e3⟩
        · cases e3
      obtain ⟨b, rfl, nb⟩ := nkey_of hy eks
      have h2' := h2.mono (same_trans g2.ff g3.ff)
      refine ⟨b, xs, nk ns, rfl, g3.fh.s a _ (g3.ff a _ (g2.ff a _ h1)), fun z hz => (tupM_key h2' z hz).mono g3.fh.s, (nb.mono g3.ff).mono g3.fh.s, ?_⟩
      rcases tupM_get ns h2' with ⟨c1, c2⟩ | ⟨d1, v1, p1, c1, c2, c3, c4⟩
      · refine ⟨w, (fun p z => by rw [c2] at z; cases z), fun _ => rfl, ?_⟩
        rw [c1] at p3
        exact Post.now p3 g3.fh w hw
      · refine ⟨v1, (fun p z => by rw [c3] at z; cases z; exact c4), (fun z => by rw [c3] at z; cases z), ?_⟩
        rw [c1] at p3
        refine Post.now p3 g3.fh v1 ?_
        show Dp X.K F3 v1 d1
        cases d1 with
        | int z => cases c2; exact .int _
        | bool z => cases c2; exact .bl _
        | _ => cases c2
theorem de_lenT (i : Nat) {x : Str} {p1 p2 p3 : Pos} (hg : Gl X "len") (hm : X.mg "len" = none) (hN : X.N[i]? = some x := by rfl) (hv : Vis X.env.scope x := by first | exact Or.inl rfl | exact Or.inr (Or.inl rfl) | exact Or.inr (Or.inr rfl))
    (hd : (x == ("__debug__" : Str)) = false := by decide) (hcd : (x == ("__classdict__" : Str)) = false := by decide)
    (he : starEach [.Name x p1] X.env = (false, eval (.Name x p1) X.env) :: starEach [] X.env := by rfl) (hpl : (backTo p3 (starEach [] X.env)).any (·.1) = false := by rfl) :
    DE X Er (.Call (.Name "len" p2) [.Name x p1] [] p3) (tCB (rLenXD X.K) (tCons (tVar i) tNil)) (lenTE i) := by
  refine ⟨pe_callB call_len_dX hg hm (by decide +kernel) (pa_cons (pe_var hN hv hd hcd) pa_nil he) (by decide) (by decide) he hpl, fun F H σ ρ Q s st q => ?_⟩
  refine deq_rd (Er := Er) s st (Post.imp (Post.bind q) fun F1 H1 d g1 p1 v dv => ?_)
  unfold oE at p1
  cases e : tupOf d with
  | none => simp only [e] at p1; exact p1.elim
  | some kvs =>
    simp only [e, Option.map_some] at p1
    rw [tupOf_inv e] at dv
    obtain ⟨a, xs, rfl, h1, h2⟩ := dq_tup dv
    refine ⟨a, xs, rfl, g1.fh.s a _ h1, fun z hz => (tupM_key h2 z hz).mono g1.fh.s, ?_⟩
    rw [← tupM_len h2]
    exact Post.now p1 g1.fh _ (.int _)
end
end DL

set_option maxHeartbeats 1000000
/-! EC1: zip of three tuples. -/
namespace RZ
open PySem PySem.Spec PyProof.Rows L2
/-- the tuples at a, b and c as they stand at each turn, the items in new threes -/
def Itz3 (K : PySem.W.Frag) (a b c : Addr) : It :=
  ⟨fun i H => ∃ (xs ys zs : List V) (x y z : V), SqT K H a xs ∧ SqT K H b ys ∧ SqT K H c zs ∧ xs[i]? = some x ∧ ys[i]? = some y ∧ zs[i]? = some z,
    fun i H v H' => ∃ T x y z, v = .ref T ∧ H T = none ∧ H' = upd H T (.tup [x, y, z]) ∧ (∀ xs, SqT K H a xs → xs[i]? = some x) ∧ (∀ ys, SqT K H b ys → ys[i]? = some y) ∧ ∀ zs, SqT K H c zs → zs[i]? = some z,
    fun i H => ∃ xs ys zs : List V, SqT K H a xs ∧ SqT K H b ys ∧ SqT K H c zs ∧ i ≤ xs.length ∧ i ≤ ys.length ∧ i ≤ zs.length ∧ (i = xs.length ∨ i = ys.length ∨ i = zs.length)⟩
theorem sep3 {I a b c : Nat} (ha : a < I) (hb : b < I) (hc : c < I) : ZipSep3 (I + 5) (I + 3) (I + 4) I (I + 1) (I + 2) [I, a] [I + 1, b] [I + 2, c] := by
  constructor <;> simp only [List.mem_cons, List.not_mem_nil, or_false, not_or, ne_eq, true_or] <;> simp only [Addr] at * <;> omega
theorem turn_zip3 {P : Program} {w : World} {K : PySem.W.Frag} {elts : List Expr} {kk : Nat} {tpos : Pos} {a b c z TI TO i1 i2 i3 : Addr} (S : ZipSep3 z TI TO i1 i2 i3 [i1, a] [i2, b] [i3, c]) (ha : a ≠ i1) (hb : b ≠ i2) (hcc : c ≠ i3) :
    Turn P w K (.Tuple elts kk tpos) (Itz3 K a b c) [z, TI, TO, i1, i2, i3] z (fun i h => IsZip h z TI TO .none ∧ IsTupOf3 h TI (.ref i1) (.ref i2) (.ref i3) ∧ (∃ x y q, IsTupOf3 h TO x y q) ∧ h.IsTupleIter i1 a i ∧ h.IsTupleIter i2 b i ∧ h.IsTupleIter i3 c i) where
  mem := by simp
  obj := fun i h st c hc => by
    obtain ⟨hz, hTI, ⟨x, y, q, hTO⟩, ⟨o1, e1, _, d1⟩, ⟨o2, e2, _, d2⟩, ⟨o3, e3, _, d3⟩⟩ := st
    have e' : c = z ∨ c = TI ∨ c = TO ∨ c = i1 ∨ c = i2 ∨ c = i3 := by simpa using hc
    rcases e' with q | q | q | q | q | q
    · rw [q]; exact ⟨_, hz, fun v q => nomatch q⟩
    · rw [q]; exact ⟨_, hTI, fun v q => nomatch q⟩
    · rw [q]; exact ⟨_, hTO, fun v q => nomatch q⟩
    · rw [q]; exact ⟨o1, e1, fun v q => by rw [d1] at q; cases q⟩
    · rw [q]; exact ⟨o2, e2, fun v q => by rw [d2] at q; cases q⟩
    · rw [q]; exact ⟨o3, e3, fun v q => by rw [d3] at q; cases q⟩
  keep := fun i h h' st k => by
    obtain ⟨hz, hTI, ⟨x, y, q, hTO⟩, h1, h2, h3⟩ := st
    exact ⟨k z (by simp) _ hz, k TI (by simp) _ hTI, ⟨x, y, q, k TO (by simp) _ hTO⟩, h1.at fun o q => k i1 (by simp) o q, h2.at fun o q => k i2 (by simp) o q, h3.at fun o q => k i3 (by simp) o q⟩
  item := by
    intro X hP hw hK hc i pins s σ H E I hf st hg
    subst hP hw hK
    obtain ⟨hz, hTI, ⟨x0, y0, q0, hTO⟩, h1, h2, h3⟩ := st
    obtain ⟨xs, ys, zs, x, y, q, hqx, hqy, hqz, hx, hy, hq⟩ := hg
    obtain ⟨its, rv, p, _⟩ := I.tuple hqx
    obtain ⟨its2, rv2, p2, _⟩ := I.tuple hqy
    obtain ⟨its3, rv3, p3, _⟩ := I.tuple hqz
    obtain ⟨u, hu, ru⟩ := rv.get hx
    obtain ⟨u2, hu2, ru2⟩ := rv2.get hy
    obtain ⟨u3, hu3, ru3⟩ := rv3.get hq
    have hzl : z < s.heap.objs.size := Heap.lt_size hz
    have hh : X.A.in1.handled = none := I.ok.hd hc
    have D1 := Draws.tuple (prog := X.prog) (w := X.w) (A := X.A.in1) hh i1 a ha its.toArray
    have D2 := Draws.tuple (prog := X.prog) (w := X.w) (A := X.A.in1) hh i2 b hb its2.toArray
    have D3 := Draws.tuple (prog := X.prog) (w := X.w) (A := X.A.in1) hh i3 c hcc its3.toArray
    have hl1 : i < its.toArray.size := by have := (List.getElem?_eq_some_iff.mp hu).1; simpa using this
    have hl2 : i < its2.toArray.size := by have := (List.getElem?_eq_some_iff.mp hu2).1; simpa using this
    have hl3 : i < its3.toArray.size := by have := (List.getElem?_eq_some_iff.mp hu3).1; simpa using this
    refine wpAny_pyNext_zipD3_item S D1 D2 D3 hz hTI hTO ⟨h1, p⟩ ⟨h2, p2⟩ ⟨h3, p3⟩ hl1 hl2 hl3 fun x1 x2 x3 h' tk y1 y2 y3 z' TO' h1' h2' h3' hT hsz hk => ?_
    have y1 : its[i]? = some x1 := by simpa using y1
    have y2 : its2[i]? = some x2 := by simpa using y2
    have y3 : its3[i]? = some x3 := by simpa using y3
    rw [hu] at y1; cases y1
    rw [hu2] at y2; cases y2
    rw [hu3] at y3; cases y3
    refine ⟨_, rfl, wpAny_letOwnedTupleGo_zip (s := { s with heap := h', toks := tk }) z' fun h'' z'' sb => ?_⟩
    have hT2 : h''.get? s.heap.objs.size = some { cls := .type "tuple", data := .seq #[u, u2, u3] } := (sb.2 _ (Nat.ne_of_gt hzl)).trans hT
    have new : ObjOk X.prog X.w (upd H s.heap.objs.size (.tup [x, y, q])) h'' s.heap.objs.size (.tup [x, y, q]) :=
      ⟨by show 3 ≤ sizeLine; decide, [u, u2, u3], .cons ru (.cons ru2 (.cons ru3 .nil)), ⟨_, hT2, rfl, _, rfl⟩⟩
    have I1 : Inv X pins σ (upd H s.heap.objs.size (.tup [x, y, q])) { s with heap := h'', toks := tk } :=
      I.turnedNew (t' := tk) (ch := [z, TI, TO, i1, i2, i3]) (fun c o hb q => (sb.2 c (fun q' => hb (by simp [q']))).trans (hk c o (fun q' => hb (by simp [q'])) (fun q' => hb (by simp [q'])) (fun q' => hb (by simp [q'])) (fun q' => hb (by simp [q'])) (fun q' => hb (by simp [q'])) q)) hf (Nat.le_refl _) new
    refine ⟨.ref s.heap.objs.size, _, I1, rfl, ⟨_, x, y, q, rfl, I.hok.fresh (Nat.le_refl _), rfl, fun l hl => by rw [I.tuple_inj hl hqx]; exact hx, fun l hl => by rw [I.tuple_inj hl hqy]; exact hy, fun l hl => by rw [I.tuple_inj hl hqz]; exact hq⟩, ⟨z'', ?_, ⟨u, u2, u3, ?_⟩, ?_, ?_, ?_⟩, fun c hcm => ?_⟩
    · exact (sb.2 _ S.TIz).trans (hk _ _ S.TIz S.TITO S.TIi1 S.TIi2 S.TIi3 hTI)
    · exact (sb.2 _ S.TOz).trans TO'
    · exact h1'.1.at fun o q => (sb.2 _ (Ne.symm S.zi1)).trans q
    · exact h2'.1.at fun o q => (sb.2 _ (Ne.symm S.zi2)).trans q
    · exact h3'.1.at fun o q => (sb.2 _ (Ne.symm S.zi3)).trans q
    · have hlt : c < s.heap.objs.size := by
        have e' : c = z ∨ c = TI ∨ c = TO ∨ c = i1 ∨ c = i2 ∨ c = i3 := by simpa using hcm
        rcases e' with q | q | q | q | q | q
        · rw [q]; exact hzl
        · rw [q]; exact Heap.lt_size hTI
        · rw [q]; exact Heap.lt_size hTO
        · rw [q]; obtain ⟨_, e1, _⟩ := h1; exact Heap.lt_size e1
        · rw [q]; obtain ⟨_, e2, _⟩ := h2; exact Heap.lt_size e2
        · rw [q]; obtain ⟨_, e3, _⟩ := h3; exact Heap.lt_size e3
      rw [upd_ne (Nat.ne_of_lt hlt)]
      exact (hf c hcm).1
  done := by
    intro X hP hw hK hc i pins s σ H E I hf st hg
    subst hP hw hK
    obtain ⟨hz, hTI, ⟨x0, y0, q0, hTO⟩, h1, h2, h3⟩ := st
    obtain ⟨xs, ys, zs, hqx, hqy, hqz, l1, l2, l3, hend⟩ := hg
    obtain ⟨its, rv, p, _⟩ := I.tuple hqx
    obtain ⟨its2, rv2, p2, _⟩ := I.tuple hqy
    obtain ⟨its3, rv3, p3, _⟩ := I.tuple hqz
    have e1 : its.toArray.size = xs.length := by rw [List.size_toArray, rv.length]
    have e2 : its2.toArray.size = ys.length := by rw [List.size_toArray, rv2.length]
    have e3 : its3.toArray.size = zs.length := by rw [List.size_toArray, rv3.length]
    have hh : X.A.in1.handled = none := I.ok.hd hc
    have D1 := Draws.tuple (prog := X.prog) (w := X.w) (A := X.A.in1) hh i1 a ha its.toArray
    have D2 := Draws.tuple (prog := X.prog) (w := X.w) (A := X.A.in1) hh i2 b hb its2.toArray
    have D3 := Draws.tuple (prog := X.prog) (w := X.w) (A := X.A.in1) hh i3 c hcc its3.toArray
    exact wpAny_pyNext_zipD3_end S D1 D2 D3 hz hTI hTO ⟨h1, p⟩ ⟨h2, p2⟩ ⟨h3, p3⟩ (by omega) (by omega) (by omega) (by omega) fun h' tk hk => ⟨rfl, I.turnedL (t' := tk) (ch := [z, TI, TO, i1, i2, i3]) (fun c o hb q =>
      hk c o (fun q' => hb (by simp [q'])) (fun q' => hb (by simp [q'])) (fun q' => hb (by simp [q'])) (fun q' => hb (by simp [q'])) (fun q' => hb (by simp [q'])) q) hf⟩
  self := fun A i s Q E st h => wpAny_pyIter_zip st.1 h
def iZip3 (K : PySem.W.Frag) (ta : TA) : TI := fun σ H R => ta σ H fun vs H1 => ∃ a b c xs ys zs, vs = [.ref a, .ref b, .ref c] ∧ SqT K H1 a xs ∧ SqT K H1 b ys ∧ SqT K H1 c zs ∧ R (Itz3 K a b c) H1
theorem pi_zip3 {X : Cx} {e e2 e3 : Expr} {ta : TA} {p pos tpos : Pos} {elts : List Expr} {kk : Nat} (hg : Gl X "zip") (hm : X.mg "zip" = none) (ha : PA X [e, e2, e3] ta)
    (hs : starEach [e, e2, e3] X.env = (false, eval e X.env) :: starEach [e2, e3] X.env := by rfl) (hpl : (backTo pos (starEach [e2, e3] X.env)).any (·.1) = false := by rfl) :
    PI X (.Tuple elts kk tpos) (.Call (.Name "zip" p) [e, e2, e3] [] pos) (iZip3 X.K ta) := by
  refine ⟨fun pins s σ H R I h => ?_⟩
  refine Call_ (ld_blt I hg hm PyProof.Rows.boot_zip (PyProof.Rows.callWith_type1 (thn (ha.run pos pins s σ H _ I h) fun us s1 ⟨vs, H1, I1, r1, q1⟩ => ?_) hs hpl))
  obtain ⟨a, b, c, xs, ys, zs, ex, hqx, hqy, hqz, q⟩ := q1
  subst ex
  cases r1 with
  | cons r rr =>
    cases rr with
    | cons r' rr =>
      cases rr with
      | cons r'' rr =>
        cases rr
        cases r
        cases r'
        cases r''
        have fresh6 : ∀ c, c ∈ [s1.heap.objs.size + 5, s1.heap.objs.size + 3, s1.heap.objs.size + 4, s1.heap.objs.size, s1.heap.objs.size + 1, s1.heap.objs.size + 2] → FpOk X pins H1 c := fun c hcm => by
          have hle : s1.heap.objs.size ≤ c := by
            simp only [List.mem_cons, List.not_mem_nil, or_false] at hcm
            rcases hcm with z | z | z | z | z | z
            · rw [z]; exact Nat.le_add_right _ _
            · rw [z]; exact Nat.le_add_right _ _
            · rw [z]; exact Nat.le_add_right _ _
            · rw [z]; exact Nat.le_refl _
            · rw [z]; exact Nat.le_add_right _ _
            · rw [z]; exact Nat.le_add_right _ _
          exact I1.fpOk hle (I1.hok.fresh hle)
        obtain ⟨its, rv, p1, _⟩ := I1.tuple hqx
        obtain ⟨its2, rv2, p2, _⟩ := I1.tuple hqy
        obtain ⟨its3, rv3, p3, _⟩ := I1.tuple hqz
        obtain ⟨o1, ho1, _⟩ := id p1
        obtain ⟨o2, ho2, _⟩ := id p2
        obtain ⟨o3, ho3, _⟩ := id p3
        have l1 := Heap.lt_size ho1
        have l2 := Heap.lt_size ho2
        have l3 := Heap.lt_size ho3
        refine zip_begins3 (begins_tuple a its.toArray) (begins_tuple b its2.toArray) (begins_tuple c its3.toArray) p1 p2 p3 fun h' hz hTI hTO h1 h2 h3 hsz hk => wpAny_pyIter_zip hz ?_
        have I2 : Inv X pins σ H1 { s1 with heap := h' } := I1.kept (t' := s1.toks) hk
        exact ⟨s1.heap.objs.size + 5, [s1.heap.objs.size + 5, s1.heap.objs.size + 3, s1.heap.objs.size + 4, s1.heap.objs.size, s1.heap.objs.size + 1, s1.heap.objs.size + 2], _, _, H1, rfl, I2, turn_zip3 (sep3 l1 l2 l3) (Nat.ne_of_lt l1) (Nat.ne_of_lt (Nat.lt_succ_of_lt l2)) (Nat.ne_of_lt (Nat.lt_succ_of_lt (Nat.lt_succ_of_lt l3))), ⟨hz, hTI, ⟨_, _, _, hTO⟩, ⟨_, h1, rfl, rfl⟩, ⟨_, h2, rfl, rfl⟩, ⟨_, h3, rfl, rfl⟩⟩, fresh6, q⟩
end RZ
namespace DL
open PySem PySem.Spec L2
variable [Mem]
section
variable {K : PySem.W.Frag}
def zip3L (xs ys zs : List D) : List D := (xs.zip (ys.zip zs)).map fun p => .tuple [p.1, p.2.1, p.2.2]
theorem zip3_len (xs ys zs : List D) : (zip3L xs ys zs).length = min xs.length (min ys.length zs.length) := by simp [zip3L]
theorem zip3_get {xs ys zs : List D} {i : Nat} {d : D} (h : (zip3L xs ys zs)[i]? = some d) : ∃ x y z, xs[i]? = some x ∧ ys[i]? = some y ∧ zs[i]? = some z ∧ d = .tuple [x, y, z] := by
  unfold zip3L at h
  rw [List.getElem?_map] at h
  obtain ⟨p, hp, rfl⟩ := Option.map_eq_some_iff.mp h
  obtain ⟨x, q⟩ := p
  have h1 := List.getElem?_zip_eq_some.mp hp
  obtain ⟨y, z⟩ := q
  have h2 := List.getElem?_zip_eq_some.mp h1.2
  exact ⟨x, y, z, h1.1, h2.1, h2.2, rfl⟩
theorem dit_zip3 {F0 : Hp} {a b c : Addr} {xs ys zs : List V} {ds es fs : List D} (h1 : SqT K F0 a xs) (h2 : DpAll K F0 xs ds) (k1 : SqT K F0 b ys) (k2 : DpAll K F0 ys es) (m1 : SqT K F0 c zs) (m2 : DpAll K F0 zs fs) : DIt K (RZ.Itz3 K a b c) F0 (zip3L ds es fs) where
  go := fun i F H s1 s2 hi => by
    rw [zip3_len] at hi
    have l1 := dpAll_len h2
    have l2 := dpAll_len k2
    have l3 := dpAll_len m2
    exact ⟨xs, ys, zs, xs[i]'(by omega), ys[i]'(by omega), zs[i]'(by omega), same_seqT s2.s (same_seqT s1 h1), same_seqT s2.s (same_seqT s1 k1), same_seqT s2.s (same_seqT s1 m1), by simp, by simp, by simp⟩
  stop := fun F H s1 s2 => by
    have l1 := dpAll_len h2
    have l2 := dpAll_len k2
    have l3 := dpAll_len m2
    refine ⟨xs, ys, zs, same_seqT s2.s (same_seqT s1 h1), same_seqT s2.s (same_seqT s1 k1), same_seqT s2.s (same_seqT s1 m1), ?_, ?_, ?_, ?_⟩ <;> rw [zip3_len] <;> omega
  yld := fun i F H x H' d s1 s2 hd y => by
    obtain ⟨T, x', y', z', rfl, hT, rfl, y1, y2, y3⟩ := y
    obtain ⟨d1, d2, d3, e1, e2, e3, rfl⟩ := zip3_get hd
    obtain ⟨v1, z1, w1⟩ := dpAll_get h2 e1
    obtain ⟨v2, z2, w2⟩ := dpAll_get k2 e2
    obtain ⟨v3, z3, w3⟩ := dpAll_get m2 e3
    have q1 := y1 xs (same_seqT s2.s (same_seqT s1 h1))
    have q2 := y2 ys (same_seqT s2.s (same_seqT s1 k1))
    have q3 := y3 zs (same_seqT s2.s (same_seqT s1 m1))
    rw [z1] at q1; cases q1
    rw [z2] at q2; cases q2
    rw [z3] at q3; cases q3
    have st := same_trans s1 (Grow.new (o := .tup [x', y', z']) s2 hT).ff
    exact ⟨_, Grow.new s2 hT, .tup (.inl (.inl upd_same)) (.cons (dp_mono st _ _ w1) (.cons (dp_mono st _ _ w2) (.cons (dp_mono st _ _ w3) .nil)))⟩
end
def zip3D : List D → Option (List D)
  | [.tuple xs, .tuple ys, .tuple zs] => some (zip3L xs ys zs)
  | _ => none
theorem zip3D_some {ds r : List D} (h : zip3D ds = some r) : ∃ xs ys zs, ds = [.tuple xs, .tuple ys, .tuple zs] ∧ r = zip3L xs ys zs := by
  unfold zip3D at h
  split at h
  · cases h; exact ⟨_, _, _, rfl, rfl⟩
  · cases h
section
variable {X : Cx} {Er : ErT} {ta : TA}
theorem di_zip3 {e e2 e3 : Expr} {p pos tpos : Pos} {elts : List Expr} {kk : Nat} {fa : AF} (hg : Gl X "zip") (hm : X.mg "zip" = none) (ha : DA X Er [e, e2, e3] ta fa)
    (hs : starEach [e, e2, e3] X.env = (false, eval e X.env) :: starEach [e2, e3] X.env := by rfl) (hpl : (backTo pos (starEach [e2, e3] X.env)).any (·.1) = false := by rfl) :
    DI X Er (.Tuple elts kk tpos) (.Call (.Name "zip" p) [e, e2, e3] [] pos) (RZ.iZip3 X.K ta) (rangeI zip3D fa) := by
  refine ⟨RZ.pi_zip3 hg hm ha.pe hs hpl, fun F H σ ρ R s st p => ?_⟩
  refine ha.rd F H σ ρ _ s st (Post.imp (Post.bind p) fun F1 H1 ds g1 p1 vs dvs => ?_)
  obtain ⟨r, e, p1⟩ := of_ok p1
  obtain ⟨xs, ys, zs, rfl, rfl⟩ := zip3D_some e
  cases dvs with
  | cons z1 z2 =>
    cases z2 with
    | cons z2 z3 =>
      cases z3 with
      | cons z3 z4 =>
        cases z4
        cases z1 with
        | tup h1 h2 =>
          cases z2 with
          | tup h3 h4 =>
            cases z3 with
            | tup h5 h6 => exact ⟨_, _, _, _, _, _, rfl, same_seqT g1.fh.s h1, same_seqT g1.fh.s h3, same_seqT g1.fh.s h5, Post.now p1 g1.fh _ (dit_zip3 h1 h2 h3 h4 h5 h6)⟩
theorem kzip3 (K : PySem.W.Frag) {e e2 e3 : Expr} {p pos tpos : Pos} {elts : List Expr} {kk : Nat} {fa : AF} (hg : Gl X "zip") (hm : X.mg "zip" = none) (ha : DA X Er [e, e2, e3] ta fa)
    (hs : starEach [e, e2, e3] X.env = (false, eval e X.env) :: starEach [e2, e3] X.env := by rfl) (hpl : (backTo pos (starEach [e2, e3] X.env)).any (·.1) = false := by rfl) (hK : X.K = K := by rfl) :
    DI X Er (.Tuple elts kk tpos) (.Call (.Name "zip" p) [e, e2, e3] [] pos) (RZ.iZip3 K ta) (rangeI zip3D fa) := by subst hK; exact di_zip3 hg hm ha hs hpl
end
end DL

set_option maxHeartbeats 1000000
/-! PN1: objects that change, owned by a slot: two fields of data, two of lists. -/
namespace DL
open PySem PySem.Spec L2
open PyProof.Rows hiding St
/-- the class's name and its fields: two hold data, two hold lists -/
structure PC where
  cn : Str
  f1 : Str
  f2 : Str
  f3 : Str
  f4 : Str
def pntD (P : PC) (T S : D) (ps gs : List D) : D := objD P.cn [(P.f1, T), (P.f2, S), (P.f3, .list ps), (P.f4, .list gs)]
def pntF (P : PC) (v1 v2 : V) (pa ga : Addr) : List (Str × V) := [(P.f1, v1), (P.f2, v2), (P.f3, .ref pa), (P.f4, .ref ga)]
/-- the four cells -/
def pMem (a dx pa ga : Addr) (I : HO) (xs ys : List V) : Hp := fun b => if b = a then some I else if b = dx then some (.own a) else if b = pa then some (.lst xs) else if b = ga then some (.lst ys) else none
structure Ap (a dx pa ga : Addr) : Prop where
  ad : a ≠ dx
  ap : a ≠ pa
  ag : a ≠ ga
  dp : dx ≠ pa
  dg : dx ≠ ga
  pg : pa ≠ ga
section
variable {a dx pa ga : Addr} {I : HO} {xs ys : List V}
theorem pMem_a : pMem a dx pa ga I xs ys a = some I := if_pos rfl
theorem pMem_d (A : Ap a dx pa ga) : pMem a dx pa ga I xs ys dx = some (.own a) := by unfold pMem; rw [if_neg (Ne.symm A.ad), if_pos rfl]
theorem pMem_p (A : Ap a dx pa ga) : pMem a dx pa ga I xs ys pa = some (.lst xs) := by unfold pMem; rw [if_neg (Ne.symm A.ap), if_neg (Ne.symm A.dp), if_pos rfl]
theorem pMem_g (A : Ap a dx pa ga) : pMem a dx pa ga I xs ys ga = some (.lst ys) := by unfold pMem; rw [if_neg (Ne.symm A.ag), if_neg (Ne.symm A.dg), if_neg (Ne.symm A.pg), if_pos rfl]
theorem pMem_off {b : Addr} (h : pMem a dx pa ga I xs ys b ≠ none) : b = a ∨ b = dx ∨ b = pa ∨ b = ga := by
  unfold pMem at h
  by_cases h1 : b = a
  · exact .inl h1
  · rw [if_neg h1] at h
    by_cases h2 : b = dx
    · exact .inr (.inl h2)
    · rw [if_neg h2] at h
      by_cases h3 : b = pa
      · exact .inr (.inr (.inl h3))
      · rw [if_neg h3] at h
        by_cases h4 : b = ga
        · exact .inr (.inr (.inr h4))
        · rw [if_neg h4] at h; exact absurd rfl h
theorem pMem_none {b : Addr} (h1 : b ≠ a) (h2 : b ≠ dx) (h3 : b ≠ pa) (h4 : b ≠ ga) : pMem a dx pa ga I xs ys b = none := by
  unfold pMem; rw [if_neg h1, if_neg h2, if_neg h3, if_neg h4]
end
section
variable [Mem]
structure PAt (P : PC) (K : PySem.W.Frag) (F o : Hp) (a dx pa ga C : Addr) (v1 v2 : V) (xs ys : List V) (T S : D) (ds es : List D) : Prop where
  cl : PySem.W.nsIn K mainGlobals P.cn = some (some (.ref C))
  ap : Ap a dx pa ga
  mem : o = pMem a dx pa ga (.ins C dx (pntF P v1 v2 pa ga)) xs ys
  d1 : Dp K F v1 T
  d2 : Dp K F v2 S
  d3 : DpAll K F xs ds
  d4 : DpAll K F ys es
def PRep (P : PC) (K : PySem.W.Frag) (v : V) (F o : Hp) (d : D) : Prop := ∃ a dx pa ga C v1 v2 xs ys T S ds es, v = .ref a ∧ d = pntD P T S ds es ∧ PAt P K F o a dx pa ga C v1 v2 xs ys T S ds es
theorem PAt.mono {P : PC} {K : PySem.W.Frag} {F F' o : Hp} {a dx pa ga C : Addr} {v1 v2 : V} {xs ys : List V} {T S : D} {ds es : List D} (h : PAt P K F o a dx pa ga C v1 v2 xs ys T S ds es) (s : Same F F') : PAt P K F' o a dx pa ga C v1 v2 xs ys T S ds es :=
  ⟨h.cl, h.ap, h.mem, dp_mono s _ _ h.d1, dp_mono s _ _ h.d2, dpAll_mono s _ _ h.d3, dpAll_mono s _ _ h.d4⟩
/-- the shape of a slot that owns such an object; c: which value it may be -/
def pC (P : PC) (c : V → Prop) : Own := ⟨fun K v F o d => c v ∧ PRep P K v F o d, fun ⟨h0, a, dx, pa, ga, C, v1, v2, xs, ys, T, S, ds, es, e1, e2, h⟩ s => ⟨h0, a, dx, pa, ga, C, v1, v2, xs, ys, T, S, ds, es, e1, e2, h.mono s⟩⟩
section
variable {K : PySem.W.Frag} {fr : Fr} {w : List Sh} {F H F' H' : Hp} {σ : St} {ρ : Env} {Φ : Own}
/-- what slot i owns, and its memory written anew -/
theorem SR.own (h : SR K fr w F H σ ρ) {i : Nat} {d : D} (hw : sh w i = .ob Φ) (e : ρ[i]? = some (some d)) : ∃ v o, σ[i]? = some (some v) ∧ Φ.rep K v F o d ∧ Same o H ∧ (∀ b, o b ≠ none → F b = none ∧ ¬ Mem.is b) ∧
    ∀ (o' H' : Hp) (d' : D), Φ.rep K v F o' d' → Same o' H' → (∀ b, o' b ≠ none → o b ≠ none ∨ H b = none) → (∀ b u, H b = some u → o b = none → H' b = some u) → SR K fr w F H' σ (ρ.set i (some d')) := by
  obtain ⟨os, s⟩ := h
  obtain ⟨v, e1, hh⟩ := s.sl i d e
  rw [hw] at hh
  have hil : i < ρ.length := by
    rcases Nat.lt_or_ge i ρ.length with z | z
    · exact z
    · rw [List.getElem?_eq_none z] at e; cases e
  have ow1 : ∀ b, os i b ≠ none → F b = none := fun b z => (s.ow i b z).1
  refine ⟨v, os i, e1, hh, s.oh i, fun b z => ⟨ow1 b z, s.om i b z⟩, fun o' H' d' r sH hn hk => ?_⟩
  have keepO : ∀ b u, H b = some u → os i b = none → H' b = some u := hk
  have offF : ∀ b u, F b = some u → os i b = none := fun b u z => by
    cases q : os i b with
    | none => rfl
    | some x => have := ow1 b (by rw [q]; simp); rw [z] at this; cases this
  have offG : ∀ b, fr.G b ≠ none → os i b = none := fun b z => by
    cases q : os i b with
    | none => rfl
    | some x => exact absurd (s.ow i b (by rw [q]; simp)).2.1 z
  have offM : ∀ b, Mem.is b → os i b = none := fun b z => by
    cases q : os i b with
    | none => rfl
    | some x => exact absurd z (s.om i b (by rw [q]; simp))
  have offJ : ∀ j b, j ≠ i → os j b ≠ none → os i b = none := fun j b hj z => by
    cases q : os i b with
    | none => rfl
    | some x => exact absurd ((s.ow i b (by rw [q]; simp)).2.2 j hj) z
  have fresh : ∀ b, H b = none → F b = none ∧ fr.G b = none ∧ ∀ k, os k b = none := fun b z => ⟨none_of_same s.fh.s z, none_of_sameM s.gh s.fh z, fun k => none_of_same (s.oh k) z⟩
  refine ⟨fun j => if j = i then o' else os j, ⟨fun b u z => keepO b u (s.fh.s b u z) (offF b u z), fun b z => ?_⟩, fun b u nb z => keepO b u (s.gh b u nb z) (offG b (by rw [z]; simp)), s.f0, s.nw, fun j => ?_, fun j b h1 => ?_, fun j d2 q => ?_, by simpa using s.len, fun j b h1 => ?_⟩
  · obtain ⟨q1, u, q2, q3⟩ := s.fh.m b z
    exact ⟨q1, u, keepO b u q2 (offM b z), q3⟩
  · by_cases hj : j = i
    · rw [if_pos hj]; exact sH
    · rw [if_neg hj]; exact fun b u z => keepO b u (s.oh j b u z) (offJ j b hj (by rw [z]; simp))
  · by_cases hj : j = i
    · rw [if_pos hj] at h1
      rcases hn b h1 with z | z
      · obtain ⟨q1, q2, q3⟩ := s.ow i b z
        exact ⟨q1, q2, fun k hk' => by rw [if_neg (fun y => hk' (y.trans hj.symm))]; exact q3 k (fun y => hk' (y.trans hj.symm))⟩
      · obtain ⟨q1, q2, q3⟩ := fresh b z
        exact ⟨q1, q2, fun k hk' => by rw [if_neg (fun y => hk' (y.trans hj.symm))]; exact q3 k⟩
    · rw [if_neg hj] at h1
      obtain ⟨q1, q2, q3⟩ := s.ow j b h1
      refine ⟨q1, q2, fun k hk' => ?_⟩
      by_cases hki : k = i
      · rw [if_pos hki]
        cases q : o' b with
        | none => rfl
        | some x =>
          rcases hn b (by rw [q]; simp) with z | z
          · exact absurd (offJ j b hj h1) z
          · exact absurd ((fresh b z).2.2 j) h1
      · rw [if_neg hki]; exact q3 k hk'
  · rcases env_set q with ⟨rfl, rfl, hv⟩ | ⟨ne, q⟩
    · exact ⟨v, e1, by rw [hw, if_pos rfl]; exact r⟩
    · rw [if_neg (Ne.symm ne)]
      exact s.sl j d2 q
  · by_cases hj : j = i
    · rw [if_pos hj] at h1
      rcases hn b h1 with z | z
      · exact s.om i b z
      · exact s.fh.no z
    · rw [if_neg hj] at h1; exact s.om j b h1
/-- the heap without a slot's memory -/
def offH (o H : Hp) : Hp := fun b => match o b with
  | some _ => none
  | none => H b
theorem offH_none {o H : Hp} {b : Addr} (h : o b = none) : offH o H b = H b := by unfold offH; rw [h]
theorem offH_some {o H : Hp} {b : Addr} (h : o b ≠ none) : offH o H b = none := by
  unfold offH
  cases e : o b with
  | none => exact absurd e h
  | some x => rfl
/-- slot i lent to a def, and given back -/
theorem SR.lend {P : PC} {c : V → Prop} (h : SR K fr w F H σ ρ) {i : Nat} {d : D} (hw : sh w i = .ob (pC P c)) (e : ρ[i]? = some (some d)) : ∃ v G, σ[i]? = some (some v) ∧ (∃ a dx pa ga C v1 v2, v = .ref a ∧ PySem.W.nsIn K mainGlobals P.cn = some (some (.ref C)) ∧ H a = some (.ins C dx (pntF P v1 v2 pa ga))) ∧
    SR K ⟨F, G⟩ [.ob (pC P (· = v))] F H [some v] [some d] ∧
    ∀ F' H' d', SR K ⟨F, G⟩ [.ob (pC P (· = v))] F' H' [some v] [some d'] → Same F F' ∧ SR K fr w F' H' σ (ρ.set i (some d')) := by
  obtain ⟨os, s⟩ := h
  obtain ⟨v, e1, hh⟩ := s.sl i d e
  rw [hw] at hh
  obtain ⟨hc, hr⟩ := hh
  have ow1 : ∀ b, os i b ≠ none → F b = none := fun b z => (s.ow i b z).1
  have offN : ∀ b, os i b ≠ none → ∀ {α : Prop}, os i b = none → α := fun b z _ y => absurd y z
  refine ⟨v, offH (os i) H, e1, ?_, ⟨fun j => if j = 0 then os i else emp, s.fh, fun b u nb z => ?_, same_refl _, fun b z _ => z, fun j => ?_, fun j b h1 => ?_, fun j d2 q => ?_, rfl, fun j b h1 => ?_⟩, fun F' H' d' st' => ?_⟩
  · obtain ⟨a, dx, pa, ga, C, v1, v2, xs, ys, T, S, ds, es, q1, q2, q3⟩ := hr
    exact ⟨a, dx, pa, ga, C, v1, v2, q1, q3.cl, s.oh i a _ (by rw [q3.mem]; exact pMem_a)⟩
  · have z : offH (os i) H b = some u := z
    show H b = some u
    cases q : os i b with
    | none => rw [offH_none q] at z; exact z
    | some x => rw [offH_some (by rw [q]; simp)] at z; cases z
  · by_cases hj : j = 0
    · rw [if_pos hj]; exact s.oh i
    · rw [if_neg hj]; intro b u z; cases z
  · by_cases hj : j = 0
    · rw [if_pos hj] at h1
      exact ⟨ow1 b h1, offH_some h1, fun k hk => by rw [if_neg (fun y => hk (y.trans hj.symm))]; rfl⟩
    · rw [if_neg hj] at h1; exact absurd rfl h1
  · match j, q with
    | 0, q =>
      cases q
      exact ⟨v, rfl, ⟨rfl, hr⟩⟩
    | j + 1, q => cases q
  · by_cases hj : j = 0
    · rw [if_pos hj] at h1; exact s.om i b h1
    · rw [if_neg hj] at h1; exact absurd rfl h1
  · obtain ⟨os', s'⟩ := st'
    obtain ⟨v', e1', hh'⟩ := s'.sl 0 d' rfl
    cases e1'
    obtain ⟨_, hr'⟩ : v = v ∧ PRep P K v F' (os' 0) d' := hh'
    have sF : Same F F' := s'.f0
    have Gk : ∀ b, H b ≠ none → os i b = none → offH (os i) H b ≠ none := fun b z y => by rw [offH_none y]; exact z
    have keep : ∀ b u, ¬ Mem.is b → H b = some u → os i b = none → H' b = some u := fun b u nb z y => s'.gh b u nb (by show offH (os i) H b = _; rw [offH_none y]; exact z)
    have offG : ∀ b, fr.G b ≠ none → os i b = none := fun b z => by
      cases q : os i b with
      | none => rfl
      | some x => exact absurd (s.ow i b (by rw [q]; simp)).2.1 z
    have GH : ∀ b, fr.G b ≠ none → H b ≠ none := fun b z => sameM_ne s.gh s.fh z
    have offJ : ∀ j b, j ≠ i → os j b ≠ none → os i b = none := fun j b hj z => by
      cases q : os i b with
      | none => rfl
      | some x => exact absurd ((s.ow i b (by rw [q]; simp)).2.2 j hj) z
    have JH : ∀ j b, os j b ≠ none → H b ≠ none := fun j b z => same_ne (s.oh j) z
    refine ⟨sF, fun j => if j = i then os' 0 else os j, s'.fh, fun b u nb z => keep b u nb (s.gh b u nb z) (offG b (by rw [z]; simp)), same_trans s.f0 sF, fun b z y => ?_, fun j => ?_, fun j b h1 => ?_, fun j d2 q => ?_, by simpa using s.len, fun j b h1 => ?_⟩
    · exact s.nw b (s'.nw b z (Gk b (GH b y) (offG b y))) y
    · by_cases hj : j = i
      · rw [if_pos hj]; exact s'.oh 0
      · rw [if_neg hj]
        exact fun b u z => keep b u (s.om j b (by rw [z]; simp)) (s.oh j b u z) (offJ j b hj (by rw [z]; simp))
    · by_cases hj : j = i
      · rw [if_pos hj] at h1
        obtain ⟨q1, q2, _⟩ := s'.ow 0 b h1
        have q2 : offH (os i) H b = none := q2
        refine ⟨q1, ?_, fun k hk => ?_⟩
        · cases z : fr.G b with
          | none => rfl
          | some x => exact absurd q2 (Gk b (GH b (by rw [z]; simp)) (offG b (by rw [z]; simp)))
        · have hki : k ≠ i := fun y => hk (y.trans hj.symm)
          rw [if_neg hki]
          cases z : os k b with
          | none => rfl
          | some x => exact absurd q2 (Gk b (JH k b (by rw [z]; simp)) (offJ k b hki (by rw [z]; simp)))
      · rw [if_neg hj] at h1
        obtain ⟨q1, q2, q3⟩ := s.ow j b h1
        have gb := Gk b (JH j b h1) (offJ j b hj h1)
        refine ⟨?_, q2, fun k hk => ?_⟩
        · cases z : F' b with
          | none => rfl
          | some x => exact absurd q1 (s'.nw b (by rw [z]; simp) gb)
        · by_cases hki : k = i
          · rw [if_pos hki]
            cases z : os' 0 b with
            | none => rfl
            | some x => exact absurd (s'.ow 0 b (by rw [z]; simp)).2.1 gb
          · rw [if_neg hki]; exact q3 k hk
    · rcases env_set q with ⟨rfl, rfl, hv⟩ | ⟨ne, q⟩
      · exact ⟨v, e1, by rw [hw, if_pos rfl]; exact ⟨hc, hr'⟩⟩
      · rw [if_neg (Ne.symm ne)]
        obtain ⟨v2, q1, q2⟩ := s.sl j d2 q
        exact ⟨v2, q1, q2.mono sF⟩
    · by_cases hj : j = i
      · rw [if_pos hj] at h1; exact s'.om 0 b h1
      · rw [if_neg hj] at h1; exact s.om j b h1
end
end
end DL

set_option maxHeartbeats 1000000
/-! PN2: expressions that see, and change, the objects that slots own. -/
namespace DL
open PySem PySem.Spec L2
open PyProof.Rows hiding St
inductive RM (α : Type) where
  | ok (a : α) (ρ : Env)
  | err (c : Str) (ρ : Env)
  | bad
abbrev EM := Env → RM D
abbrev TM := Env → RM Bool
abbrev AM := Env → RM (List D)
def bP {α β : Type} (a : Env → RM α) (f : α → Env → RM β) : Env → RM β := fun ρ => match a ρ with
  | .ok x ρ1 => f x ρ1
  | .err c ρ1 => .err c ρ1
  | .bad => .bad
def oP {α : Type} (o : Option α) : Env → RM α := fun ρ => match o with
  | some a => .ok a ρ
  | none => .bad
def kindS : Sh → Nat
  | .fz => 0
  | .ls => 1
  | .ob _ => 2
def hidKA : List Nat → Env → Env
  | _, [] => []
  | [], ρ => ρ
  | 0 :: w, d :: ρ => d :: hidKA w ρ
  | _ :: w, _ :: ρ => none :: hidKA w ρ
def hidKO : List Nat → Env → Env
  | _, [] => []
  | [], ρ => ρ
  | 2 :: w, _ :: ρ => none :: hidKO w ρ
  | _ :: w, d :: ρ => d :: hidKO w ρ
theorem hidA_k : ∀ (w : List Sh) (ρ : Env), hidKA (w.map kindS) ρ = hidA w ρ
  | [], [] => rfl
  | [], _ :: _ => rfl
  | _ :: _, [] => by simp [hidKA, hidA]
  | .fz :: w, d :: ρ => by simp [hidKA, hidA, kindS, hidA_k w ρ]
  | .ls :: w, d :: ρ => by simp [hidKA, hidA, kindS, hidA_k w ρ]
  | .ob _ :: w, d :: ρ => by simp [hidKA, hidA, kindS, hidA_k w ρ]
theorem hidO_k : ∀ (w : List Sh) (ρ : Env), hidKO (w.map kindS) ρ = hidO w ρ
  | [], [] => rfl
  | [], _ :: _ => rfl
  | _ :: _, [] => by simp [hidKO, hidO]
  | .fz :: w, d :: ρ => by simp [hidKO, hidO, kindS, hidO_k w ρ]
  | .ls :: w, d :: ρ => by simp [hidKO, hidO, kindS, hidO_k w ρ]
  | .ob _ :: w, d :: ρ => by simp [hidKO, hidO, kindS, hidO_k w ρ]
/-- without objects: the owned slots hidden -/
def emA (w : List Nat) (f : EF) : EM := fun ρ => match f (hidKA w ρ) with
  | .ok d => .ok d ρ
  | .err c => .err c ρ
  | .bad => .bad
/-- .. the owned lists seen -/
def emV (w : List Nat) (f : EF) : EM := fun ρ => match f (hidKO w ρ) with
  | .ok d => if noList d = true then .ok d ρ else .bad
  | .err c => .err c ρ
  | .bad => .bad
def tmV (w : List Nat) (f : TF) : TM := fun ρ => match f (hidKO w ρ) with
  | .ok d => .ok d ρ
  | .err c => .err c ρ
  | .bad => .bad
def op2P (g : D → D → Option D) (a b : EM) : EM := bP a fun x => bP b fun y => oP (g x y)
def nilP : AM := fun ρ => .ok [] ρ
def consP (a : EM) (r : AM) : AM := bP a fun x => bP r fun xs ρ => .ok (x :: xs) ρ
def tupP (a : AM) : EM := bP a fun xs => if xs.length ≤ 1000000 then fun ρ => .ok (.tuple xs) ρ else fun _ => .bad
def testP (a : EM) : TM := bP a fun x => oP (boolD x)
def orP (a b : TM) : TM := bP a fun x => if x = true then fun ρ => .ok true ρ else b
def andP (a b : TM) : TM := bP a fun x => if x = true then b else fun ρ => .ok false ρ
def notP (a : TM) : TM := bP a fun x ρ => .ok (!x) ρ
def ifeP (t : TM) (a b : EM) : EM := bP t fun c => if c = true then a else b
/-- the parts of such an object -/
def pntOf (P : PC) (d : D) : Option (D × D × List D × List D) := match objOf d with
  | some (c, [(a1, T), (a2, S), (a3, .list ps), (a4, .list gs)]) => if c = P.cn ∧ a1 = P.f1 ∧ a2 = P.f2 ∧ a3 = P.f3 ∧ a4 = P.f4 then some (T, S, ps, gs) else none
  | _ => none
theorem pntOf_pnt (P : PC) (T S : D) (ps gs : List D) : pntOf P (pntD P T S ps gs) = some (T, S, ps, gs) := by
  unfold pntOf pntD
  rw [objOf_obj]
  simp
def atP {α : Type} (P : PC) (i : Nat) (k : D × D × List D × List D → Env → RM α) : Env → RM α := fun ρ => match ρ[i]? with
  | some (some d) => (match pntOf P d with
    | some q => k q ρ
    | none => .bad)
  | _ => .bad
def fld1M (P : PC) (i : Nat) : EM := atP P i fun q ρ => .ok q.1 ρ
def fld2M (P : PC) (i : Nat) : EM := atP P i fun q ρ => .ok q.2.1 ρ
def len3M (P : PC) (i : Nat) : EM := atP P i fun q ρ => if q.2.2.1.length < 1000000 then .ok (.int (q.2.2.1.length : Nat)) ρ else .bad
def len4M (P : PC) (i : Nat) : EM := atP P i fun q ρ => if q.2.2.2.length < 1000000 then .ok (.int (q.2.2.2.length : Nat)) ρ else .bad
def nil3M (P : PC) (i : Nat) : EM := atP P i fun q => oP (eqD (.list q.2.2.1) (.list []))
def nil4M (P : PC) (i : Nat) : EM := atP P i fun q => oP (eqD (.list q.2.2.2) (.list []))
section
variable [Mem]
def PostM {α : Type} (K : PySem.W.Frag) (fr : Fr) (w : List Sh) (Er : ErT) (F : Hp) (σ : St) (r : RM α) (P : Hp → Hp → Env → α → Prop) : Prop := match r with
  | .ok a ρ' => ∀ F' H', Same F F' → SR K fr w F' H' σ ρ' → P F' H' ρ' a
  | .err c ρ' => ∀ F' H', Same F F' → SR K fr w F' H' σ ρ' → Er c H'
  | .bad => False
section
variable {α β : Type} {K : PySem.W.Frag} {fr : Fr} {w : List Sh} {Er : ErT} {F F1 H1 : Hp} {σ : St}
theorem PostM.mono {r : RM α} {P : Hp → Hp → Env → α → Prop} (h : PostM K fr w Er F σ r P) (s : Same F F1) : PostM K fr w Er F1 σ r P := by
  cases r with
  | ok a ρ' => exact fun F' H' s' => h F' H' (same_trans s s')
  | err c ρ' => exact fun F' H' s' => h F' H' (same_trans s s')
  | bad => exact h
theorem PostM.imp {r : RM α} {P P' : Hp → Hp → Env → α → Prop} (h : PostM K fr w Er F σ r P) (k : ∀ F' H' ρ' a, Same F F' → SR K fr w F' H' σ ρ' → P F' H' ρ' a → P' F' H' ρ' a) : PostM K fr w Er F σ r P' := by
  cases r with
  | ok a ρ' => exact fun F' H' s st => k F' H' ρ' a s st (h F' H' s st)
  | err c ρ' => exact h
  | bad => exact h
theorem PostM.bind {a : Env → RM α} {f : α → Env → RM β} {ρ : Env} {P : Hp → Hp → Env → β → Prop} (h : PostM K fr w Er F σ (bP a f ρ) P) : PostM K fr w Er F σ (a ρ) fun F1 H1 ρ1 x => PostM K fr w Er F1 σ (f x ρ1) P := by
  unfold bP at h
  cases e : a ρ with
  | ok x ρ1 => rw [e] at h; exact fun F' H' s st => PostM.mono h s
  | err c ρ1 => rw [e] at h; exact h
  | bad => rw [e] at h; exact h
theorem PostM.now {a : α} {ρ : Env} {P : Hp → Hp → Env → α → Prop} (h : PostM K fr w Er F σ (.ok a ρ) P) (st : SR K fr w F H1 σ ρ) : P F H1 ρ a := h F H1 (same_refl _) st
theorem post_opt {o : Option α} {ρ : Env} {P : Hp → Hp → Env → α → Prop} (h : PostM K fr w Er F σ (oP o ρ) P) : ∃ a, o = some a ∧ PostM K fr w Er F σ (.ok a ρ) P := by
  unfold oP at h
  cases o with
  | none => exact h.elim
  | some a => exact ⟨a, rfl, h⟩
end
def DRP (K : PySem.W.Frag) (Er : St → ErT) (w : List Sh) (te : TE) (f : EM) : Prop := ∀ fr F H σ ρ Q, SR K fr w F H σ ρ → PostM K fr w (Er σ) F σ (f ρ) (fun F' H' _ d => ∀ v, Dp K F' v d → Q v H') → te σ H Q
def DRPt (K : PySem.W.Frag) (Er : St → ErT) (w : List Sh) (tt : TT) (f : TM) : Prop := ∀ fr F H σ ρ Q, SR K fr w F H σ ρ → PostM K fr w (Er σ) F σ (f ρ) (fun _ H' _ b => Q b H') → tt σ H Q
def DRPa (K : PySem.W.Frag) (Er : St → ErT) (w : List Sh) (ta : TA) (f : AM) : Prop := ∀ fr F H σ ρ Q, SR K fr w F H σ ρ → PostM K fr w (Er σ) F σ (f ρ) (fun F' H' _ ds => ∀ vs, DpAll K F' vs ds → Q vs H') → ta σ H Q
structure DP (X : Cx) (Er : St → ErT) (w : List Sh) (e : Expr) (te : TE) (f : EM) : Prop where
  pe : PE X e te
  rd : DRP X.K Er w te f
structure DPT (X : Cx) (Er : St → ErT) (w : List Sh) (e : Expr) (tt : TT) (f : TM) : Prop where
  pe : PT X e tt
  rd : DRPt X.K Er w tt f
structure DPW (X : Cx) (Er : St → ErT) (w : List Sh) (e : Expr) (tt : TT) (f : TM) : Prop where
  pe : PW X e tt
  rd : DRPt X.K Er w tt f
structure DPA (X : Cx) (Er : St → ErT) (w : List Sh) (es : List Expr) (ta : TA) (f : AM) : Prop where
  pe : PA X es ta
  rd : DRPa X.K Er w ta f
section
variable {X : Cx} {K : PySem.W.Frag} {Er : St → ErT} {w : List Sh} {e : Expr} {es : List Expr} {te ta tb : TE} {tr : TA} {tt tu : TT} {pos : Pos}
/-- what never raises takes any wish -/
theorem drm_A {f : EF} (h : ∀ σ, DRd K (Er σ) te f) : DRP K Er w te (emA (w.map kindS) f) := by
  intro fr F H σ ρ Q st p
  refine h σ F H σ _ _ st.fh st.envA ?_
  unfold emA at p
  rw [hidA_k] at p
  cases e : f (hidA w ρ) with
  | ok d => rw [e] at p; exact fun F' H' gr v dv => p F' H' gr.ff (st.grow gr) v dv
  | err c => rw [e] at p; exact fun F' H' gr => p F' H' gr.ff (st.grow gr)
  | bad => rw [e] at p; exact p
theorem drm_V {f : EF} (h : ∀ σ, DRd K (Er σ) te f) : DRP K Er w te (emV (w.map kindS) f) := by
  intro fr F H σ ρ Q st p
  obtain ⟨W, s1, s2, env, fin⟩ := st.view
  refine h σ W H σ _ _ s2 env ?_
  unfold emV at p
  rw [hidO_k] at p
  cases e : f (hidO w ρ) with
  | ok d =>
    rw [e] at p
    simp only at p
    by_cases n : noList d = true
    · rw [if_pos n] at p
      intro W' H' gr v dv
      obtain ⟨F', s3, st', hd⟩ := fin W' H' gr
      exact p F' H' s3 st' v (hd v d n dv)
    · rw [if_neg n] at p; exact p.elim
  | err c =>
    rw [e] at p
    intro W' H' gr
    obtain ⟨F', s3, st', _⟩ := fin W' H' gr
    exact p F' H' s3 st'
  | bad => rw [e] at p; exact p
theorem drmt_V {f : TF} (h : ∀ σ, DRt K (Er σ) tt f) : DRPt K Er w tt (tmV (w.map kindS) f) := by
  intro fr F H σ ρ Q st p
  obtain ⟨W, s1, s2, env, fin⟩ := st.view
  refine h σ W H σ _ _ s2 env ?_
  unfold tmV at p
  rw [hidO_k] at p
  cases e : f (hidO w ρ) with
  | ok d =>
    rw [e] at p
    intro W' H' gr
    obtain ⟨F', s3, st', _⟩ := fin W' H' gr
    exact p F' H' s3 st'
  | err c =>
    rw [e] at p
    intro W' H' gr
    obtain ⟨F', s3, st', _⟩ := fin W' H' gr
    exact p F' H' s3 st'
  | bad => rw [e] at p; exact p
theorem dm_A {f : EF} (h : ∀ σ, DE X (Er σ) e te f) : DP X Er w e te (emA (w.map kindS) f) := ⟨(h []).pe, drm_A fun σ => (h σ).rd⟩
theorem dm_V {f : EF} (h : ∀ σ, DE X (Er σ) e te f) : DP X Er w e te (emV (w.map kindS) f) := ⟨(h []).pe, drm_V fun σ => (h σ).rd⟩
theorem dmt_V {f : TF} (h : ∀ σ, DT X (Er σ) e tt f) : DPT X Er w e tt (tmV (w.map kindS) f) := ⟨(h []).pe, drmt_V fun σ => (h σ).rd⟩
theorem drm_op {r : R2} {g : D → D → Option D} {fa fb : EM} (ho : OpG K r g) (ha : DRP K Er w ta fa) (hb : DRP K Er w tb fb) : DRP K Er w (tOp r ta tb) (op2P g fa fb) := by
  intro fr F H σ ρ Q st p
  refine ha fr F H σ ρ _ st (PostM.imp (PostM.bind p) fun F1 H1 ρ1 a s1 st1 p1 v dv => ?_)
  refine hb fr F1 H1 σ ρ1 _ st1 (PostM.imp (PostM.bind p1) fun F2 H2 ρ2 b s2 st2 p2 u du => ?_)
  obtain ⟨d, e, p3⟩ := post_opt p2
  exact ho F2 H2 v u a b d _ st2.fh (dp_mono s2 a v dv) du e fun v' F' H' gr dv' => p3 F' H' gr.ff (st2.grow gr) v' dv'
theorem dm_cmp {a b : Expr} {op : CmpOp} {r : R2} {g : D → D → Option D} {fa fb : EM} (hr : OpR X (compareOp op) r) (ho : OpG X.K r g) (ha : DP X Er w a ta fa) (hb : DP X Er w b tb fb) (hm : behindInMarks op b = false) : DP X Er w (.Compare a [op] [b] pos) (tOp r ta tb) (op2P g fa fb) :=
  ⟨pe_cmpR hr ha.pe hb.pe hm, drm_op ho ha.rd hb.rd⟩
theorem drm_test {f : EM} (h : DRP K Er w te f) : DRPt K Er w (tB te) (testP f) := by
  intro fr F H σ ρ Q st p
  refine h fr F H σ ρ _ st (PostM.imp (PostM.bind p) fun F1 H1 ρ1 a s1 st1 p1 v dv => ?_)
  cases a with
  | bool k => cases dv; exact ⟨k, rfl, PostM.now p1 st1⟩
  | _ => exact p1.elim
theorem dmt_cmp {a b : Expr} {op : CmpOp} {r : R2} {g : D → D → Option D} {fa fb : EM} (hr : OpR X (compareOp op) r) (ho : OpG X.K r g) (ha : DP X Er w a ta fa) (hb : DP X Er w b tb fb) (hm : behindInMarks op b = false) : DPT X Er w (.Compare a [op] [b] pos) (tTest (tOp r ta tb)) (testP (op2P g fa fb)) :=
  ⟨pt_cmpR hr ha.pe hb.pe hm, drm_test (drm_op ho ha.rd hb.rd)⟩
theorem dmt_val {f : EM} (h : DP X Er w e te f) (he : ∀ whole, isTrue e X.env whole = (do let v ← whole; standAt e.pos; holding [v] (truthy v)) := by intro _; rfl) : DPT X Er w e (tB te) (testP f) :=
  ⟨pt_val h.pe he, drm_test h.rd⟩
variable {a b : Expr} {rest : List Expr} {fa fb : TM}
theorem dmw_pt {f : TM} (h : DPW X Er w e tt f) : DPT X Er w e tt f := ⟨h.pe.pt, h.rd⟩
theorem dmw_or1 (h : DPT X Er w a tt fa) : DPW X Er w (.BoolOp .Or [a] pos) tt fa := ⟨pw_or1 h.pe, h.rd⟩
theorem dmw_and1 (h : DPT X Er w a tt fa) : DPW X Er w (.BoolOp .And [a] pos) tt fa := ⟨pw_and1 h.pe, h.rd⟩
theorem dmw_or (h : DPT X Er w a tt fa) (k : DPW X Er w (.BoolOp .Or (b :: rest) pos) tu fb) : DPW X Er w (.BoolOp .Or (a :: b :: rest) pos) (tOr tt tu) (orP fa fb) := by
  refine ⟨pw_or h.pe k.pe, fun fr F H σ ρ Q st p => ?_⟩
  refine h.rd fr F H σ ρ _ st (PostM.imp (PostM.bind p) fun F1 H1 ρ1 c s1 st1 p1 => ?_)
  cases c with
  | false => exact k.rd fr F1 H1 σ ρ1 Q st1 p1
  | true => exact PostM.now p1 st1
theorem dmw_and (h : DPT X Er w a tt fa) (k : DPW X Er w (.BoolOp .And (b :: rest) pos) tu fb) : DPW X Er w (.BoolOp .And (a :: b :: rest) pos) (tAnd tt tu) (andP fa fb) := by
  refine ⟨pw_and h.pe k.pe, fun fr F H σ ρ Q st p => ?_⟩
  refine h.rd fr F H σ ρ _ st (PostM.imp (PostM.bind p) fun F1 H1 ρ1 c s1 st1 p1 => ?_)
  cases c with
  | true => exact k.rd fr F1 H1 σ ρ1 Q st1 p1
  | false => exact PostM.now p1 st1
theorem dmt_not (h : DPT X Er w a tt fa) : DPT X Er w (.UnaryOp .Not a pos) (tNot tt) (notP fa) :=
  ⟨pt_not h.pe, fun fr F H σ ρ Q st p => h.rd fr F H σ ρ _ st (PostM.imp (PostM.bind p) fun F1 H1 ρ1 c s1 st1 p1 => PostM.now p1 st1)⟩
theorem dma_nil : DPA X Er w [] tNil nilP := ⟨pa_nil, fun fr F H σ ρ Q st h => PostM.now h st [] .nil⟩
theorem dma_cons {f : EM} {r : AM} (h : DP X Er w e te f) (k : DPA X Er w es tr r) (hs : starEach (e :: es) X.env = (false, eval e X.env) :: starEach es X.env := by rfl) : DPA X Er w (e :: es) (tCons te tr) (consP f r) := by
  refine ⟨pa_cons h.pe k.pe hs, fun fr F H σ ρ Q st p => ?_⟩
  refine h.rd fr F H σ ρ _ st (PostM.imp (PostM.bind p) fun F1 H1 ρ1 a s1 st1 p1 v dv => ?_)
  refine k.rd fr F1 H1 σ ρ1 _ st1 (PostM.imp (PostM.bind p1) fun F2 H2 ρ2 ds s2 st2 p2 vs dvs => ?_)
  exact PostM.now p2 st2 _ (.cons (dp_mono s2 a v dv) dvs)
theorem dm_tup {f : AM} {k} (h : DPA X Er w es tr f) : DP X Er w (.Tuple es k pos) (tTup tr) (tupP f) := by
  refine ⟨pe_tup h.pe, fun fr F H σ ρ Q st p => ?_⟩
  refine h.rd fr F H σ ρ _ st (PostM.imp (PostM.bind p) fun F1 H1 ρ1 ds s1 st1 p1 vs dvs => ?_)
  have el := dpAll_len dvs
  by_cases hl : ds.length ≤ 1000000
  · rw [if_pos hl] at p1
    refine ⟨sz_of (by omega), fun a ha => ?_⟩
    have g := Grow.new (o := .tup vs) st1.fh ha
    exact p1 _ _ g.ff (st1.grow g) _ (.tup (.inl (.inl upd_same)) (dpAll_mono g.ff ds vs dvs))
  · rw [if_neg hl] at p1; exact p1.elim
theorem dm_if {c a b : Expr} {fc : TM} {f1 f2 : EM} (hc : DPT X Er w c tt fc) (h : DP X Er w a ta f1) (h2 : DP X Er w b tb f2) : DP X Er w (.IfExp c a b pos) (tIf tt ta tb) (ifeP fc f1 f2) := by
  refine ⟨pe_ifExp hc.pe h.pe h2.pe, fun fr F H σ ρ Q st p => ?_⟩
  refine hc.rd fr F H σ ρ _ st (PostM.imp (PostM.bind p) fun F1 H1 ρ1 c s1 st1 p1 => ?_)
  cases c with
  | true => exact h.rd fr F1 H1 σ ρ1 Q st1 p1
  | false => exact h2.rd fr F1 H1 σ ρ1 Q st1 p1
end
/-! ### the fields -/
section
variable {K : PySem.W.Frag} {fr : Fr} {w : List Sh} {F H : Hp} {σ : St} {ρ : Env} {P : PC} {c : V → Prop} {i : Nat} {d : D}
/-- the object that slot i owns, its memory written anew -/
theorem SR.obj (h : SR K fr w F H σ ρ) (hw : sh w i = .ob (pC P c)) (e : ρ[i]? = some (some d)) : ∃ a dx pa ga C v1 v2 xs ys T S ds es, σ[i]? = some (some (.ref a)) ∧ d = pntD P T S ds es ∧ PySem.W.nsIn K mainGlobals P.cn = some (some (.ref C)) ∧ Ap a dx pa ga ∧
    H a = some (.ins C dx (pntF P v1 v2 pa ga)) ∧ H pa = some (.lst xs) ∧ H ga = some (.lst ys) ∧ F a = none ∧ F pa = none ∧ F ga = none ∧ ¬ Mem.is pa ∧ ¬ Mem.is ga ∧ Dp K F v1 T ∧ Dp K F v2 S ∧ DpAll K F xs ds ∧ DpAll K F ys es ∧
    (∀ v2' S', Dp K F v2' S' → SR K fr w F (upd H a (.ins C dx (pntF P v1 v2' pa ga))) σ (ρ.set i (some (pntD P T S' ds es)))) ∧
    (∀ xs' ds', DpAll K F xs' ds' → SR K fr w F (upd H pa (.lst xs')) σ (ρ.set i (some (pntD P T S ds' es)))) ∧
    (∀ ys' es', DpAll K F ys' es' → SR K fr w F (upd H ga (.lst ys')) σ (ρ.set i (some (pntD P T S ds es')))) ∧
    (∀ q, H q = none → SR K fr w F (upd (upd H q (.lst [])) a (.ins C dx (pntF P v1 v2 q ga))) σ (ρ.set i (some (pntD P T S [] es)))) ∧
    (∀ q, H q = none → SR K fr w F (upd (upd H q (.lst [])) a (.ins C dx (pntF P v1 v2 pa q))) σ (ρ.set i (some (pntD P T S ds [])))) := by
  obtain ⟨v, o, e1, ⟨hc, a, dx, pa, ga, C, v1, v2, xs, ys, T, S, ds, es, rfl, q2, q⟩, sO, off, put⟩ := h.own hw e
  have A := q.ap
  have m := q.mem
  have oa : o a = some (.ins C dx (pntF P v1 v2 pa ga)) := by rw [m]; exact pMem_a
  have od : o dx = some (.own a) := by rw [m]; exact pMem_d A
  have op : o pa = some (.lst xs) := by rw [m]; exact pMem_p A
  have og : o ga = some (.lst ys) := by rw [m]; exact pMem_g A
  have rest : ∀ b, b ≠ a → b ≠ dx → b ≠ pa → b ≠ ga → o b = none := fun b h1 h2 h3 h4 => by rw [m]; exact pMem_none h1 h2 h3 h4
  have ro : ∀ {b}, o b = none → b ≠ a ∧ b ≠ dx ∧ b ≠ pa ∧ b ≠ ga := fun {b} z => ⟨fun y => (by rw [y, oa] at z; cases z), fun y => (by rw [y, od] at z; cases z), fun y => (by rw [y, op] at z; cases z), fun y => (by rw [y, og] at z; cases z)⟩
  refine ⟨a, dx, pa, ga, C, v1, v2, xs, ys, T, S, ds, es, e1, q2, q.cl, A, sO a _ oa, sO pa _ op, sO ga _ og, (off a (by rw [oa]; simp)).1, (off pa (by rw [op]; simp)).1, (off ga (by rw [og]; simp)).1, (off pa (by rw [op]; simp)).2, (off ga (by rw [og]; simp)).2, q.d1, q.d2, q.d3, q.d4, fun v2' S' dv => ?_, fun xs' ds' dv => ?_, fun ys' es' dv => ?_, fun z hz => ?_, fun z hz => ?_⟩
  · refine put (pMem a dx pa ga (.ins C dx (pntF P v1 v2' pa ga)) xs ys) _ _ ⟨hc, a, dx, pa, ga, C, v1, v2', xs, ys, T, S', ds, es, rfl, rfl, q.cl, A, rfl, q.d1, dv, q.d3, q.d4⟩ (fun b u z => ?_) (fun b z => .inl ?_) (fun b u z y => by rw [upd_ne (ro y).1]; exact z)
    · by_cases hb : b = a
      · subst hb; rw [pMem_a] at z; rw [upd_same]; exact z
      · rw [upd_ne hb]
        refine sO b u ?_
        rw [m]
        unfold pMem at z ⊢
        rw [if_neg hb] at z ⊢
        exact z
    · rcases pMem_off z with rfl | rfl | rfl | rfl
      · rw [oa]; simp
      · rw [od]; simp
      · rw [op]; simp
      · rw [og]; simp
  · refine put (pMem a dx pa ga (.ins C dx (pntF P v1 v2 pa ga)) xs' ys) _ _ ⟨hc, a, dx, pa, ga, C, v1, v2, xs', ys, T, S, ds', es, rfl, rfl, q.cl, A, rfl, q.d1, q.d2, dv, q.d4⟩ (fun b u z => ?_) (fun b z => .inl ?_) (fun b u z y => by rw [upd_ne (ro y).2.2.1]; exact z)
    · by_cases hb : b = pa
      · subst hb; rw [pMem_p A] at z; rw [upd_same]; exact z
      · rw [upd_ne hb]
        refine sO b u ?_
        rw [m]
        unfold pMem at z ⊢
        rw [if_neg hb] at z ⊢
        exact z
    · rcases pMem_off z with rfl | rfl | rfl | rfl
      · rw [oa]; simp
      · rw [od]; simp
      · rw [op]; simp
      · rw [og]; simp
  · refine put (pMem a dx pa ga (.ins C dx (pntF P v1 v2 pa ga)) xs ys') _ _ ⟨hc, a, dx, pa, ga, C, v1, v2, xs, ys', T, S, ds, es', rfl, rfl, q.cl, A, rfl, q.d1, q.d2, q.d3, dv⟩ (fun b u z => ?_) (fun b z => .inl ?_) (fun b u z y => by rw [upd_ne (ro y).2.2.2]; exact z)
    · by_cases hb : b = ga
      · subst hb; rw [pMem_g A] at z; rw [upd_same]; exact z
      · rw [upd_ne hb]
        refine sO b u ?_
        rw [m]
        unfold pMem at z ⊢
        rw [if_neg hb] at z ⊢
        exact z
    · rcases pMem_off z with rfl | rfl | rfl | rfl
      · rw [oa]; simp
      · rw [od]; simp
      · rw [op]; simp
      · rw [og]; simp
  · have na : z ≠ a := fun y => by rw [y, sO a _ oa] at hz; cases hz
    have nd : z ≠ dx := fun y => by rw [y, sO dx _ od] at hz; cases hz
    have np : z ≠ pa := fun y => by rw [y, sO pa _ op] at hz; cases hz
    have ng : z ≠ ga := fun y => by rw [y, sO ga _ og] at hz; cases hz
    refine put (pMem a dx z ga (.ins C dx (pntF P v1 v2 z ga)) [] ys) _ _ ⟨hc, a, dx, z, ga, C, v1, v2, [], ys, T, S, [], es, rfl, rfl, q.cl, ⟨A.ad, Ne.symm na, A.ag, Ne.symm nd, A.dg, ng⟩, rfl, q.d1, q.d2, .nil, q.d4⟩ (fun b u y => ?_) (fun b y => ?_) (fun b u y1 y2 => by rw [upd_ne (ro y2).1, upd_ne (ne_of_none y1 hz)]; exact y1)
    · by_cases hb : b = a
      · subst hb; rw [pMem_a] at y; rw [upd_same]; exact y
      · rw [upd_ne hb]
        unfold pMem at y
        rw [if_neg hb] at y
        by_cases hb2 : b = dx
        · rw [if_pos hb2] at y; rw [hb2, upd_ne (Ne.symm nd)]; rw [← y]; exact sO dx _ od
        · rw [if_neg hb2] at y
          by_cases hb3 : b = z
          · rw [if_pos hb3] at y; rw [hb3, upd_same]; exact y
          · rw [if_neg hb3] at y
            by_cases hb4 : b = ga
            · rw [if_pos hb4] at y; rw [hb4, upd_ne (Ne.symm ng), ← y]; exact sO ga _ og
            · rw [if_neg hb4] at y; cases y
    · rcases pMem_off y with rfl | rfl | rfl | rfl
      · left; rw [oa]; simp
      · left; rw [od]; simp
      · right; exact hz
      · left; rw [og]; simp
  · have na : z ≠ a := fun y => by rw [y, sO a _ oa] at hz; cases hz
    have nd : z ≠ dx := fun y => by rw [y, sO dx _ od] at hz; cases hz
    have np : z ≠ pa := fun y => by rw [y, sO pa _ op] at hz; cases hz
    have ng : z ≠ ga := fun y => by rw [y, sO ga _ og] at hz; cases hz
    refine put (pMem a dx pa z (.ins C dx (pntF P v1 v2 pa z)) xs []) _ _ ⟨hc, a, dx, pa, z, C, v1, v2, xs, [], T, S, ds, [], rfl, rfl, q.cl, ⟨A.ad, A.ap, Ne.symm na, A.dp, Ne.symm nd, Ne.symm np⟩, rfl, q.d1, q.d2, q.d3, .nil⟩ (fun b u y => ?_) (fun b y => ?_) (fun b u y1 y2 => by rw [upd_ne (ro y2).1, upd_ne (ne_of_none y1 hz)]; exact y1)
    · by_cases hb : b = a
      · subst hb; rw [pMem_a] at y; rw [upd_same]; exact y
      · rw [upd_ne hb]
        unfold pMem at y
        rw [if_neg hb] at y
        by_cases hb2 : b = dx
        · rw [if_pos hb2] at y; rw [hb2, upd_ne (Ne.symm nd)]; rw [← y]; exact sO dx _ od
        · rw [if_neg hb2] at y
          by_cases hb3 : b = pa
          · rw [if_pos hb3] at y; rw [hb3, upd_ne (Ne.symm np), ← y]; exact sO pa _ op
          · rw [if_neg hb3] at y
            by_cases hb4 : b = z
            · rw [if_pos hb4] at y; rw [hb4, upd_same]; exact y
            · rw [if_neg hb4] at y; cases y
    · rcases pMem_off y with rfl | rfl | rfl | rfl
      · left; rw [oa]; simp
      · left; rw [od]; simp
      · left; rw [op]; simp
      · right; exact hz
end
end
end DL

set_option maxHeartbeats 1000000
/-! PN3: the fields of such an object read and changed. -/
namespace DL
open PySem PySem.Spec L2
open PyProof.Rows hiding St
structure PcOk (P : PC) : Prop where
  n12 : (P.f1 == P.f2) = false
  n13 : (P.f1 == P.f3) = false
  n14 : (P.f1 == P.f4) = false
  n21 : (P.f2 == P.f1) = false
  n23 : (P.f2 == P.f3) = false
  n24 : (P.f2 == P.f4) = false
  n31 : (P.f3 == P.f1) = false
  n32 : (P.f3 == P.f2) = false
  n34 : (P.f3 == P.f4) = false
  n41 : (P.f4 == P.f1) = false
  n42 : (P.f4 == P.f2) = false
  n43 : (P.f4 == P.f3) = false
section
variable {P : PC} (h : PcOk P) {v1 v2 v : V} {pa ga q : Addr}
theorem PcOk.l1 : (pntF P v1 v2 pa ga).lookup P.f1 = some v1 := by simp [pntF, List.lookup_cons]
include h
theorem PcOk.l2 : (pntF P v1 v2 pa ga).lookup P.f2 = some v2 := by simp [pntF, List.lookup_cons, h.n21]
theorem PcOk.l3 : (pntF P v1 v2 pa ga).lookup P.f3 = some (.ref pa) := by simp [pntF, List.lookup_cons, h.n31, h.n32]
theorem PcOk.l4 : (pntF P v1 v2 pa ga).lookup P.f4 = some (.ref ga) := by simp [pntF, List.lookup_cons, h.n41, h.n42, h.n43]
theorem bne_ne {x y : Str} (z : (x == y) = false) : x ≠ y := fun e => by subst e; simp at z
theorem PcOk.p2 : putF P.f2 v (pntF P v1 v2 pa ga) = pntF P v1 v pa ga := by
  have := bne_ne h h.n12
  simp [pntF, putF, this]
theorem PcOk.p3 : putF P.f3 (.ref q) (pntF P v1 v2 pa ga) = pntF P v1 v2 q ga := by
  have a := bne_ne h h.n13
  have b := bne_ne h h.n23
  simp [pntF, putF, a, b]
theorem PcOk.p4 : putF P.f4 (.ref q) (pntF P v1 v2 pa ga) = pntF P v1 v2 pa q := by
  have a := bne_ne h h.n14
  have b := bne_ne h h.n24
  have c := bne_ne h h.n34
  simp [pntF, putF, a, b, c]
end
/-- the object's parts written anew -/
def putP (P : PC) (i : Nat) (q : D × D × List D × List D) (ρ : Env) : Env := ρ.set i (some (pntD P q.1 q.2.1 q.2.2.1 q.2.2.2))
def pop3M (P : PC) (i : Nat) : EM := atP P i fun q ρ => match q.2.2.1.getLast? with
  | some d => .ok d (putP P i (q.1, q.2.1, q.2.2.1.dropLast, q.2.2.2) ρ)
  | none => .bad
def pop4M (P : PC) (i : Nat) : EM := atP P i fun q ρ => match q.2.2.2.getLast? with
  | some d => .ok d (putP P i (q.1, q.2.1, q.2.2.1, q.2.2.2.dropLast) ρ)
  | none => .bad
def outX {α : Type} (r : RM α) (k : α → Env → Out) : Out := match r with
  | .ok a ρ1 => k a ρ1
  | .err c ρ1 => .err c ρ1
  | .bad => .bad
/-- x.f2 = e -/
def set2S (P : PC) (i : Nat) (fe : EM) : SF := fun ρ => outX (bP fe (fun d => atP P i fun q ρ1 => .ok PyData.none (putP P i (q.1, d, q.2.2.1, q.2.2.2) ρ1)) ρ) fun _ ρ1 => .nx ρ1
def stS (f : EM) : SF := fun ρ => outX (f ρ) fun _ ρ1 => .nx ρ1
/-- x.f3 = [], x.f4 = [] -/
def new3M (P : PC) (i : Nat) : EM := atP P i fun q ρ => .ok .none (putP P i (q.1, q.2.1, [], q.2.2.2) ρ)
def new4M (P : PC) (i : Nat) : EM := atP P i fun q ρ => .ok .none (putP P i (q.1, q.2.1, q.2.2.1, []) ρ)
/-- x.f3.append(x.f2), x.f4.append(x.f2) -/
def app3M (P : PC) (i : Nat) : EM := atP P i fun q ρ => if q.2.2.1.length < 1000000 then .ok .none (putP P i (q.1, q.2.1, q.2.2.1 ++ [q.2.1], q.2.2.2) ρ) else .bad
def app4M (P : PC) (i : Nat) : EM := atP P i fun q ρ => if q.2.2.2.length < 1000000 then .ok .none (putP P i (q.1, q.2.1, q.2.2.1, q.2.2.2 ++ [q.2.1]) ρ) else .bad
section
variable [Mem]
section
variable {α : Type} {K : PySem.W.Frag} {fr : Fr} {w : List Sh} {F H : Hp} {σ : St} {ρ : Env} {P : PC} {c : V → Prop} {i : Nat} {Er : ErT}
theorem post_at {k : D × D × List D × List D → Env → RM α} {R : Hp → Hp → Env → α → Prop} (p : PostM K fr w Er F σ (atP P i k ρ) R) : ∃ d q, ρ[i]? = some (some d) ∧ pntOf P d = some q ∧ PostM K fr w Er F σ (k q ρ) R := by
  unfold atP at p
  cases e : ρ[i]? with
  | none => rw [e] at p; exact p.elim
  | some o =>
    cases o with
    | none => rw [e] at p; exact p.elim
    | some d =>
      rw [e] at p
      simp only at p
      cases e2 : pntOf P d with
      | none => rw [e2] at p; exact p.elim
      | some q => rw [e2] at p; exact ⟨d, q, rfl, e2, p⟩
end
section
variable {X : Cx} {mg : Str → Option Value} {Er : St → ErT} {w : List Sh} {P : PC} {fl : List Str} {c : V → Prop} {i : Nat} {x : Str} {p1 p2 p3 pos : Pos}
theorem fld_pe {f : Str} (hN : X.N[i]? = some x) (hv : Vis X.env.scope x) (hd : (x == ("__debug__" : Str)) = false := by decide) (hcd : (x == ("__classdict__" : Str)) = false := by decide)
    (hb : attributeBase (.Name x p1) f X.env (eval (.Name x p1) X.env) = eval (.Name x p1) X.env := by rfl) : PE X (.Attribute (.Name x p1) f pos) (tFld X.K (tVar i) f) := pe_fld (pe_var hN hv hd hcd) hb
theorem drp_fld1 {K : PySem.W.Frag} (hw : sh w i = .ob (pC P c)) (T : KlI K mg P.cn fl) (hf : P.f1 ∈ fl) : DRP K Er w (tFld K (tVar i) P.f1) (fld1M P i) := by
  intro fr F H σ ρ Q st p
  obtain ⟨d, q, e, e2, p⟩ := post_at p
  obtain ⟨a, dx, pa, ga, C, v1, v2, xs, ys, T1, S, ds, es, q1, rfl, hC, A, h1, h2, h3, n0, n1, n2, m1, m2, d1, d2, d3, d4, r2, r3, r4, r5, r6⟩ := st.obj hw e
  rw [pntOf_pnt] at e2
  cases e2
  obtain ⟨cl, na⟩ := T.fld hf C hC
  exact ⟨_, q1, a, C, dx, _, v1, rfl, h1, cl, na, PcOk.l1, PostM.now p st v1 d1⟩
theorem drp_fld2 {K : PySem.W.Frag} (hw : sh w i = .ob (pC P c)) (T : KlI K mg P.cn fl) (ok : PcOk P) (hf : P.f2 ∈ fl) : DRP K Er w (tFld K (tVar i) P.f2) (fld2M P i) := by
  intro fr F H σ ρ Q st p
  obtain ⟨d, q, e, e2, p⟩ := post_at p
  obtain ⟨a, dx, pa, ga, C, v1, v2, xs, ys, T1, S, ds, es, q1, rfl, hC, A, h1, h2, h3, n0, n1, n2, m1, m2, d1, d2, d3, d4, r2, r3, r4, r5, r6⟩ := st.obj hw e
  rw [pntOf_pnt] at e2
  cases e2
  obtain ⟨cl, na⟩ := T.fld hf C hC
  exact ⟨_, q1, a, C, dx, _, v2, rfl, h1, cl, na, ok.l2, PostM.now p st v2 d2⟩
theorem drp_len3 {K : PySem.W.Frag} (hw : sh w i = .ob (pC P c)) (T : KlI K mg P.cn fl) (ok : PcOk P) (hf : P.f3 ∈ fl) : DRP K Er w (tCB (rLenX K) (tCons (tFld K (tVar i) P.f3) tNil)) (len3M P i) := by
  intro fr F H σ ρ Q st p
  obtain ⟨d, q, e, e2, p⟩ := post_at p
  obtain ⟨a, dx, pa, ga, C, v1, v2, xs, ys, T1, S, ds, es, q1, rfl, hC, A, h1, h2, h3, n0, n1, n2, m1, m2, d1, d2, d3, d4, r2, r3, r4, r5, r6⟩ := st.obj hw e
  rw [pntOf_pnt] at e2
  cases e2
  simp only at p
  split at p
  · obtain ⟨cl, na⟩ := T.fld hf C hC
    exact ⟨_, q1, a, C, dx, _, _, rfl, h1, cl, na, ok.l3, _, _, rfl, .inl ⟨_, .inl (.inl h2), (dpAll_len d3).symm⟩, PostM.now p st _ (.int _)⟩
  · exact p.elim
theorem drp_len4 {K : PySem.W.Frag} (hw : sh w i = .ob (pC P c)) (T : KlI K mg P.cn fl) (ok : PcOk P) (hf : P.f4 ∈ fl) : DRP K Er w (tCB (rLenX K) (tCons (tFld K (tVar i) P.f4) tNil)) (len4M P i) := by
  intro fr F H σ ρ Q st p
  obtain ⟨d, q, e, e2, p⟩ := post_at p
  obtain ⟨a, dx, pa, ga, C, v1, v2, xs, ys, T1, S, ds, es, q1, rfl, hC, A, h1, h2, h3, n0, n1, n2, m1, m2, d1, d2, d3, d4, r2, r3, r4, r5, r6⟩ := st.obj hw e
  rw [pntOf_pnt] at e2
  cases e2
  simp only at p
  split at p
  · obtain ⟨cl, na⟩ := T.fld hf C hC
    exact ⟨_, q1, a, C, dx, _, _, rfl, h1, cl, na, ok.l4, _, _, rfl, .inl ⟨_, .inl (.inl h3), (dpAll_len d4).symm⟩, PostM.now p st _ (.int _)⟩
  · exact p.elim
theorem drp_nil3 {K : PySem.W.Frag} (hw : sh w i = .ob (pC P c)) (T : KlI K mg P.cn fl) (ok : PcOk P) (hf : P.f3 ∈ fl) : DRP K Er w (tOp (rEqD K) (tFld K (tVar i) P.f3) (tLst tNil)) (nil3M P i) := by
  intro fr F H σ ρ Q st p
  obtain ⟨d, q, e, e2, p⟩ := post_at p
  obtain ⟨a, dx, pa, ga, C, v1, v2, xs, ys, T1, S, ds, es, q1, rfl, hC, A, h1, h2, h3, n0, n1, n2, m1, m2, d1, d2, d3, d4, r2, r3, r4, r5, r6⟩ := st.obj hw e
  rw [pntOf_pnt] at e2
  cases e2
  obtain ⟨r, e3, p⟩ := post_opt p
  obtain ⟨cl, na⟩ := T.fld hf C hC
  refine ⟨_, q1, a, C, dx, _, _, rfl, h1, cl, na, ok.l3, Nat.zero_le _, fun b hb => ?_⟩
  have g := Grow.new (o := .lst []) st.fh hb
  unfold eqD at e3
  split at e3 <;> cases e3
  rename_i hh
  refine ⟨_, _, .lst (.inl (.inl (by rw [upd_ne (ne_of_none h2 hb)]; exact h2))) ((dpAll_mono (same_trans g.ff g.fh.s) _ _ d3).old (SeqAt.canLay_of_shaped hh.1)), .lst (.inl (.inl upd_same)) .nil, hh.1, hh.2, p _ _ g.ff (st.grow g) _ (.bl _)⟩
theorem drp_nil4 {K : PySem.W.Frag} (hw : sh w i = .ob (pC P c)) (T : KlI K mg P.cn fl) (ok : PcOk P) (hf : P.f4 ∈ fl) : DRP K Er w (tOp (rEqD K) (tFld K (tVar i) P.f4) (tLst tNil)) (nil4M P i) := by
  intro fr F H σ ρ Q st p
  obtain ⟨d, q, e, e2, p⟩ := post_at p
  obtain ⟨a, dx, pa, ga, C, v1, v2, xs, ys, T1, S, ds, es, q1, rfl, hC, A, h1, h2, h3, n0, n1, n2, m1, m2, d1, d2, d3, d4, r2, r3, r4, r5, r6⟩ := st.obj hw e
  rw [pntOf_pnt] at e2
  cases e2
  obtain ⟨r, e3, p⟩ := post_opt p
  obtain ⟨cl, na⟩ := T.fld hf C hC
  refine ⟨_, q1, a, C, dx, _, _, rfl, h1, cl, na, ok.l4, Nat.zero_le _, fun b hb => ?_⟩
  have g := Grow.new (o := .lst []) st.fh hb
  unfold eqD at e3
  split at e3 <;> cases e3
  rename_i hh
  refine ⟨_, _, .lst (.inl (.inl (by rw [upd_ne (ne_of_none h3 hb)]; exact h3))) ((dpAll_mono (same_trans g.ff g.fh.s) _ _ d4).old (SeqAt.canLay_of_shaped hh.1)), .lst (.inl (.inl upd_same)) .nil, hh.1, hh.2, p _ _ g.ff (st.grow g) _ (.bl _)⟩
theorem last_get {α : Type} (xs : List α) : xs[xs.length - 1]? = xs.getLast? := List.getLast?_eq_getElem?.symm
theorem dpAll_last {K : PySem.W.Frag} {F : Hp} {xs : List V} {ds : List D} {d : D} (h : DpAll K F xs ds) (e : ds.getLast? = some d) : ∃ v, xs[xs.length - 1]? = some v ∧ Dp K F v d ∧ DpAll K F xs.dropLast ds.dropLast := by
  have hl := dpAll_len h
  rw [← last_get] at e
  rw [← hl] at e
  obtain ⟨v, e1, e2⟩ := dpAll_get h e
  refine ⟨v, e1, e2, ?_⟩
  have t : ∀ {xs : List V} {ds : List D}, DpAll K F xs ds → DpAll K F xs.dropLast ds.dropLast := fun {xs} => by
    induction xs with
    | nil => intro ds h; cases h; exact .nil
    | cons x xs ih =>
      intro ds h
      cases h with
      | cons h1 h2 =>
        cases xs with
        | nil => cases h2; exact .nil
        | cons y ys =>
          cases h2 with
          | cons h3 h4 => exact .cons h1 (ih (.cons h3 h4))
  exact t h
theorem drp_pop3 {K : PySem.W.Frag} (hw : sh w i = .ob (pC P c)) (T : KlI K mg P.cn fl) (ok : PcOk P) (hf : P.f3 ∈ fl) : DRP K Er w (tBM0 K "list" rPop (tFld K (tVar i) P.f3)) (pop3M P i) := by
  intro fr F H σ ρ Q st p
  obtain ⟨d, q, e, e2, p⟩ := post_at p
  obtain ⟨a, dx, pa, ga, C, v1, v2, xs, ys, T1, S, ds, es, q1, rfl, hC, A, h1, h2, h3, n0, n1, n2, m1, m2, d1, d2, d3, d4, r2, r3, r4, r5, r6⟩ := st.obj hw e
  rw [pntOf_pnt] at e2
  cases e2
  simp only at p
  cases el : ds.getLast? with
  | none => rw [el] at p; exact p.elim
  | some y =>
    rw [el] at p
    obtain ⟨v, z1, z2, z3⟩ := dpAll_last d3 el
    obtain ⟨cl, na⟩ := T.fld hf C hC
    exact ⟨_, q1, a, C, dx, _, _, rfl, h1, cl, na, ok.l3, .inl ⟨rfl, _, .inl (.inl h2)⟩, pa, xs, v, rfl, rfl, h2, z1, p _ _ (same_refl _) (r3 _ _ z3) v z2⟩
theorem drp_pop4 {K : PySem.W.Frag} (hw : sh w i = .ob (pC P c)) (T : KlI K mg P.cn fl) (ok : PcOk P) (hf : P.f4 ∈ fl) : DRP K Er w (tBM0 K "list" rPop (tFld K (tVar i) P.f4)) (pop4M P i) := by
  intro fr F H σ ρ Q st p
  obtain ⟨d, q, e, e2, p⟩ := post_at p
  obtain ⟨a, dx, pa, ga, C, v1, v2, xs, ys, T1, S, ds, es, q1, rfl, hC, A, h1, h2, h3, n0, n1, n2, m1, m2, d1, d2, d3, d4, r2, r3, r4, r5, r6⟩ := st.obj hw e
  rw [pntOf_pnt] at e2
  cases e2
  simp only at p
  cases el : es.getLast? with
  | none => rw [el] at p; exact p.elim
  | some y =>
    rw [el] at p
    obtain ⟨v, z1, z2, z3⟩ := dpAll_last d4 el
    obtain ⟨cl, na⟩ := T.fld hf C hC
    exact ⟨_, q1, a, C, dx, _, _, rfl, h1, cl, na, ok.l4, .inl ⟨rfl, _, .inl (.inl h3)⟩, ga, ys, v, rfl, rfl, h3, z1, p _ _ (same_refl _) (r4 _ _ z3) v z2⟩
theorem drp_app3 {K : PySem.W.Frag} (hw : sh w i = .ob (pC P c)) (T : KlI K mg P.cn fl) (ok : PcOk P) (hf : P.f3 ∈ fl) (hf2 : P.f2 ∈ fl) : DRP K Er w (tBM K "list" rAppend (tFld K (tVar i) P.f3) (tCons (tFld K (tVar i) P.f2) tNil)) (app3M P i) := by
  intro fr F H σ ρ Q st p
  obtain ⟨d, q, e, e2, p⟩ := post_at p
  obtain ⟨a, dx, pa, ga, C, v1, v2, xs, ys, T1, S, ds, es, q1, rfl, hC, A, h1, h2, h3, n0, n1, n2, m1, m2, d1, d2, d3, d4, r2, r3, r4, r5, r6⟩ := st.obj hw e
  rw [pntOf_pnt] at e2
  cases e2
  simp only at p
  by_cases hl : ds.length < 1000000
  · rw [if_pos hl] at p
    obtain ⟨cl, na⟩ := T.fld hf C hC
    obtain ⟨_, na2⟩ := T.fld hf2 C hC
    exact ⟨_, q1, a, C, dx, _, _, rfl, h1, cl, na, ok.l3, .inl ⟨rfl, _, .inl (.inl h2)⟩, _, q1, a, C, dx, _, v2, rfl, h1, cl, na2, ok.l2, pa, xs, v2, rfl, rfl, h2, sz_lt (by rw [dpAll_len d3]; exact hl), p _ _ (same_refl _) (r3 _ _ (dpAll_app d3 (.cons d2 .nil))) _ .non⟩
  · rw [if_neg hl] at p; exact p.elim
theorem drp_app4 {K : PySem.W.Frag} (hw : sh w i = .ob (pC P c)) (T : KlI K mg P.cn fl) (ok : PcOk P) (hf : P.f4 ∈ fl) (hf2 : P.f2 ∈ fl) : DRP K Er w (tBM K "list" rAppend (tFld K (tVar i) P.f4) (tCons (tFld K (tVar i) P.f2) tNil)) (app4M P i) := by
  intro fr F H σ ρ Q st p
  obtain ⟨d, q, e, e2, p⟩ := post_at p
  obtain ⟨a, dx, pa, ga, C, v1, v2, xs, ys, T1, S, ds, es, q1, rfl, hC, A, h1, h2, h3, n0, n1, n2, m1, m2, d1, d2, d3, d4, r2, r3, r4, r5, r6⟩ := st.obj hw e
  rw [pntOf_pnt] at e2
  cases e2
  simp only at p
  by_cases hl : es.length < 1000000
  · rw [if_pos hl] at p
    obtain ⟨cl, na⟩ := T.fld hf C hC
    obtain ⟨_, na2⟩ := T.fld hf2 C hC
    exact ⟨_, q1, a, C, dx, _, _, rfl, h1, cl, na, ok.l4, .inl ⟨rfl, _, .inl (.inl h3)⟩, _, q1, a, C, dx, _, v2, rfl, h1, cl, na2, ok.l2, ga, ys, v2, rfl, rfl, h3, sz_lt (by rw [dpAll_len d4]; exact hl), p _ _ (same_refl _) (r4 _ _ (dpAll_app d4 (.cons d2 .nil))) _ .non⟩
  · rw [if_neg hl] at p; exact p.elim
end
/-! ### statements -/
section
variable {X : Cx} {mg : Str → Option Value} {Er : ErT} {s0 : Sh} {wl w w' : List Sh} {P : PC} {fl : List Str} {c : V → Prop} {i : Nat} {x : Str} {te : TE} {tt : TT} {p1 p2 p3 pos : Pos} {t : TS} {f : SF}
theorem post_sm {α : Type} {K : PySem.W.Frag} {fr : Fr} {F : Hp} {σ : St} {Dn : Ends} {r : RM α} {k : α → Env → Out} (hw : sh w 0 = s0)
    (p : PostS K fr s0 wl w' F Er (outX r k) Dn) : PostM K fr w Er F σ r fun F1 _ ρ1 a => PostS K fr s0 wl w' F1 Er (k a ρ1) Dn := by
  cases r with
  | ok a ρ1 => exact fun F' H' s st => PostS.mono p s
  | err c ρ1 => exact fun F' H' _ st => p σ F' H' w hw st
  | bad => exact p
def retP (f : EM) : SF := fun ρ => outX (f ρ) fun d ρ1 => .rt d ρ1
def ifP (t : TM) (a b : SF) : SF := fun ρ => outX (t ρ) fun k ρ1 => if k = true then a ρ1 else b ρ1
def asgP (i : Nat) (f : EM) : SF := fun ρ => outX (f ρ) fun d ρ1 => .nx (ρ1.set i (some d))
theorem d_retP {e : Expr} {fe : EM} (h : DP X (fun _ => Er) w e te fe) (hw : sh w 0 = s0 := by rfl) : D1 X Er s0 wl w (.Return (some e) pos) w' (tRet te) (retP fe) :=
  ⟨ps_ret h.pe, fun fr F H σ ρ Dn st p => h.rd fr F H σ ρ _ st (PostM.imp (post_sm (k := fun d ρ1 => .rt d ρ1) hw p) fun F1 H1 ρ1 d s1 st1 p1 v dv => p1 σ F1 H1 v w hw st1 dv)⟩
theorem d_ifP {c : Expr} {a b : List Stmt} {fc : TM} {ta' tb' : TS} {fa fb : SF} (hc : DPT X (fun _ => Er) w c tt fc) (ha : DS X Er s0 wl w a w' ta' fa) (hb : DS X Er s0 wl w b w' tb' fb) (hw : sh w 0 = s0 := by rfl) : D1 X Er s0 wl w (.If c a b pos) w' (tIfS tt ta' tb') (ifP fc fa fb) := by
  refine ⟨ps_if hc.pe ha.ps hb.ps, fun fr F H σ ρ Dn st p => hc.rd fr F H σ ρ _ st (PostM.imp (post_sm (k := fun k ρ1 => if k = true then fa ρ1 else fb ρ1) hw p) fun F1 H1 ρ1 k s1 st1 p1 => ?_)⟩
  cases k with
  | true => exact ha.rd fr F1 H1 σ ρ1 Dn st1 p1
  | false => exact hb.rd fr F1 H1 σ ρ1 Dn st1 p1
theorem d_dropP {e : Expr} {fe : EM} (h : DP X (fun _ => Er) w e te fe) (hw : sh w 0 = s0 := by rfl) (hs : swapsWith e none pos.line X.env = pure false := by rfl) : D1 X Er s0 wl w (.Expr e pos) w (tDrop te) (stS fe) :=
  ⟨ps_expr h.pe hs, fun fr F H σ ρ Dn st p => h.rd fr F H σ ρ _ st (PostM.imp (post_sm (k := fun _ ρ1 => .nx ρ1) hw p) fun F1 H1 ρ1 d s1 st1 p1 v dv => p1 σ F1 H1 (same_refl _) st1)⟩
theorem d_asgP {i : Nat} {x : Str} {e : Expr} {pos' : Pos} {fe : EM} (hN : X.N.Nodup) (h : DP X (fun _ => Er) w e te fe) (hi : X.N[i]? = some x := by rfl) (hx : Loc X.env.scope x := by first | exact Or.inl rfl | exact Or.inr rfl) (hw : sh w 0 = s0 := by rfl) (hs : swapsWith e (some (.Name x pos')) pos.line X.env = pure false := by rfl) (hf : X.fn x = true ∨ X.env.scope.names.lookup x = some .local := by first | exact .inl rfl | exact .inr rfl | assumption) :
    D1 X Er s0 wl w (.Assign [.Name x pos'] e pos) (w.set i .fz) (tAsg te (gName i)) (asgP i fe) :=
  ⟨ps_set hN hi hx h.pe hs hf, fun fr F H σ ρ Dn st p => h.rd fr F H σ ρ _ st (PostM.imp (post_sm (k := fun d ρ1 => .nx (ρ1.set i (some d))) hw p) fun F1 H1 ρ1 d s1 st1 p1 v dv => p1 _ F1 H1 (same_refl _) (st1.set_fz dv))⟩
/-- x.f2 = e -/
theorem d_set2 {e : Expr} {fe : EM} {p' : Pos} (hi : sh w i = .ob (pC P c)) (T : KlI X.K mg P.cn fl) (ok : PcOk P) (hf : P.f2 ∈ fl) (h : DP X (fun _ => Er) w e te fe) (hN : X.N[i]? = some x) (hv : Vis X.env.scope x) (hw : sh w 0 = s0 := by rfl)
    (hd : (x == ("__debug__" : Str)) = false := by decide) (hcd : (x == ("__classdict__" : Str)) = false := by decide) (hs : swapsWith e (some (.Attribute (.Name x p1) P.f2 p')) pos.line X.env = pure false := by rfl) :
    D1 X Er s0 wl w (.Assign [.Attribute (.Name x p1) P.f2 p'] e pos) w (sFld X.K (tVar i) te P.f2) (set2S P i fe) := by
  refine ⟨ps_fld (pe_var hN hv hd hcd) h.pe hs, fun fr F H σ ρ Dn st p => ?_⟩
  have p := post_sm (σ := σ) (k := fun (_ : D) ρ1 => .nx ρ1) hw p
  refine h.rd fr F H σ ρ _ st (PostM.imp (PostM.bind p) fun F1 H1 ρ1 d s1 st1 p1 v dv => ?_)
  obtain ⟨d', q, e1, e2, p1⟩ := post_at p1
  obtain ⟨a, dx, pa, ga, C, v1, v2, xs, ys, T1, S, ds, es, q1, rfl, hC, A, h1, h2, h3, n0, n1, n2, m1, m2, d1, d2, d3, d4, r2, r3, r4, r5, r6⟩ := st1.obj hi e1
  rw [pntOf_pnt] at e2
  cases e2
  obtain ⟨cl, na⟩ := T.fld hf C hC
  refine ⟨_, q1, a, C, dx, _, rfl, h1, cl, na, by simp [pntF], ?_⟩
  rw [ok.p2]
  exact p1 _ _ (same_refl _) (r2 v d dv) σ _ _ (same_refl _) (r2 v d dv)
/-- x.f4 = [] -/
theorem d_new4 {k : Nat} {p' p4 : Pos} (hi : sh w i = .ob (pC P c)) (T : KlI X.K mg P.cn fl) (ok : PcOk P) (hf : P.f4 ∈ fl) (hN : X.N[i]? = some x) (hv : Vis X.env.scope x) (hw : sh w 0 = s0 := by rfl)
    (hd : (x == ("__debug__" : Str)) = false := by decide) (hcd : (x == ("__classdict__" : Str)) = false := by decide) (hs : swapsWith (.List [] p4) (some (.Attribute (.Name x p1) P.f4 p')) pos.line X.env = pure false := by rfl) :
    D1 X Er s0 wl w (.Assign [.Attribute (.Name x p1) P.f4 p'] (.List [] p4) pos) w (sFld X.K (tVar i) (tLst tNil) P.f4) (stS (new4M P i)) := by
  refine ⟨ps_fld (pe_var hN hv hd hcd) (pe_lst pa_nil) hs, fun fr F H σ ρ Dn st p => ?_⟩
  have p := post_sm (σ := σ) (k := fun (_ : D) ρ1 => .nx ρ1) hw p
  obtain ⟨d', q, e1, e2, p1⟩ := post_at p
  obtain ⟨a, dx, pa, ga, C, v1, v2, xs, ys, T1, S, ds, es, q1, rfl, hC, A, h1, h2, h3, n0, n1, n2, m1, m2, d1, d2, d3, d4, r2, r3, r4, r5, r6⟩ := st.obj hi e1
  rw [pntOf_pnt] at e2
  cases e2
  obtain ⟨cl, na⟩ := T.fld hf C hC
  refine ⟨Nat.zero_le _, fun b hb => ⟨_, q1, a, C, dx, _, rfl, by rw [upd_ne (ne_of_none h1 hb)]; exact h1, cl, na, by simp [pntF], ?_⟩⟩
  rw [ok.p4]
  exact p1 _ _ (same_refl _) (r6 b hb) σ _ _ (same_refl _) (r6 b hb)
theorem d_new3 {k : Nat} {p' p4 : Pos} (hi : sh w i = .ob (pC P c)) (T : KlI X.K mg P.cn fl) (ok : PcOk P) (hf : P.f3 ∈ fl) (hN : X.N[i]? = some x) (hv : Vis X.env.scope x) (hw : sh w 0 = s0 := by rfl)
    (hd : (x == ("__debug__" : Str)) = false := by decide) (hcd : (x == ("__classdict__" : Str)) = false := by decide) (hs : swapsWith (.List [] p4) (some (.Attribute (.Name x p1) P.f3 p')) pos.line X.env = pure false := by rfl) :
    D1 X Er s0 wl w (.Assign [.Attribute (.Name x p1) P.f3 p'] (.List [] p4) pos) w (sFld X.K (tVar i) (tLst tNil) P.f3) (stS (new3M P i)) := by
  refine ⟨ps_fld (pe_var hN hv hd hcd) (pe_lst pa_nil) hs, fun fr F H σ ρ Dn st p => ?_⟩
  have p := post_sm (σ := σ) (k := fun (_ : D) ρ1 => .nx ρ1) hw p
  obtain ⟨d', q, e1, e2, p1⟩ := post_at p
  obtain ⟨a, dx, pa, ga, C, v1, v2, xs, ys, T1, S, ds, es, q1, rfl, hC, A, h1, h2, h3, n0, n1, n2, m1, m2, d1, d2, d3, d4, r2, r3, r4, r5, r6⟩ := st.obj hi e1
  rw [pntOf_pnt] at e2
  cases e2
  obtain ⟨cl, na⟩ := T.fld hf C hC
  refine ⟨Nat.zero_le _, fun b hb => ⟨_, q1, a, C, dx, _, rfl, by rw [upd_ne (ne_of_none h1 hb)]; exact h1, cl, na, by simp [pntF], ?_⟩⟩
  rw [ok.p3]
  exact p1 _ _ (same_refl _) (r5 b hb) σ _ _ (same_refl _) (r5 b hb)
end
end
end DL

set_option maxHeartbeats 1000000
/-! PN4: defs whose first argument is such an object; their calls. -/
namespace DL
open PySem PySem.Spec L2
open PyProof.Rows hiding St
inductive RP where
  | ok (r d : D)
  | err (c : Str) (d : D)
  | bad
def at0 (ρ : Env) (k : D → RP) : RP := match ρ[0]? with
  | some (some d) => k d
  | _ => .bad
/-- a def's run; m slots -/
def runP (m : Nat) (f : SF) (d0 : D) (ds : List D) : RP := match f (some d0 :: (ds.map some ++ List.replicate (m - (ds.length + 1)) none)) with
  | .nx ρ => at0 ρ fun d => .ok .none d
  | .rt r ρ => at0 ρ fun d => .ok r d
  | .err c ρ => at0 ρ fun d => .err c d
  | .bk _ => .bad
  | .bad => .bad
def ownP (g : List D → R D) (fa : AM) : EM := bP fa fun ds ρ => match g ds with
  | .ok d => .ok d ρ
  | .err c => .err c ρ
  | .bad => .bad
def afterP (i : Nat) (ρ : Env) : RP → RM D
  | .ok r d => .ok r (ρ.set i (some d))
  | .err c d => .err c (ρ.set i (some d))
  | .bad => .bad
def callP (P : PC) (i : Nat) (g : D → List D → RP) (fa : AM) : EM := atP P i fun _ => bP fa fun ds ρ => match ρ[i]? with
  | some (some d) => afterP i ρ (g d ds)
  | _ => .bad
section
variable [Mem]
abbrev oneSR (K : PySem.W.Frag) (P : PC) (fr : Fr) (v0 : V) (F H : Hp) (d : D) : Prop := SR K fr [.ob (pC P (· = v0))] F H [some v0] [some d]
def PostR (K : PySem.W.Frag) (P : PC) (fr : Fr) (v0 : V) (r : RP) (Q : VK) (Er : ErT) : Prop := match r with
  | .ok r d' => ∀ F' H' v, oneSR K P fr v0 F' H' d' → Dp K F' v r → Q v H'
  | .err c d' => ∀ F' H', oneSR K P fr v0 F' H' d' → Er c H'
  | .bad => False
end
def spP (P : PC) (K : PySem.W.Frag) (mg : Str → Option Value) (n : Nat) (g : D → List D → RP) : Sp := fun vs H Q E =>
  vs.length = n + 1 ∧ ∃ (M : Mem) (v0 : V) (vs' : List V) (F G : Hp) (d0 : D) (ds : List D), vs = v0 :: vs' ∧ oneSR K P ⟨F, G⟩ v0 F H d0 ∧ DQAll K F vs' ds ∧ PostR K P ⟨F, G⟩ v0 (g d0 ds) Q (erX mg E)
section
variable {P : Program} {w' : World} {K : PySem.W.Frag} {mg : Str → Option Value} {base : Heap} {C : PC}
theorem one_start [Mem] {fr : Fr} {F H : Hp} {v0 : V} {vs : List V} {d0 : D} {ds : List D} {wz : List Sh} {N : List Str} (h : oneSR K C fr v0 F H d0) (hq : DQAll K F vs ds) (hz : fzAll wz = true) :
    SR K fr (.ob (pC C (· = v0)) :: wz) F H (L2.start N (v0 :: vs)) (some d0 :: (ds.map some ++ List.replicate (N.length - (ds.length + 1)) none)) := by
  obtain ⟨os, s⟩ := h
  have hl := dqAll_len hq
  refine ⟨fun j => if j = 0 then os 0 else emp, s.fh, s.gh, s.f0, s.nw, fun j => ?_, fun j a h1 => ?_, fun j d e => ?_, ?_, fun j a h1 => ?_⟩
  · by_cases hj : j = 0
    · rw [if_pos hj]; exact s.oh 0
    · rw [if_neg hj]; intro b u z; cases z
  · by_cases hj : j = 0
    · rw [if_pos hj] at h1
      obtain ⟨q1, q2, _⟩ := s.ow 0 a h1
      exact ⟨q1, q2, fun k hk => by rw [if_neg (fun y => hk (y.trans hj.symm))]; rfl⟩
    · rw [if_neg hj] at h1; exact absurd rfl h1
  · cases j with
    | zero =>
      cases e
      exact s.sl 0 d0 rfl
    | succ j =>
      have e : (ds.map some ++ List.replicate (N.length - (ds.length + 1)) none)[j]? = some (some d) := e
      by_cases hi : j < ds.length
      · rw [List.getElem?_append_left (by simpa using hi), List.getElem?_map] at e
        cases q : ds[j]? with
        | none => rw [q] at e; cases e
        | some d' =>
          rw [q] at e
          cases e
          obtain ⟨v, q1, q2⟩ := dqAll_get hq q
          refine ⟨v, ?_, ?_⟩
          · unfold L2.start
            rw [List.getElem?_append_left (by simp; omega), List.getElem?_map, List.getElem?_cons_succ, q1]
            rfl
          · have : sh (.ob (pC C (· = v0)) :: wz) (j + 1) = .fz := by
              have := fzAll_ok hz j
              unfold sh at this ⊢
              simpa using this
            rw [this]
            exact q2
      · rw [List.getElem?_append_right (by simp; omega)] at e
        have := List.mem_of_getElem? e
        rw [List.mem_replicate] at this
        exact absurd this.2 (by simp)
  · simp [L2.start, hl]
  · by_cases hj : j = 0
    · rw [if_pos hj] at h1; exact s.om 0 a h1
    · rw [if_neg hj] at h1; exact absurd rfl h1
theorem one_end [Mem] {fr : Fr} {F H : Hp} {v0 : V} {w : List Sh} {σ : St} {ρ : Env} {d : D} (h : SR K fr w F H σ ρ) (hw : sh w 0 = .ob (pC C (· = v0))) (e : ρ[0]? = some (some d)) : oneSR K C fr v0 F H d := by
  obtain ⟨os, s⟩ := h
  obtain ⟨v, e1, hh⟩ := s.sl 0 d e
  rw [hw] at hh
  obtain ⟨rfl, hr⟩ := hh
  refine ⟨fun j => if j = 0 then os 0 else emp, s.fh, s.gh, s.f0, s.nw, fun j => ?_, fun j a h1 => ?_, fun j d2 q => ?_, rfl, fun j a h1 => ?_⟩
  · by_cases hj : j = 0
    · rw [if_pos hj]; exact s.oh 0
    · rw [if_neg hj]; intro b u z; cases z
  · by_cases hj : j = 0
    · rw [if_pos hj] at h1
      obtain ⟨q1, q2, _⟩ := s.ow 0 a h1
      exact ⟨q1, q2, fun k hk => by rw [if_neg (fun y => hk (y.trans hj.symm))]; rfl⟩
    · rw [if_neg hj] at h1; exact absurd rfl h1
  · match j, q with
    | 0, q => cases q; exact ⟨v, rfl, ⟨rfl, hr⟩⟩
    | j + 1, q => cases q
  · by_cases hj : j = 0
    · rw [if_pos hj] at h1; exact s.om 0 a h1
    · rw [if_neg hj] at h1; exact absurd rfl h1
theorem post_at0 [Mem] {fr : Fr} {ρ : Env} {v0 : V} {k : D → RP} {Q : VK} {Er : ErT} (p : PostR K C fr v0 (at0 ρ k) Q Er) : ∃ d, ρ[0]? = some (some d) ∧ PostR K C fr v0 (k d) Q Er := by
  unfold at0 at p
  cases e : ρ[0]? with
  | none => rw [e] at p; exact p.elim
  | some o =>
    cases o with
    | none => rw [e] at p; exact p.elim
    | some d => rw [e] at p; exact ⟨d, rfl, p⟩
theorem fn_okP {x qual : Str} {st : Stmt} {f : Addr} {fd : FuncData} {N ps : List Str} {k : Nat} {n : Nat} {fb : SF} {wz : List Sh} (Fn : Fun K x qual st f fd) (S : FnScope N ps (defScope st)) (hn : ps.length = n + 1) (hws : fzAll wz = true)
    (body : ∀ [Mem] (v0 : V) (cdv : Value) (A : Around) (outer : List PySem.Env) (s : Shared) (H : Hp) (E : XK), Room k (A.deeper (envOfC qual (defScope st) s.heap.objs.size f cdv)) →
      ∃ t ws', sh ws' 0 = .ob (pC C (· = v0)) ∧ DS (cxOf (L2.CX P w') P w' K mg base N qual (defScope st) f cdv A outer s H E) (erX mg E) (.ob (pC C (· = v0))) [] (.ob (pC C (· = v0)) :: wz) (defBody st) ws' t fb) :
    FnOk P w' K mg base (L2.CX P w') (k + 1) f fd ps (spP C K mg n (runP N.length fb)) := by
  refine Fn.okX S (fun vs H Q E h => by rw [hn]; exact h.1) (fun cdv A outer s H vs Q E hr h => ?_)
  obtain ⟨hl, M, v0, vs', F, G, d0, ds, rfl, h1, dv, p⟩ := h
  obtain ⟨t, ws', hw0, g1, g2⟩ := body v0 cdv A outer s H E hr
  refine ⟨t, g1, ?_⟩
  refine g2 ⟨F, G⟩ F H _ (some d0 :: (ds.map some ++ List.replicate (N.length - (ds.length + 1)) none)) _ (one_start h1 dv hws) ?_
  unfold runP at p
  cases e : fb (some d0 :: (ds.map some ++ List.replicate (N.length - (ds.length + 1)) none)) with
  | nx ρ' =>
    rw [e] at p
    obtain ⟨d, e1, p⟩ := post_at0 p
    exact fun σ' F' H' s' st' => p F' H' _ (one_end st' hw0 e1) .non
  | rt r ρ' =>
    rw [e] at p
    obtain ⟨d, e1, p⟩ := post_at0 p
    exact fun σ' F' H' v w'' hw st' dv' => p F' H' v (one_end st' hw e1) dv'
  | err c ρ' =>
    rw [e] at p
    obtain ⟨d, e1, p⟩ := post_at0 p
    exact fun σ' F' H' w'' hw st' => p F' H' (one_end st' hw e1)
  | bk ρ' => rw [e] at p; exact p.elim
  | bad => rw [e] at p; exact p.elim
end
/-! ### calls -/
/-- o.m(..), what is raised wished for at the slots -/
def tMethS (C : Addr) (m : Str) (sp : Sp) (E : St → XK) (ta : TE) (t : TA) : TE := fun σ H Q => ta σ H fun x H1 => ∃ a dx fs, x = .ref a ∧ H1 a = some (.ins C dx fs) ∧ fs.lookup m = none ∧ t σ H1 fun vs H2 => sp (x :: vs) H2 Q (E σ)
section
variable {X : Cx} {CX : CXT} {k : Nat} {f C : Addr} {fd : FuncData} {ps : List Str} {sp : Sp} {E : St → XK} {x m : Str} {p pos apos : Pos} {e o : Expr} {es : List Expr} {ta : TE} {t : TA}
theorem pe_methE {pl : Sem Bool} (he : PE X o ta) (c : Cls X.K C) (hm : Meth X.K C m f) (F : FnOk X.prog X.w X.K X.mg X.base CX k f fd ps sp) (hr : Room k X.A) (hb : Binds X.K fd ps []) (hx : ∀ σ, PassesAt CX X σ (E σ)) (ha : PA X (e :: es) t)
    (hst : starEach (e :: es) X.env = (false, eval e X.env) :: starEach es X.env := by rfl) (hpl : (backTo pos (starEach es X.env)).any (·.1) = false := by rfl)
    (ht : eval (.Call (.Attribute o m apos) (e :: es) [] pos) X.env = (do
      let ov ← eval o X.env
      standAt apos.atName
      let (f, first) ← holding [ov] (getMethod ov m pl)
      callWith pos f first (backTo pos (starEach (e :: es) X.env)) (backToKw pos (keywordEach [] X.env))) := by rfl) :
    PE X (.Call (.Attribute o m apos) (e :: es) [] pos) (tMethS C m sp E ta t) := by
  refine ⟨fun pins s σ H Q I h => ?_⟩
  refine PySem.W.methodCall_KW (pl := pl) (thn (he.run pins s σ H _ I h) fun u s1 ⟨x, H1, I1, rx, a, dx, fs, ex, ea, l, q⟩ => ?_) ht
  subst ex
  obtain rfl : u = Value.ref a := rx
  refine getmeth_ok I1 ea c hm l ?_
  refine PySem.W.callWith_K (first := [.ref a]) (h₀ := X.base) I.ok.mod.kin hm.kp (thn (ha.run pos pins s1 σ H1 _ I1 q) fun us s2 ⟨vs, H2, I2, r, q2⟩ => ⟨I2.kIn, ?_⟩) hst hpl
  exact run_fnS (us := .ref a :: us) (vs := .ref a :: vs) F hr hb (hx σ) I2 (.cons rfl r) q2
theorem pe_methE0 {pl : Sem Bool} (he : PE X o ta) (c : Cls X.K C) (hm : Meth X.K C m f) (F : FnOk X.prog X.w X.K X.mg X.base CX k f fd ps sp) (hr : Room k X.A) (hb : Binds X.K fd ps []) (hx : ∀ σ, PassesAt CX X σ (E σ))
    (ht : eval (.Call (.Attribute o m apos) [] [] pos) X.env = (do
      let ov ← eval o X.env
      standAt apos.atName
      let (f, first) ← holding [ov] (getMethod ov m pl)
      callWith pos f first (backTo pos (starEach [] X.env)) (backToKw pos (keywordEach [] X.env))) := by rfl) :
    PE X (.Call (.Attribute o m apos) [] [] pos) (tMethS C m sp E ta tNil) := by
  refine ⟨fun pins s σ H Q I h => ?_⟩
  refine PySem.W.methodCall_KW (pl := pl) (thn (he.run pins s σ H _ I h) fun u s1 ⟨x, H1, I1, rx, a, dx, fs, ex, ea, l, q⟩ => ?_) ht
  subst ex
  obtain rfl : u = Value.ref a := rx
  refine getmeth_ok I1 ea c hm l ?_
  exact PySem.W.callWith_K0 (first := [.ref a]) I1.kIn hm.kp (run_fnS (us := [.ref a]) (vs := [.ref a]) F hr hb (hx σ) I1 (.cons rfl .nil) q)
end
section
variable [M : Mem] {K : PySem.W.Frag} {mg : Str → Option Value} {Er : St → ErT} {w : List Sh} {P : PC} {c : V → Prop} {i n : Nat} {E : St → XK} {m : Str} {ta : TA} {fa : AM}
theorem drp_own {g : List D → R D} (he : ∀ σ c H', Er σ c H' → erX mg (E σ) c H') (h : DRPa K Er w ta fa) (hn : ∀ ρ ds ρ1, fa ρ = .ok ds ρ1 → ds.length = n) : DRP K Er w (tCallS (spD K mg n g) E ta) (ownP g fa) := by
  intro fr F H σ ρ Q st p
  refine h fr F H σ ρ _ st ?_
  cases ef : fa ρ with
  | bad => unfold ownP bP at p; rw [ef] at p; exact p
  | err c ρ1 => unfold ownP bP at p; rw [ef] at p; exact p
  | ok ds ρ1 =>
    unfold ownP bP at p
    rw [ef] at p
    intro F1 H1 s1 st1 vs dvs
    have p := PostM.mono p s1
    refine ⟨by rw [dpAll_len dvs]; exact hn ρ ds ρ1 ef, M, F1, ds, st1.fh, dqAll_of dvs, ?_⟩
    cases eg : g ds with
    | ok d =>
      simp only [eg] at p
      exact fun F' H' gr v dv => p F' H' gr.ff (st1.grow gr) v dv
    | err c =>
      simp only [eg] at p
      exact fun F' H' gr => he σ c H' (p F' H' gr.ff (st1.grow gr))
    | bad => simp only [eg] at p; exact p
/-- the object lent, and given back -/
theorem lent {g : D → List D → RP} {fr : Fr} {F H : Hp} {σ : St} {ρ : Env} {Q : VK} {vs : List V} {ds : List D} (hw : sh w i = .ob (pC P c)) (he : ∀ c H', Er σ c H' → erX mg (E σ) c H') (st : SR K fr w F H σ ρ) (dvs : DpAll K F vs ds) (hn : ds.length = n)
    (p : PostM K fr w (Er σ) F σ (match ρ[i]? with | some (some d) => afterP i ρ (g d ds) | _ => .bad) (fun F' H' _ d => ∀ v, Dp K F' v d → Q v H')) : ∃ v, σ[i]? = some (some v) ∧ spP P K mg n g (v :: vs) H Q (E σ) := by
  cases e : ρ[i]? with
  | none => rw [e] at p; exact p.elim
  | some o =>
    cases o with
    | none => rw [e] at p; exact p.elim
    | some d =>
      rw [e] at p
      simp only at p
      obtain ⟨v, G, e1, _, one, back⟩ := st.lend hw e
      refine ⟨v, e1, by simp [dpAll_len dvs, hn], M, v, vs, F, G, d, ds, rfl, one, dqAll_of dvs, ?_⟩
      cases eg : g d ds with
      | ok r d' =>
        rw [eg] at p
        intro F' H' u o' du
        obtain ⟨s', st'⟩ := back F' H' d' o'
        exact p F' H' s' st' u du
      | err c' d' =>
        rw [eg] at p
        intro F' H' o'
        obtain ⟨s', st'⟩ := back F' H' d' o'
        exact he c' H' (p F' H' s' st')
      | bad => rw [eg] at p; exact p.elim
theorem drp_meth {g : D → List D → RP} {C : Addr} {fl : List Str} (hw : sh w i = .ob (pC P c)) (hC : PySem.W.nsIn K mainGlobals P.cn = some (some (.ref C))) (hmn : ∀ v1 v2 pa ga, (pntF P v1 v2 pa ga).lookup m = none) (he : ∀ σ c H', Er σ c H' → erX mg (E σ) c H') (h : DRPa K Er w ta fa) (hn : ∀ ρ ds ρ1, fa ρ = .ok ds ρ1 → ds.length = n) :
    DRP K Er w (tMethS C m (spP P K mg n g) E (tVar i) ta) (callP P i g fa) := by
  intro fr F H σ ρ Q st p
  obtain ⟨d, q, e, e2, p⟩ := post_at p
  obtain ⟨v, G, e1, ⟨a, dx, pa, ga, C', v1, v2, rfl, hC', hH⟩, _, _⟩ := st.lend hw e
  obtain rfl := ns_inj hC hC'
  refine ⟨_, e1, a, dx, _, rfl, hH, hmn _ _ _ _, h fr F H σ ρ _ st ?_⟩
  have p := PostM.bind p
  cases ef : fa ρ with
  | bad => rw [ef] at p; exact p
  | err c ρ1 => rw [ef] at p; exact p
  | ok ds ρ1 =>
    rw [ef] at p
    intro F1 H1 s1 st1 vs dvs
    obtain ⟨v', e1', hsp⟩ := lent (E := E) (mg := mg) (n := n) (g := g) hw (he σ) st1 dvs (hn ρ ds ρ1 ef) (p F1 H1 s1 st1)
    rw [e1] at e1'
    cases e1'
    exact hsp
theorem drp_call {g : D → List D → RP} (hw : sh w i = .ob (pC P c)) (he : ∀ σ c H', Er σ c H' → erX mg (E σ) c H') (h : DRPa K Er w ta fa) (hn : ∀ ρ ds ρ1, fa ρ = .ok ds ρ1 → ds.length = n) :
    DRP K Er w (tCallS (spP P K mg n g) E (tCons (tVar i) ta)) (callP P i g fa) := by
  intro fr F H σ ρ Q st p
  obtain ⟨d, q, e, e2, p⟩ := post_at p
  obtain ⟨v, G, e1, _, _, _⟩ := st.lend hw e
  refine ⟨_, e1, h fr F H σ ρ _ st ?_⟩
  have p := PostM.bind p
  cases ef : fa ρ with
  | bad => rw [ef] at p; exact p
  | err c ρ1 => rw [ef] at p; exact p
  | ok ds ρ1 =>
    rw [ef] at p
    intro F1 H1 s1 st1 vs dvs
    obtain ⟨v', e1', hsp⟩ := lent (E := E) (mg := mg) (n := n) (g := g) hw (he σ) st1 dvs (hn ρ ds ρ1 ef) (p F1 H1 s1 st1)
    rw [e1] at e1'
    cases e1'
    exact hsp
end
end DL

set_option maxHeartbeats 2000000
/-! PN5: such objects made; a try around what changes them. -/
namespace DL
open PySem PySem.Spec L2
open PyProof.Rows hiding St
section
variable [Mem] {K : PySem.W.Frag} {fr : Fr} {w : List Sh} {F H : Hp} {σ : St} {ρ : Env}
/-- slot i owns new memory -/
theorem SR.set_own {i : Nat} {Φ : Own} {v : V} {d : D} {o H' : Hp} (h : SR K fr w F H σ ρ) (hr : Φ.rep K v F o d) (so : Same o H') (sH : Same H H') (hn : ∀ b, o b ≠ none → H b = none) (hi : i < w.length) : SR K fr (w.set i (.ob Φ)) F H' (σ.set i (some v)) (ρ.set i (some d)) := by
  obtain ⟨os, s⟩ := h
  have fresh : ∀ b, H b = none → F b = none ∧ fr.G b = none ∧ ¬ Mem.is b ∧ ∀ k, os k b = none := fun b z => ⟨none_of_same s.fh.s z, none_of_sameM s.gh s.fh z, s.fh.no z, fun k => none_of_same (s.oh k) z⟩
  refine ⟨fun j => if j = i then o else os j, ⟨same_trans s.fh.s sH, fun b z => ?_⟩, sameM_trans s.gh (sameM_of sH), s.f0, s.nw, fun j => ?_, fun j b h1 => ?_, fun j d2 q => ?_, by simpa using s.len, fun j b h1 => ?_⟩
  · obtain ⟨q1, u, q2, q3⟩ := s.fh.m b z
    exact ⟨q1, u, sH b u q2, q3⟩
  · by_cases hj : j = i
    · rw [if_pos hj]; exact so
    · rw [if_neg hj]; exact same_trans (s.oh j) sH
  · by_cases hj : j = i
    · rw [if_pos hj] at h1
      obtain ⟨q1, q2, _, q3⟩ := fresh b (hn b h1)
      exact ⟨q1, q2, fun k hk => by rw [if_neg (fun y => hk (y.trans hj.symm))]; exact q3 k⟩
    · rw [if_neg hj] at h1
      obtain ⟨q1, q2, q3⟩ := s.ow j b h1
      refine ⟨q1, q2, fun k hk => ?_⟩
      by_cases hki : k = i
      · rw [if_pos hki]
        cases q : o b with
        | none => rfl
        | some x => exact absurd ((fresh b (hn b (by rw [q]; simp))).2.2.2 j) h1
      · rw [if_neg hki]; exact q3 k hk
  · rcases env_set q with ⟨rfl, rfl, hv⟩ | ⟨ne, q⟩
    · exact ⟨v, by rw [List.getElem?_set_self (by rw [← s.len]; exact hv)], by rw [sh_set_self hi, if_pos rfl]; exact hr⟩
    · rw [List.getElem?_set_ne ne, sh_set_ne ne, if_neg (Ne.symm ne)]
      exact s.sl j d2 q
  · by_cases hj : j = i
    · rw [if_pos hj] at h1; exact (fresh b (hn b h1)).2.2.1
    · rw [if_neg hj] at h1; exact s.om j b h1
end
/-- the promise of such an __init__: two arguments kept, two new lists -/
def spIP (P : PC) (C : Addr) : Sp := fun vs H Q _ => ∃ (a dx : Addr) (v1 v2 : V) (Hb : Hp), vs = [.ref a, v1, v2] ∧ H = upd Hb a (.ins C dx []) ∧ Hb a = none ∧
  ∀ pa ga, Hb pa = none → pa ≠ a → Hb ga = none → ga ≠ a → ga ≠ pa → Q .non (upd (upd (upd Hb pa (.lst [])) ga (.lst [])) a (.ins C dx (pntF P v1 v2 pa ga)))
def tInitP (K : PySem.W.Frag) (P : PC) : TS := tSeq (sFld K (tVar 0) (tVar 1) P.f1) (tSeq (sFld K (tVar 0) (tVar 2) P.f2) (tSeq (sFld K (tVar 0) (tLst tNil) P.f3) (sFld K (tVar 0) (tLst tNil) P.f4)))
theorem init_okP {P : Program} {w : World} {K : PySem.W.Frag} {mg : Str → Option Value} {base : Heap} {C : PC} {qual : Str} {st : Stmt} {f Cl : Addr} {fd : FuncData} {N : List Str} {k : Nat} {x1 x2 : Str} (Fn : Fun K "__init__" qual st f fd) (S : FnScope N ["self", x1, x2] (defScope st)) (hN : N.length = 3) (ok : PcOk C) (hcl : Cls K Cl) (hna : ∀ f ∈ [C.f1, C.f2, C.f3, C.f4], NoAttr K Cl f)
    (body : ∀ (cdv : Value) (A : Around) (outer : List PySem.Env) (s : Shared) (H : Hp) (E : XK), Room k (A.deeper (envOfC qual (defScope st) s.heap.objs.size f cdv)) →
      PSs (cxOf (L2.CX P w) P w K mg base N qual (defScope st) f cdv A outer s H E) (defBody st) (tInitP K C)) :
    FnOk P w K mg base (L2.CX P w) (k + 1) f fd ["self", x1, x2] (spIP C Cl) := by
  refine Fn.okX S (fun vs H Q E h => by obtain ⟨_, _, _, _, _, rfl, _⟩ := h; rfl) (fun cdv A outer s H vs Q E hr h => ?_)
  obtain ⟨a, dx, v1, v2, Hb, rfl, rfl, ha, p⟩ := h
  refine ⟨_, body cdv A outer s (upd Hb a (.ins Cl dx [])) E hr, ?_⟩
  have hσ : L2.start N [.ref a, v1, v2] = [some (.ref a), some v1, some v2] := by
    unfold L2.start
    simp [hN]
  rw [hσ]
  have n1 := hna C.f1 (by simp)
  have n2 := hna C.f2 (by simp)
  have n3 := hna C.f3 (by simp)
  have n4 := hna C.f4 (by simp)
  have m12 := bne_ne ok ok.n12
  have m13 := bne_ne ok ok.n13
  have m14 := bne_ne ok ok.n14
  have m23 := bne_ne ok ok.n23
  have m24 := bne_ne ok ok.n24
  have m34 := bne_ne ok ok.n34
  refine ⟨v1, rfl, .ref a, rfl, a, Cl, dx, [], rfl, upd_same, hcl, n1, by simp, ?_⟩
  refine ⟨v2, rfl, .ref a, rfl, a, Cl, dx, [(C.f1, v1)], rfl, upd_same, hcl, n2, by simp, ?_⟩
  have e2 : putF C.f2 v2 [(C.f1, v1)] = [(C.f1, v1), (C.f2, v2)] := by simp [putF, m12]
  rw [e2, upd_upd, upd_upd]
  refine ⟨Nat.zero_le _, fun pa hp => ⟨.ref a, rfl, a, Cl, dx, [(C.f1, v1), (C.f2, v2)], rfl, ?_, hcl, n3, by simp, ?_⟩⟩
  · have : a ≠ pa := fun z => by rw [z, upd_same] at hp; cases hp
    rw [upd_ne this, upd_same]
  have npa : pa ≠ a := fun z => by rw [z, upd_same] at hp; cases hp
  rw [upd_ne npa] at hp
  have e3 : putF C.f3 (.ref pa) [(C.f1, v1), (C.f2, v2)] = [(C.f1, v1), (C.f2, v2), (C.f3, .ref pa)] := by simp [putF, m13, m23]
  rw [e3]
  refine ⟨Nat.zero_le _, fun ga hg => ⟨.ref a, rfl, a, Cl, dx, [(C.f1, v1), (C.f2, v2), (C.f3, .ref pa)], rfl, ?_, hcl, n4, by simp, ?_⟩⟩
  · have : a ≠ ga := fun z => by rw [z, upd_same] at hg; cases hg
    rw [upd_ne this, upd_same]
  have nga : ga ≠ a := fun z => by rw [z, upd_same] at hg; cases hg
  rw [upd_ne nga] at hg
  have ngp : ga ≠ pa := fun z => by rw [z, upd_same] at hg; cases hg
  rw [upd_ne ngp, upd_ne nga] at hg
  have e4 : putF C.f4 (.ref ga) [(C.f1, v1), (C.f2, v2), (C.f3, .ref pa)] = pntF C v1 v2 pa ga := by simp [putF, pntF, m14, m24, m34]
  rw [e4]
  have eH : upd (upd (upd (upd (upd Hb a (.ins Cl dx [(C.f1, v1), (C.f2, v2)])) pa (.lst [])) a (.ins Cl dx [(C.f1, v1), (C.f2, v2), (C.f3, .ref pa)])) ga (.lst [])) a (.ins Cl dx (pntF C v1 v2 pa ga)) = upd (upd (upd Hb pa (.lst [])) ga (.lst [])) a (.ins Cl dx (pntF C v1 v2 pa ga)) := by
    funext b
    unfold upd
    by_cases h1 : b = a
    · rw [if_pos h1, if_pos h1]
    · rw [if_neg h1, if_neg h1, if_neg h1, if_neg h1]
  show Q .non _
  rw [eH]
  exact p pa ga hp npa hg nga ngp
def mkP (w : List Sh) (i : Nat) (P : PC) (fa : AF) : SF := fun ρ => runR (fa (hidA w ρ)) ρ fun ds => match ds with
  | [T, S] => .nx (ρ.set i (some (pntD P T S [] [])))
  | _ => .bad
section
variable [M : Mem] {X : Cx} {Er : ErT} {s0 : Sh} {wl w : List Sh} {P : PC} {ta : TA} {pos : Pos}
theorem d_mkP {CX : CXT} {k : Nat} {fi C : Addr} {fd : FuncData} {ps : List Str} {E : XK} {x cx : Str} {i : Nat} {p p' pn : Pos} {e : Expr} {es : List Expr} {fa : AF}
    (hC : PySem.W.nsIn X.K mainGlobals P.cn = some (some (.ref C))) (M0 : Mk X.K C fi) (F0 : FnOk X.prog X.w X.K X.mg X.base CX k fi fd ps (spIP P C)) (hr : Room (k + 1) X.A) (hg : Gl X cx) (hm : X.mg cx = some (.ref C)) (hb : Binds X.K fd ps []) (hx : Passes CX X E)
    (hN : X.N.Nodup) (hi : X.N[i]? = some x) (hxl : Loc X.env.scope x) (ha : DA X Er (e :: es) ta fa) (hl : i < w.length) (hw : sh w 0 = s0 := by rfl)
    (hdb : (cx == ("__debug__" : Str)) = false := by decide) (he : starEach (e :: es) X.env = (false, eval e X.env) :: starEach es X.env := by rfl) (hpl : (backTo p' (starEach es X.env)).any (·.1) = false := by rfl)
    (hs : swapsWith (.Call (.Name cx p) (e :: es) [] p') (some (.Name x pn)) pos.line X.env = pure false := by rfl) (hf : X.fn x = true ∨ X.env.scope.names.lookup x = some .local := by first | exact .inl rfl | exact .inr rfl | assumption) :
    D1 X Er s0 wl w (.Assign [.Name x pn] (.Call (.Name cx p) (e :: es) [] p') pos) (w.set i (.ob (pC P fun _ => True))) (tAsg (tMake C (spIP P C) [] E ta) (gName i)) (mkP w i P fa) := by
  refine ⟨ps_set hN hi hxl (pe_make M0 F0 hr hg hm hb .nil hx ha.pe hdb he hpl) hs hf, fun fr F H σ ρ Dn st q => ?_⟩
  refine runAs (ta := ta) hw ha.rd st q fun ds vs F1 H1 s1 st1 dvs q1 => ?_
  intro a dx hxn hdn hne
  match ds, vs, dvs, q1 with
  | [T, S], [v1, v2], .cons d1 (.cons d2 .nil), q1 =>
    refine ⟨a, dx, v1, v2, upd H1 dx (.own a), rfl, rfl, by rw [upd_ne (Ne.symm hne)]; exact hxn, fun pa ga hp npa hg' nga ngp => ⟨rfl, ?_⟩⟩
    have npd : pa ≠ dx := fun z => by rw [z, upd_same] at hp; cases hp
    have ngd : ga ≠ dx := fun z => by rw [z, upd_same] at hg'; cases hg'
    rw [upd_ne npd] at hp
    rw [upd_ne ngd] at hg'
    have A : Ap a dx pa ga := ⟨Ne.symm hne, Ne.symm npa, Ne.symm nga, Ne.symm npd, Ne.symm ngd, Ne.symm ngp⟩
    have cell : ∀ b, b ≠ a → b ≠ dx → b ≠ pa → b ≠ ga → upd (upd (upd (upd H1 dx (.own a)) pa (.lst [])) ga (.lst [])) a (.ins C dx (pntF P v1 v2 pa ga)) b = H1 b := fun b h1 h2 h3 h4 => by rw [upd_ne h1, upd_ne h4, upd_ne h3, upd_ne h2]
    refine q1 _ _ _ (same_refl _) (st1.set_own (Φ := pC P fun _ => True) (o := pMem a dx pa ga (.ins C dx (pntF P v1 v2 pa ga)) [] []) ⟨trivial, a, dx, pa, ga, C, v1, v2, [], [], T, S, [], [], rfl, rfl, hC, A, rfl, d1, d2, .nil, .nil⟩ (fun b u z => ?_) (fun b u z => ?_) (fun b z => ?_) hl)
    · rcases pMem_off (by rw [z]; simp) with rfl | rfl | rfl | rfl
      · rw [pMem_a] at z; rw [upd_same]; exact z
      · rw [pMem_d A] at z; rw [upd_ne hne, upd_ne (Ne.symm ngd), upd_ne (Ne.symm npd), upd_same]; exact z
      · rw [pMem_p A] at z; rw [upd_ne npa, upd_ne (Ne.symm ngp), upd_same]; exact z
      · rw [pMem_g A] at z; rw [upd_ne nga, upd_same]; exact z
    · rw [cell b (ne_of_none z hxn) (ne_of_none z hdn) (ne_of_none z hp) (ne_of_none z hg')]; exact z
    · rcases pMem_off z with rfl | rfl | rfl | rfl
      · exact hxn
      · exact hdn
      · exact hp
      · exact hg'
  | [], _, _, q => exact q.elim
  | [_], _, _, q => exact q.elim
  | _ :: _ :: _ :: _, _, _, q => exact q.elim
end
/-! ### try -/
section
variable [M : Mem]
def PostW (X : Cx) (W : WX) (fr : Fr) (w : List Sh) (F : Hp) (o : Out) (Dn : Ends) : Prop := match o with
  | .nx ρ' => ∀ σ' F' H', Same F F' → SR X.K fr w F' H' σ' ρ' → Dn.nx σ' H'
  | .err c ρ' => ∀ σ' F' H', Same F F' → SR X.K fr w F' H' σ' ρ' → ErW X.mg W σ' c H'
  | _ => False
structure DKP (X : Cx) (w : List Sh) (body : List Stmt) (tb : WX → TS) (f : SF) : Prop where
  ps : ∀ (W : WX) (pn : List (Addr × Obj)) (xe : Value → Shared → Prop), Takes (X.tr pn xe) W → PSs (X.tr pn xe) body (tb W)
  rd : ∀ (W : WX) fr F H σ ρ (Dn : Ends), SR X.K fr w F H σ ρ → PostW X W fr w F (f ρ) Dn → tb W Dn σ H
section
variable {X : Cx} {w : List Sh} {ia : Nat} {xa : Str} {e : Expr} {te : WX → TE} {f : EM} {p4 p5 pos : Pos}
theorem post_w {α : Type} {W : WX} {fr : Fr} {F : Hp} {σ : St} {Dn : Ends} {r : RM α} {k : α → Env → Out} (p : PostW X W fr w F (outX r k) Dn) : PostM X.K fr w (ErW X.mg W σ) F σ r fun F1 _ ρ1 a => PostW X W fr w F1 (k a ρ1) Dn := by
  cases r with
  | ok a ρ1 =>
    intro F' H' s st
    have p : PostW X W fr w F (k a ρ1) Dn := p
    show PostW X W fr w F' (k a ρ1) Dn
    cases e : k a ρ1 with
    | nx ρ' => rw [e] at p; exact fun σ' F' H' s' => p σ' F' H' (same_trans s s')
    | err c ρ' => rw [e] at p; exact fun σ' F' H' s' => p σ' F' H' (same_trans s s')
    | rt d ρ' => rw [e] at p; exact p
    | bk ρ' => rw [e] at p; exact p
    | bad => rw [e] at p; exact p
  | err c ρ1 => exact fun F' H' s st => p σ F' H' s st
  | bad => exact p
/-- an expression in a try -/
structure DPK (X : Cx) (w : List Sh) (e : Expr) (te : WX → TE) (f : EM) : Prop where
  pe : ∀ (W : WX) (pn : List (Addr × Obj)) (xe : Value → Shared → Prop), Takes (X.tr pn xe) W → PE (X.tr pn xe) e (te W)
  rd : ∀ W, DRP X.K (ErW X.mg W) w (te W) f
theorem dkp_asg (ia : Nat) {xa : Str} (hN : X.N.Nodup) (h : DPK X w e te f) (hia : X.N[ia]? = some xa := by rfl) (hla : Loc X.env.scope xa := by first | exact Or.inl rfl | exact Or.inr rfl) (hw : sh w ia = .fz := by rfl)
    (hsw : swapsWith e (some (.Name xa p4)) p5.line X.env = pure false := by rfl) (hfa : X.fn xa = true ∨ X.env.scope.names.lookup xa = some .local := by first | exact .inl rfl | exact .inr rfl) :
    DKP X w [.Assign [.Name xa p4] e p5] (fun W => tAsg (te W) (gName ia)) (asgP ia f) :=
  ⟨fun W pn xe tk => pss_one (ps_set (X := X.tr pn xe) hN hia hla (h.pe W pn xe tk) hsw hfa), fun W fr F H σ ρ Dn st p => h.rd W fr F H σ ρ _ st (PostM.imp (post_w (k := fun d ρ1 => .nx (ρ1.set ia (some d))) p) fun F1 H1 ρ1 d s1 st1 p1 v dv => p1 _ F1 H1 (same_refl _) ((st1.set_fz dv).congr fun j => by
    by_cases hj : ia = j
    · subst hj; rw [sh_set_fz, hw]
    · rw [sh_set_ne hj]))⟩
theorem dpk_if {c a b : Expr} {tt : TT} {t1 t2 : WX → TE} {fc : TM} {f1 f2 : EM} (hc : ∀ pn xe (Er : St → ErT), DPT (X.tr pn xe) Er w c tt fc) (h : DPK X w a t1 f1) (h2 : DPK X w b t2 f2) : DPK X w (.IfExp c a b pos) (fun W => tIf tt (t1 W) (t2 W)) (ifeP fc f1 f2) := by
  refine ⟨fun W pn xe tk => pe_ifExp (hc pn xe fun _ _ _ => False).pe (h.pe W pn xe tk) (h2.pe W pn xe tk), fun W fr F H σ ρ Q st p => ?_⟩
  refine (hc [] (fun _ _ => False) (ErW X.mg W)).rd fr F H σ ρ _ st (PostM.imp (PostM.bind p) fun F1 H1 ρ1 c s1 st1 p1 => ?_)
  cases c with
  | true => exact h.rd W fr F1 H1 σ ρ1 Q st1 p1
  | false => exact h2.rd W fr F1 H1 σ ρ1 Q st1 p1
theorem dkp_if {c : Expr} {a b : List Stmt} {tt : TT} {t1 t2 : WX → TS} {fc : TM} {f1 f2 : SF} (hc : ∀ pn xe (Er : St → ErT), DPT (X.tr pn xe) Er w c tt fc) (h : DKP X w a t1 f1) (h2 : DKP X w b t2 f2) : DKP X w [.If c a b pos] (fun W => tIfS tt (t1 W) (t2 W)) (ifP fc f1 f2) := by
  refine ⟨fun W pn xe tk => pss_one (ps_if (hc pn xe fun _ _ _ => False).pe (h.ps W pn xe tk) (h2.ps W pn xe tk)), fun W fr F H σ ρ Dn st p => ?_⟩
  refine (hc [] (fun _ _ => False) (ErW X.mg W)).rd fr F H σ ρ _ st (PostM.imp (post_w (k := fun k ρ1 => if k = true then f1 ρ1 else f2 ρ1) p) fun F1 H1 ρ1 k s1 st1 p1 => ?_)
  cases k with
  | true => exact h.rd W fr F1 H1 σ ρ1 Dn st1 p1
  | false => exact h2.rd W fr F1 H1 σ ρ1 Dn st1 p1
end
def tryP (ie ik : Nat) (cs : List Str) (f : SF) : SF := fun ρ => match f ρ with
  | .nx ρ1 => .nx ρ1
  | .err c ρ1 => if c ∈ cs then .nx (((ρ1.set ie none).set ik (some (excD c))).set ie none) else .bad
  | _ => .bad
theorem d_tryP {X : Cx} {Er : ErT} {s0 : Sh} {wl w : List Sh} {ie ik : Nat} {xn xk xc : Str} {cB : Value} {cs : List Str} {body : List Stmt} {tb : WX → TS} {f : SF} {np p1 p2 p3 pos pos' : Pos} (hs : X.stack = X.env :: X.outer) (hf : X.env.frame = some X.env.locals) (hx0 : X.ex = []) (hN : X.N.Nodup) (hc : Names X xc cB) (hcs : ∀ c ∈ cs, Caught X cB c)
    (h : DKP X w body tb f) (hie : X.N[ie]? = some xn) (hik : X.N[ik]? = some xk) (hln : X.env.kindOf xn = some .local) (hv : Vis X.env.scope xn) (hlk : Loc X.env.scope xk)
    (hwe : sh w ie = .fz) (hwk : sh w ik = .fz) (hne : ie ≠ ik)
    (hd1 : (xn == ("__debug__" : Str)) = false := by decide) (hd2 : (xn == ("__classdict__" : Str)) = false := by decide)
    (hsk : swapsWith (.Name xn p2) (some (.Name xk p1)) p3.line X.env = pure false := by rfl) (hfk : X.fn xk = true ∨ X.env.scope.names.lookup xk = some .local := by first | exact .inl rfl | exact .inr rfl) :
    D1 X Er s0 wl w (.Try body [.ExceptHandler (some (.Name xc np)) (some xn) [.Assign [.Name xk p1] (.Name xn p2) p3] pos'] [] [] pos) w
      (fun D σ H => tb (wKeep X.K cB ie ik D) D σ H) (tryP ie ik cs f) := by
  refine ⟨ps_try_keep (tb := tb) hs hf hx0 hN hie hln hv hik hlk hc (fun W pn xe tk po => h.ps W pn xe tk) hd1 hd2 hsk hfk, fun fr F H σ ρ Dn st q => ?_⟩
  refine h.rd _ fr F H σ ρ _ st ?_
  unfold tryP at q
  cases ef : f ρ with
  | bad => rw [ef] at q; exact q.elim
  | rt d ρ1 => rw [ef] at q; exact q.elim
  | bk ρ1 => rw [ef] at q; exact q.elim
  | nx ρ1 =>
    rw [ef] at q
    exact fun σ' F' H' s' st' => q σ' F' H' s' st'
  | err c ρ1 =>
    rw [ef] at q
    by_cases hm : c ∈ cs
    · simp only [if_pos hm] at q
      intro σ' F' H' s' st' C hC
      obtain ⟨C', e1, e2, e3⟩ := (hcs c hm).is
      rw [hC] at e1
      cases e1
      refine ⟨rfl, e3, fun a ha => ?_⟩
      have g2 : Grow F' H' (upd F' a (CxO (.ref C) a)) (upd H' a (CxO (.ref C) a)) := Grow.new st'.fh ha
      have st2 := st'.grow g2
      have hq : DQ X.K (upd F' a (CxO (.ref C) a)) (.ref a) (excD c) := .inr (.inr (.inl ⟨c, rfl, a, C, rfl, e2, upd_same⟩))
      have st3 := ((st2.unset (i := ie)).set_q (i := ik) hq).unset (i := ie)
      have eσ : (((σ'.set ie (some (.ref a))).set ik (some (.ref a))).set ie none) = (((σ'.set ie none).set ik (some (.ref a))).set ie none) := by
        rw [List.set_comm _ _ hne, List.set_set, List.set_comm _ _ hne, List.set_set]
      rw [eσ]
      have st4 : SR X.K fr w _ _ _ _ := st3.congr (w' := w) fun j => by
        by_cases hj : ik = j
        · subst hj; rw [sh_set_fz]; exact hwk
        · rw [sh_set_ne hj]
      exact q _ _ _ (same_trans s' g2.ff) st4
    · simp only [if_neg hm] at q
      exact q.elim
end
end DL

set_option maxHeartbeats 2000000
/-! PN6: short forms, used by gen.py. -/
namespace DL
open PySem PySem.Spec L2
open PyProof.Rows hiding St
section
variable [M : Mem] {X : Cx} {Er : St → ErT} {w : List Sh} {K : PySem.W.Frag} {mg : Str → Option Value} {P : PC} {fl : List Str} {c : V → Prop} {x : Str} {p p1 p2 p3 pos apos : Pos}
section
variable (i : Nat) (T : KlI K mg P.cn fl) (ok : PcOk P)
include T ok
theorem kf1 (hf : P.f1 ∈ fl := by decide +kernel) (hw : sh w i = .ob (pC P c) := by rfl) (hN : X.N[i]? = some x := by rfl) (hv : Vis X.env.scope x := by first | exact Or.inl rfl | exact Or.inr (Or.inl rfl) | exact Or.inr (Or.inr rfl)) (hK : X.K = K := by rfl)
    (hd : (x == ("__debug__" : Str)) = false := by decide) (hcd : (x == ("__classdict__" : Str)) = false := by decide) (hb : attributeBase (.Name x p1) P.f1 X.env (eval (.Name x p1) X.env) = eval (.Name x p1) X.env := by rfl) :
    DP X Er w (.Attribute (.Name x p1) P.f1 pos) (tFld K (tVar i) P.f1) (fld1M P i) := by subst hK; exact ⟨fld_pe hN hv hd hcd hb, drp_fld1 hw T hf⟩

theorem kf2 (hf : P.f2 ∈ fl := by decide +kernel) (hw : sh w i = .ob (pC P c) := by rfl) (hN : X.N[i]? = some x := by rfl) (hv : Vis X.env.scope x := by first | exact Or.inl rfl | exact Or.inr (Or.inl rfl) | exact Or.inr (Or.inr rfl)) (hK : X.K = K := by rfl)
    (hd : (x == ("__debug__" : Str)) = false := by decide) (hcd : (x == ("__classdict__" : Str)) = false := by decide) (hb : attributeBase (.Name x p1) P.f2 X.env (eval (.Name x p1) X.env) = eval (.Name x p1) X.env := by rfl) :
    DP X Er w (.Attribute (.Name x p1) P.f2 pos) (tFld K (tVar i) P.f2) (fld2M P i) := by subst hK; exact ⟨fld_pe hN hv hd hcd hb, drp_fld2 hw T ok hf⟩
theorem klen3 (hg : Gl X "len") (hm : mg "len" = none) (hf : P.f3 ∈ fl := by decide +kernel) (hw : sh w i = .ob (pC P c) := by rfl) (hN : X.N[i]? = some x := by rfl) (hv : Vis X.env.scope x := by first | exact Or.inl rfl | exact Or.inr (Or.inl rfl) | exact Or.inr (Or.inr rfl)) (hK : X.K = K := by rfl) (hG : X.mg = mg := by rfl)
    (hd : (x == ("__debug__" : Str)) = false := by decide) (hcd : (x == ("__classdict__" : Str)) = false := by decide) (hb : attributeBase (.Name x p1) P.f3 X.env (eval (.Name x p1) X.env) = eval (.Name x p1) X.env := by rfl)
    (he : starEach [.Attribute (.Name x p1) P.f3 p2] X.env = (false, eval (.Attribute (.Name x p1) P.f3 p2) X.env) :: starEach [] X.env := by rfl) (hpl : (backTo pos (starEach [] X.env)).any (·.1) = false := by rfl) :
    DP X Er w (.Call (.Name "len" p) [.Attribute (.Name x p1) P.f3 p2] [] pos) (tCB (rLenX K) (tCons (tFld K (tVar i) P.f3) tNil)) (len3M P i) := by subst hK; subst hG; exact ⟨pe_callB (klen X.K) hg hm (by decide +kernel) (pa_cons (fld_pe hN hv hd hcd hb) pa_nil he) (by decide) (by decide) he hpl, drp_len3 hw T ok hf⟩
theorem klen4 (hg : Gl X "len") (hm : mg "len" = none) (hf : P.f4 ∈ fl := by decide +kernel) (hw : sh w i = .ob (pC P c) := by rfl) (hN : X.N[i]? = some x := by rfl) (hv : Vis X.env.scope x := by first | exact Or.inl rfl | exact Or.inr (Or.inl rfl) | exact Or.inr (Or.inr rfl)) (hK : X.K = K := by rfl) (hG : X.mg = mg := by rfl)
    (hd : (x == ("__debug__" : Str)) = false := by decide) (hcd : (x == ("__classdict__" : Str)) = false := by decide) (hb : attributeBase (.Name x p1) P.f4 X.env (eval (.Name x p1) X.env) = eval (.Name x p1) X.env := by rfl)
    (he : starEach [.Attribute (.Name x p1) P.f4 p2] X.env = (false, eval (.Attribute (.Name x p1) P.f4 p2) X.env) :: starEach [] X.env := by rfl) (hpl : (backTo pos (starEach [] X.env)).any (·.1) = false := by rfl) :
    DP X Er w (.Call (.Name "len" p) [.Attribute (.Name x p1) P.f4 p2] [] pos) (tCB (rLenX K) (tCons (tFld K (tVar i) P.f4) tNil)) (len4M P i) := by subst hK; subst hG; exact ⟨pe_callB (klen X.K) hg hm (by decide +kernel) (pa_cons (fld_pe hN hv hd hcd hb) pa_nil he) (by decide) (by decide) he hpl, drp_len4 hw T ok hf⟩
theorem knil3 (hu : X.A.units + 64 < cLine) (hf : P.f3 ∈ fl := by decide +kernel) (hw : sh w i = .ob (pC P c) := by rfl) (hN : X.N[i]? = some x := by rfl) (hv : Vis X.env.scope x := by first | exact Or.inl rfl | exact Or.inr (Or.inl rfl) | exact Or.inr (Or.inr rfl)) (hK : X.K = K := by rfl)
    (hd : (x == ("__debug__" : Str)) = false := by decide) (hcd : (x == ("__classdict__" : Str)) = false := by decide) (hb : attributeBase (.Name x p1) P.f3 X.env (eval (.Name x p1) X.env) = eval (.Name x p1) X.env := by rfl) :
    DPT X Er w (.Compare (.Attribute (.Name x p1) P.f3 p2) [.Eq] [.List [] p3] pos) (tTest (tOp (rEqD K) (tFld K (tVar i) P.f3) (tLst tNil))) (testP (nil3M P i)) := by subst hK; exact ⟨pt_cmpR (op_eqD hu) (fld_pe hN hv hd hcd hb) (pe_lst pa_nil) (nomark _), drm_test (drp_nil3 hw T ok hf)⟩
theorem knil4 (hu : X.A.units + 64 < cLine) (hf : P.f4 ∈ fl := by decide +kernel) (hw : sh w i = .ob (pC P c) := by rfl) (hN : X.N[i]? = some x := by rfl) (hv : Vis X.env.scope x := by first | exact Or.inl rfl | exact Or.inr (Or.inl rfl) | exact Or.inr (Or.inr rfl)) (hK : X.K = K := by rfl)
    (hd : (x == ("__debug__" : Str)) = false := by decide) (hcd : (x == ("__classdict__" : Str)) = false := by decide) (hb : attributeBase (.Name x p1) P.f4 X.env (eval (.Name x p1) X.env) = eval (.Name x p1) X.env := by rfl) :
    DPT X Er w (.Compare (.Attribute (.Name x p1) P.f4 p2) [.Eq] [.List [] p3] pos) (tTest (tOp (rEqD K) (tFld K (tVar i) P.f4) (tLst tNil))) (testP (nil4M P i)) := by subst hK; exact ⟨pt_cmpR (op_eqD hu) (fld_pe hN hv hd hcd hb) (pe_lst pa_nil) (nomark _), drm_test (drp_nil4 hw T ok hf)⟩
theorem kpop3 (hf : P.f3 ∈ fl := by decide +kernel) (hw : sh w i = .ob (pC P c) := by rfl) (hN : X.N[i]? = some x := by rfl) (hv : Vis X.env.scope x := by first | exact Or.inl rfl | exact Or.inr (Or.inl rfl) | exact Or.inr (Or.inr rfl)) (hK : X.K = K := by rfl)
    (hd : (x == ("__debug__" : Str)) = false := by decide) (hcd : (x == ("__classdict__" : Str)) = false := by decide) (hb : attributeBase (.Name x p1) P.f3 X.env (eval (.Name x p1) X.env) = eval (.Name x p1) X.env := by rfl)
    (hbase : attributeBase (.Attribute (.Name x p1) P.f3 p2) "pop" X.env (eval (.Attribute (.Name x p1) P.f3 p2) X.env) = eval (.Attribute (.Name x p1) P.f3 p2) X.env := by rfl) (hline : (apos.endLine == pos.line) = true := by rfl) :
    DP X Er w (.Call (.Attribute (.Attribute (.Name x p1) P.f3 p2) "pop" apos) [] [] pos) (tBM0 K "list" rPop (tFld K (tVar i) P.f3)) (pop3M P i) := by subst hK; exact ⟨pe_bm0 PySem.F.plainAttrs_list PySem.F.slot_list_pop PySem.F.type_list_pop mt_pop (fld_pe hN hv hd hcd hb) hbase hline, drp_pop3 hw T ok hf⟩
theorem kpop4 (hf : P.f4 ∈ fl := by decide +kernel) (hw : sh w i = .ob (pC P c) := by rfl) (hN : X.N[i]? = some x := by rfl) (hv : Vis X.env.scope x := by first | exact Or.inl rfl | exact Or.inr (Or.inl rfl) | exact Or.inr (Or.inr rfl)) (hK : X.K = K := by rfl)
    (hd : (x == ("__debug__" : Str)) = false := by decide) (hcd : (x == ("__classdict__" : Str)) = false := by decide) (hb : attributeBase (.Name x p1) P.f4 X.env (eval (.Name x p1) X.env) = eval (.Name x p1) X.env := by rfl)
    (hbase : attributeBase (.Attribute (.Name x p1) P.f4 p2) "pop" X.env (eval (.Attribute (.Name x p1) P.f4 p2) X.env) = eval (.Attribute (.Name x p1) P.f4 p2) X.env := by rfl) (hline : (apos.endLine == pos.line) = true := by rfl) :
    DP X Er w (.Call (.Attribute (.Attribute (.Name x p1) P.f4 p2) "pop" apos) [] [] pos) (tBM0 K "list" rPop (tFld K (tVar i) P.f4)) (pop4M P i) := by subst hK; exact ⟨pe_bm0 PySem.F.plainAttrs_list PySem.F.slot_list_pop PySem.F.type_list_pop mt_pop (fld_pe hN hv hd hcd hb) hbase hline, drp_pop4 hw T ok hf⟩
theorem kapp3 {q1 q2 : Pos} (hf : P.f3 ∈ fl := by decide +kernel) (hf2 : P.f2 ∈ fl := by decide +kernel) (hw : sh w i = .ob (pC P c) := by rfl) (hN : X.N[i]? = some x := by rfl) (hv : Vis X.env.scope x := by first | exact Or.inl rfl | exact Or.inr (Or.inl rfl) | exact Or.inr (Or.inr rfl)) (hK : X.K = K := by rfl)
    (hd : (x == ("__debug__" : Str)) = false := by decide) (hcd : (x == ("__classdict__" : Str)) = false := by decide) (hb : attributeBase (.Name x p1) P.f3 X.env (eval (.Name x p1) X.env) = eval (.Name x p1) X.env := by rfl) (hb2 : attributeBase (.Name x q1) P.f2 X.env (eval (.Name x q1) X.env) = eval (.Name x q1) X.env := by rfl)
    (hbase : attributeBase (.Attribute (.Name x p1) P.f3 p2) "append" X.env (eval (.Attribute (.Name x p1) P.f3 p2) X.env) = eval (.Attribute (.Name x p1) P.f3 p2) X.env := by rfl)
    (hfew : ((backTo pos (starEach [.Attribute (.Name x q1) P.f2 q2] X.env)).all (fun x => !x.1) && (backToKw pos (keywordEach [] X.env)).all (fun x => x.1.isSome) && decide ([Expr.Attribute (.Name x q1) P.f2 q2].length + ([] : List Keyword).length + (if ([] : List Keyword).isEmpty then 0 else 1) < 30)) = true := by rfl)
    (hline : (apos.endLine == pos.line) = true := by rfl) (hst : starEach [.Attribute (.Name x q1) P.f2 q2] X.env = (false, eval (.Attribute (.Name x q1) P.f2 q2) X.env) :: starEach [] X.env := by rfl) (hplain : (backTo pos (starEach [] X.env)).any (·.1) = false := by rfl) :
    DP X Er w (.Call (.Attribute (.Attribute (.Name x p1) P.f3 p2) "append" apos) [.Attribute (.Name x q1) P.f2 q2] [] pos) (tBM K "list" rAppend (tFld K (tVar i) P.f3) (tCons (tFld K (tVar i) P.f2) tNil)) (app3M P i) := by
  subst hK; exact ⟨pe_bm PySem.F.plainAttrs_list PySem.F.slot_list_append PySem.F.type_list_append mt_append (fld_pe hN hv hd hcd hb) (pa_cons (fld_pe hN hv hd hcd hb2) pa_nil hst) hbase hfew hline hst hplain, drp_app3 hw T ok hf hf2⟩
theorem kapp4 {q1 q2 : Pos} (hf : P.f4 ∈ fl := by decide +kernel) (hf2 : P.f2 ∈ fl := by decide +kernel) (hw : sh w i = .ob (pC P c) := by rfl) (hN : X.N[i]? = some x := by rfl) (hv : Vis X.env.scope x := by first | exact Or.inl rfl | exact Or.inr (Or.inl rfl) | exact Or.inr (Or.inr rfl)) (hK : X.K = K := by rfl)
    (hd : (x == ("__debug__" : Str)) = false := by decide) (hcd : (x == ("__classdict__" : Str)) = false := by decide) (hb : attributeBase (.Name x p1) P.f4 X.env (eval (.Name x p1) X.env) = eval (.Name x p1) X.env := by rfl) (hb2 : attributeBase (.Name x q1) P.f2 X.env (eval (.Name x q1) X.env) = eval (.Name x q1) X.env := by rfl)
    (hbase : attributeBase (.Attribute (.Name x p1) P.f4 p2) "append" X.env (eval (.Attribute (.Name x p1) P.f4 p2) X.env) = eval (.Attribute (.Name x p1) P.f4 p2) X.env := by rfl)
    (hfew : ((backTo pos (starEach [.Attribute (.Name x q1) P.f2 q2] X.env)).all (fun x => !x.1) && (backToKw pos (keywordEach [] X.env)).all (fun x => x.1.isSome) && decide ([Expr.Attribute (.Name x q1) P.f2 q2].length + ([] : List Keyword).length + (if ([] : List Keyword).isEmpty then 0 else 1) < 30)) = true := by rfl)
    (hline : (apos.endLine == pos.line) = true := by rfl) (hst : starEach [.Attribute (.Name x q1) P.f2 q2] X.env = (false, eval (.Attribute (.Name x q1) P.f2 q2) X.env) :: starEach [] X.env := by rfl) (hplain : (backTo pos (starEach [] X.env)).any (·.1) = false := by rfl) :
    DP X Er w (.Call (.Attribute (.Attribute (.Name x p1) P.f4 p2) "append" apos) [.Attribute (.Name x q1) P.f2 q2] [] pos) (tBM K "list" rAppend (tFld K (tVar i) P.f4) (tCons (tFld K (tVar i) P.f2) tNil)) (app4M P i) := by
  subst hK; exact ⟨pe_bm PySem.F.plainAttrs_list PySem.F.slot_list_append PySem.F.type_list_append mt_append (fld_pe hN hv hd hcd hb) (pa_cons (fld_pe hN hv hd hcd hb2) pa_nil hst) hbase hfew hline hst hplain, drp_app4 hw T ok hf hf2⟩
end
theorem argsP0 : ∀ ρ ds ρ1, nilP ρ = .ok ds ρ1 → ds.length = 0 := fun ρ ds ρ1 e => by cases e; rfl
theorem argsPS {a : EM} {r : AM} {n : Nat} (h : ∀ ρ ds ρ1, r ρ = .ok ds ρ1 → ds.length = n) : ∀ ρ ds ρ1, consP a r ρ = .ok ds ρ1 → ds.length = n + 1 := fun ρ ds ρ1 e => by
  unfold consP bP at e
  cases h1 : a ρ with
  | ok x ρ2 =>
    rw [h1] at e
    simp only at e
    cases h2 : r ρ2 with
    | ok xs ρ3 => rw [h2] at e; cases e; simp [h ρ2 xs ρ1 h2]
    | err c ρ3 => rw [h2] at e; cases e
    | bad => rw [h2] at e; cases e
  | err c ρ2 => rw [h1] at e; cases e
  | bad => rw [h1] at e; cases e
section
variable {CX : CXT} {k n : Nat} {f : Addr} {fd : FuncData} {ps : List Str} {E : St → XK} {m : Str} {ta : TA} {fa : AM} {e : Expr} {es : List Expr} {y : Str}
/-- an own def with plain arguments -/
theorem kownP (K : PySem.W.Frag) (mg : Str → Option Value) {g : List D → R D} (F : FnOk X.prog X.w K mg X.base CX k f fd ps (spD K mg n g)) (hr : Room k X.A) (hg : Gl X x) (hm : mg x = some (.ref f)) (hk : PySem.W.keepIn K (.ref f) = true) (hb : Binds K fd ps []) (hx : ∀ σ, PassesAt CX X σ (E σ))
    (he : ∀ σ c H', Er σ c H' → erX mg (E σ) c H') (ha : DPA X Er w (e :: es) ta fa) (hn : ∀ ρ ds ρ1, fa ρ = .ok ds ρ1 → ds.length = n)
    (hd : (x == ("__debug__" : Str)) = false := by decide) (hs : starEach (e :: es) X.env = (false, eval e X.env) :: starEach es X.env := by rfl) (hpl : (backTo pos (starEach es X.env)).any (·.1) = false := by rfl) (hK : X.K = K := by rfl) (hG : X.mg = mg := by rfl) :
    DP X Er w (.Call (.Name x p) (e :: es) [] pos) (tCallS (spD K mg n g) E ta) (ownP g fa) := by subst hK; subst hG; exact ⟨pe_callS F hr hg hm hk hb hx ha.pe hd hs hpl, drp_own he ha.rd hn⟩
/-- an own def whose first argument is the object in slot i -/
theorem kobjP (K : PySem.W.Frag) (mg : Str → Option Value) (i : Nat) {g : D → List D → RP} {p0 : Pos} (F : FnOk X.prog X.w K mg X.base CX k f fd ps (spP P K mg n g)) (hr : Room k X.A) (hg : Gl X x) (hm : mg x = some (.ref f)) (hk : PySem.W.keepIn K (.ref f) = true) (hb : Binds K fd ps []) (hx : ∀ σ, PassesAt CX X σ (E σ))
    (he : ∀ σ c H', Er σ c H' → erX mg (E σ) c H') (ha : DPA X Er w es ta fa) (hn : ∀ ρ ds ρ1, fa ρ = .ok ds ρ1 → ds.length = n) (hw : sh w i = .ob (pC P c) := by rfl) (hN : X.N[i]? = some y := by rfl) (hv : Vis X.env.scope y := by first | exact Or.inl rfl | exact Or.inr (Or.inl rfl) | exact Or.inr (Or.inr rfl))
    (hd0 : (y == ("__debug__" : Str)) = false := by decide) (hcd0 : (y == ("__classdict__" : Str)) = false := by decide)
    (hd : (x == ("__debug__" : Str)) = false := by decide) (hs : starEach (.Name y p0 :: es) X.env = (false, eval (.Name y p0) X.env) :: starEach es X.env := by rfl) (hpl : (backTo pos (starEach es X.env)).any (·.1) = false := by rfl) (hK : X.K = K := by rfl) (hG : X.mg = mg := by rfl) :
    DP X Er w (.Call (.Name x p) (.Name y p0 :: es) [] pos) (tCallS (spP P K mg n g) E (tCons (tVar i) ta)) (callP P i g fa) := by subst hK; subst hG; exact ⟨pe_callS F hr hg hm hk hb hx (pa_cons (pe_var hN hv hd0 hcd0) ha.pe hs) hd hs hpl, drp_call hw he ha.rd hn⟩
/-- a method of the object in slot i -/
theorem kmethP (K : PySem.W.Frag) (mg : Str → Option Value) (i : Nat) {pl : Sem Bool} {g : D → List D → RP} {p0 : Pos} (T : KlI K mg P.cn fl) (hm : Meth K T.C m f) (F : FnOk X.prog X.w K mg X.base CX k f fd ps (spP P K mg n g)) (hr : Room k X.A) (hb : Binds K fd ps []) (hx : ∀ σ, PassesAt CX X σ (E σ))
    (he : ∀ σ c H', Er σ c H' → erX mg (E σ) c H') (ha : DPA X Er w (e :: es) ta fa) (hn : ∀ ρ ds ρ1, fa ρ = .ok ds ρ1 → ds.length = n) (hmn : ∀ v1 v2 pa ga, (pntF P v1 v2 pa ga).lookup m = none := by intro _ _ _ _; rfl) (hw : sh w i = .ob (pC P c) := by rfl) (hN : X.N[i]? = some y := by rfl) (hv : Vis X.env.scope y := by first | exact Or.inl rfl | exact Or.inr (Or.inl rfl) | exact Or.inr (Or.inr rfl))
    (hd0 : (y == ("__debug__" : Str)) = false := by decide) (hcd0 : (y == ("__classdict__" : Str)) = false := by decide)
    (hst : starEach (e :: es) X.env = (false, eval e X.env) :: starEach es X.env := by rfl) (hpl : (backTo pos (starEach es X.env)).any (·.1) = false := by rfl)
    (ht : eval (.Call (.Attribute (.Name y p0) m apos) (e :: es) [] pos) X.env = (do
      let ov ← eval (.Name y p0) X.env
      standAt apos.atName
      let (f, first) ← holding [ov] (getMethod ov m pl)
      callWith pos f first (backTo pos (starEach (e :: es) X.env)) (backToKw pos (keywordEach [] X.env))) := by rfl) (hK : X.K = K := by rfl) (hG : X.mg = mg := by rfl) :
    DP X Er w (.Call (.Attribute (.Name y p0) m apos) (e :: es) [] pos) (tMethS T.C m (spP P K mg n g) E (tVar i) ta) (callP P i g fa) := by subst hK; subst hG; exact ⟨pe_methE (pe_var hN hv hd0 hcd0) T.cl hm F hr hb hx ha.pe hst hpl ht, drp_meth (fl := fl) hw T.n hmn he ha.rd hn⟩
theorem kmethP0 (K : PySem.W.Frag) (mg : Str → Option Value) (i : Nat) {pl : Sem Bool} {g : D → List D → RP} {p0 : Pos} (T : KlI K mg P.cn fl) (hm : Meth K T.C m f) (F : FnOk X.prog X.w K mg X.base CX k f fd ps (spP P K mg 0 g)) (hr : Room k X.A) (hb : Binds K fd ps []) (hx : ∀ σ, PassesAt CX X σ (E σ))
    (he : ∀ σ c H', Er σ c H' → erX mg (E σ) c H') (hmn : ∀ v1 v2 pa ga, (pntF P v1 v2 pa ga).lookup m = none := by intro _ _ _ _; rfl) (hw : sh w i = .ob (pC P c) := by rfl) (hN : X.N[i]? = some y := by rfl) (hv : Vis X.env.scope y := by first | exact Or.inl rfl | exact Or.inr (Or.inl rfl) | exact Or.inr (Or.inr rfl))
    (hd0 : (y == ("__debug__" : Str)) = false := by decide) (hcd0 : (y == ("__classdict__" : Str)) = false := by decide)
    (ht : eval (.Call (.Attribute (.Name y p0) m apos) [] [] pos) X.env = (do
      let ov ← eval (.Name y p0) X.env
      standAt apos.atName
      let (f, first) ← holding [ov] (getMethod ov m pl)
      callWith pos f first (backTo pos (starEach [] X.env)) (backToKw pos (keywordEach [] X.env))) := by rfl) (hK : X.K = K := by rfl) (hG : X.mg = mg := by rfl) :
    DP X Er w (.Call (.Attribute (.Name y p0) m apos) [] [] pos) (tMethS T.C m (spP P K mg 0 g) E (tVar i) tNil) (callP P i g nilP) := by
  subst hK; subst hG
  exact ⟨pe_methE0 (pe_var hN hv hd0 hcd0) T.cl hm F hr hb hx ht, drp_meth (fl := fl) hw T.n hmn he (fun fr F H σ ρ Q st h => PostM.now h st [] .nil) argsP0⟩
end
end
section
variable [M : Mem] {X : Cx} {w : List Sh} {P : PC} {fl : List Str} {c : V → Prop} {k n : Nat} {f : Addr} {fd : FuncData} {ps : List Str} {m y : Str} {ta : TA} {fa : AM} {e : Expr} {es : List Expr} {pos apos : Pos}
/-- such a method in a try -/
theorem kdpk (K : PySem.W.Frag) (mg : Str → Option Value) (i : Nat) {pl : Sem Bool} {g : D → List D → RP} {p0 : Pos} (T : KlI K mg P.cn fl) (hm : Meth K T.C m f) (F : FnOk X.prog X.w K mg X.base (L2.CX X.prog X.w) k f fd ps (spP P K mg n g)) (hr : Room k X.A) (hb : Binds K fd ps [])
    (ha : ∀ pn xe (Er : St → ErT), DPA (X.tr pn xe) Er w (e :: es) ta fa) (hn : ∀ ρ ds ρ1, fa ρ = .ok ds ρ1 → ds.length = n) (hmn : ∀ v1 v2 pa ga, (pntF P v1 v2 pa ga).lookup m = none := by intro _ _ _ _; rfl) (hw : sh w i = .ob (pC P c) := by rfl) (hN : X.N[i]? = some y := by rfl) (hv : Vis X.env.scope y := by first | exact Or.inl rfl | exact Or.inr (Or.inl rfl) | exact Or.inr (Or.inr rfl))
    (hd0 : (y == ("__debug__" : Str)) = false := by decide) (hcd0 : (y == ("__classdict__" : Str)) = false := by decide)
    (hst : starEach (e :: es) X.env = (false, eval e X.env) :: starEach es X.env := by rfl) (hpl : (backTo pos (starEach es X.env)).any (·.1) = false := by rfl)
    (ht : eval (.Call (.Attribute (.Name y p0) m apos) (e :: es) [] pos) X.env = (do
      let ov ← eval (.Name y p0) X.env
      standAt apos.atName
      let (f, first) ← holding [ov] (getMethod ov m pl)
      callWith pos f first (backTo pos (starEach (e :: es) X.env)) (backToKw pos (keywordEach [] X.env))) := by rfl) (hK : X.K = K := by rfl) (hG : X.mg = mg := by rfl) :
    DPK X w (.Call (.Attribute (.Name y p0) m apos) (e :: es) [] pos) (fun W => tMethS T.C m (spP P K mg n g) (WE W) (tVar i) ta) (callP P i g fa) := by
  subst hK; subst hG
  exact ⟨fun W pn xe tk => pe_methE (X := X.tr pn xe) (pe_var hN hv hd0 hcd0) T.cl hm F hr hb (fun σ => passAt tk σ) (ha pn xe (ErW X.mg W)).pe hst hpl ht, fun W => drp_meth (fl := fl) hw T.n hmn (fun _ _ _ h => h) (ha [] (fun _ _ => False) (ErW X.mg W)).rd hn⟩
theorem kdpk0 (K : PySem.W.Frag) (mg : Str → Option Value) (i : Nat) {pl : Sem Bool} {g : D → List D → RP} {p0 : Pos} (T : KlI K mg P.cn fl) (hm : Meth K T.C m f) (F : FnOk X.prog X.w K mg X.base (L2.CX X.prog X.w) k f fd ps (spP P K mg 0 g)) (hr : Room k X.A) (hb : Binds K fd ps [])
    (hmn : ∀ v1 v2 pa ga, (pntF P v1 v2 pa ga).lookup m = none := by intro _ _ _ _; rfl) (hw : sh w i = .ob (pC P c) := by rfl) (hN : X.N[i]? = some y := by rfl) (hv : Vis X.env.scope y := by first | exact Or.inl rfl | exact Or.inr (Or.inl rfl) | exact Or.inr (Or.inr rfl))
    (hd0 : (y == ("__debug__" : Str)) = false := by decide) (hcd0 : (y == ("__classdict__" : Str)) = false := by decide)
    (ht : eval (.Call (.Attribute (.Name y p0) m apos) [] [] pos) X.env = (do
      let ov ← eval (.Name y p0) X.env
      standAt apos.atName
      let (f, first) ← holding [ov] (getMethod ov m pl)
      callWith pos f first (backTo pos (starEach [] X.env)) (backToKw pos (keywordEach [] X.env))) := by rfl) (hK : X.K = K := by rfl) (hG : X.mg = mg := by rfl) :
    DPK X w (.Call (.Attribute (.Name y p0) m apos) [] [] pos) (fun W => tMethS T.C m (spP P K mg 0 g) (WE W) (tVar i) tNil) (callP P i g nilP) := by
  subst hK; subst hG
  exact ⟨fun W pn xe tk => pe_methE0 (X := X.tr pn xe) (pe_var hN hv hd0 hcd0) T.cl hm F hr hb (fun σ => passAt tk σ) ht, fun W => drp_meth (fl := fl) hw T.n hmn (fun _ _ _ h => h) (fun fr F H σ ρ Q st h => PostM.now h st [] .nil) argsP0⟩
theorem passes_at {CX : CXT} {E : XK} (h : Passes CX X E) : ∀ σ : St, PassesAt CX X σ ((fun _ => E) σ) := fun σ pins H s e s' I c => h pins σ H s e s' I c
end
end DL

set_option maxHeartbeats 2000000
/-! PN7: x.append(y.pop()); a, b = [..], [..] in one line (no tuple is built); an own def under another name. -/
namespace DL
open PySem PySem.Spec L2
open PyProof.Rows hiding St
section
variable [Mem] {X : Cx} {Er : ErT} {s0 : Sh} {wl w : List Sh} {ta : TA} {pos : Pos}
def popLast (w : List Sh) (i j : Nat) : SF := fun ρ => lsAt ρ i fun ds => lsAt ρ j fun es => match es.getLast? with
  | some d => if ds.length < 1000000 then .nx ((ρ.set j (some (.list es.dropLast))).set i (some (.list (ds ++ [d])))) else .bad
  | none => .bad
theorem drs_popLast {K : PySem.W.Frag} {i j : Nat} (hij : i ≠ j) (hi : sh w i = .ls) (hj : sh w j = .ls) (hw : sh w 0 = s0) :
    DRs K Er s0 wl w w (tDrop (tBM K "list" rAppend (tVar i) (tCons (tBM0 K "list" rPop (tVar j)) tNil))) (popLast w i j) := by
  intro fr F H σ ρ Dn st p
  unfold popLast at p
  obtain ⟨a, vs, ds, e1, q1, q2, q3, q4, p⟩ := lsAt_post hi st p
  obtain ⟨b, us, es, f1, r1, r2, r3, r4, p⟩ := lsAt_post hj st p
  refine ⟨_, q1, .inl ⟨rfl, _, SqL.of q2⟩, ?_⟩
  refine ⟨_, r1, .inl ⟨rfl, _, SqL.of r2⟩, ?_⟩
  cases el : es.getLast? with
  | none => rw [el] at p; exact p.elim
  | some y =>
    rw [el] at p
    simp only at p
    by_cases hd : ds.length < 1000000
    · rw [if_pos hd] at p
      obtain ⟨u, z1, z2, z3⟩ := dpAll_last r3 el
      have st2 := r4 _ _ z3
      refine ⟨b, us, u, rfl, rfl, r2, z1, ?_⟩
      have e2 : (ρ.set j (some (.list es.dropLast)))[i]? = some (some (.list ds)) := by rw [List.getElem?_set_ne (Ne.symm hij)]; exact e1
      obtain ⟨vs2, x1, x2, x3⟩ := ls_again hi st2 e2 q1
      refine ⟨a, vs2, u, rfl, rfl, x1, sz_lt (by rw [dpAll_len x2]; exact hd), ?_⟩
      exact p _ F _ (same_refl _) (x3 _ _ (dpAll_app x2 (.cons z2 .nil)))
    · rw [if_neg hd] at p; exact p.elim
theorem s_popLast (i j : Nat) {x y : Str} {p1 p2 p3 p4 p5 p6 : Pos} (hij : i ≠ j := by decide) (hi : sh w i = .ls := by rfl) (hj : sh w j = .ls := by rfl) (hN : X.N[i]? = some x := by rfl) (hM : X.N[j]? = some y := by rfl)
    (hv : Vis X.env.scope x := by first | exact Or.inl rfl | exact Or.inr (Or.inl rfl) | exact Or.inr (Or.inr rfl)) (hv2 : Vis X.env.scope y := by first | exact Or.inl rfl | exact Or.inr (Or.inl rfl) | exact Or.inr (Or.inr rfl)) (hw : sh w 0 = s0 := by rfl)
    (hs : swapsWith (.Call (.Attribute (.Name x p1) "append" p2) [.Call (.Attribute (.Name y p4) "pop" p5) [] [] p6] [] p3) none pos.line X.env = pure false := by rfl) (hbase : attributeBase (.Name x p1) "append" X.env (eval (.Name x p1) X.env) = eval (.Name x p1) X.env := by rfl)
    (hfew : ((backTo p3 (starEach [.Call (.Attribute (.Name y p4) "pop" p5) [] [] p6] X.env)).all (fun x => !x.1) && (backToKw p3 (keywordEach [] X.env)).all (fun x => x.1.isSome) && decide (([.Call (.Attribute (.Name y p4) "pop" p5) [] [] p6] : List Expr).length + ([] : List Keyword).length + (if ([] : List Keyword).isEmpty then 0 else 1) < 30)) = true := by rfl)
    (hline : (p2.endLine == p3.line) = true := by rfl) (hst : starEach [.Call (.Attribute (.Name y p4) "pop" p5) [] [] p6] X.env = (false, eval (.Call (.Attribute (.Name y p4) "pop" p5) [] [] p6) X.env) :: starEach [] X.env := by rfl) (hplain : (backTo p3 (starEach [] X.env)).any (·.1) = false := by rfl)
    (hbase2 : attributeBase (.Name y p4) "pop" X.env (eval (.Name y p4) X.env) = eval (.Name y p4) X.env := by rfl)
    (hline2 : (p5.endLine == p6.line) = true := by rfl)
    (hd : (x == ("__debug__" : Str)) = false := by decide) (hcd : (x == ("__classdict__" : Str)) = false := by decide) (hd2 : (y == ("__debug__" : Str)) = false := by decide) (hcd2 : (y == ("__classdict__" : Str)) = false := by decide) :
    D1 X Er s0 wl w (.Expr (.Call (.Attribute (.Name x p1) "append" p2) [.Call (.Attribute (.Name y p4) "pop" p5) [] [] p6] [] p3) pos) w (tDrop (tBM X.K "list" rAppend (tVar i) (tCons (tBM0 X.K "list" rPop (tVar j)) tNil))) (popLast w i j) :=
  ⟨ps_expr (pe_bm PySem.F.plainAttrs_list PySem.F.slot_list_append PySem.F.type_list_append mt_append (pe_var hN hv hd hcd) (pa_cons (pe_bm0 PySem.F.plainAttrs_list PySem.F.slot_list_pop PySem.F.type_list_pop mt_pop (pe_var hM hv2 hd2 hcd2) hbase2 hline2) pa_nil hst) hbase hfew hline hst hplain) hs, drs_popLast hij hi hj hw⟩
theorem drs_par2 {K : PySem.W.Frag} {i j : Nat} {bs : List Bool} {f : MF} (hw : sh w 0 = s0) (h : DRm K Er ta f) (hk : ∀ ρ ms, f ρ = .ok ms → ms.map isNew = bs) (hl : bs.length = 2) (hj : ∀ k ∈ [i, j], k < w.length) :
    DRs K Er s0 wl w (setW w [i, j] bs) (tPar i j ta) (mixS w [i, j] f) := by
  intro fr F H σ ρ Dn st p
  refine h F H σ _ _ st.fh st.envA ?_
  unfold mixS at p
  cases e : f (hidA w ρ) with
  | bad => rw [e] at p; exact p.elim
  | err c =>
    rw [e] at p
    exact fun F' H' gr => p σ F' H' w hw (st.grow gr)
  | ok ms =>
    rw [e, runR_ok] at p
    intro F1 H1 g vs mx
    have hb := hk _ _ e
    have hml : ms.length = 2 := by rw [← hl, ← hb, List.length_map]
    rw [if_pos (by omega)] at p
    obtain ⟨os, s⟩ := st
    have s1 := s.grow g
    obtain ⟨os', s2⟩ := s1.puts (H0 := H) (js := [i, j]) (ms := ms) (vs := vs) hml.symm hj mx fun q hq => by
      have hq0 := mix_new mx q hq
      exact ⟨none_of_sameM s.gh s.fh hq0, fun j => none_of_same (s.oh j) hq0, s.fh.no hq0⟩
    rw [hb] at s2
    match ms, vs, hml, mx, s2, p with
    | [m1, m2], [v, u], _, _, s2, p => exact ⟨v, u, rfl, p _ F1 _ g.ff ⟨os', s2⟩⟩
    | [m1, m2], [], _, mx, _, _ => cases m1 <;> exact mx.elim
    | [m1, m2], [_], _, mx, _, _ => cases m1 <;> cases m2 <;> exact mx.2.elim
    | [m1, m2], _ :: _ :: _ :: _, _, mx, _, _ => cases m1 <;> cases m2 <;> exact mx.2.2.elim
theorem s_par2 (i j : Nat) (bs : List Bool) {x y : Str} {a b : Expr} {f : MF} {px py pt : Pos} {kt k2 pt2} (h : DM X Er [a, b] ta f) (hk : ∀ ρ ms, f ρ = .ok ms → ms.map isNew = bs) (hN : X.N.Nodup) (hc : X.calm = true := by rfl) (hi : X.N[i]? = some x := by rfl) (hj : X.N[j]? = some y := by rfl) (hij : i ≠ j := by decide)
    (hx : X.env.scope.names.lookup x = some .local := by rfl) (hy : X.env.scope.names.lookup y = some .local := by rfl) (hl : bs.length = 2 := by rfl) (hjw : ∀ k ∈ [i, j], k < w.length := by decide)
    (hsw : swappedStores [.Tuple [.Name x px, .Name y py] kt pt] (.Tuple [a, b] k2 pt2) X.env = pure (some [x, y]) := by rfl) (hw : sh w 0 = s0 := by rfl)
    (hs : swapsWithSole [.Tuple [.Name x px, .Name y py] kt pt] (.Tuple [a, b] k2 pt2) pos.line X.env = pure false := by rfl) :
    D1 X Er s0 wl w (.Assign [.Tuple [.Name x px, .Name y py] kt pt] (.Tuple [a, b] k2 pt2) pos) (setW w [i, j] bs) (tPar i j ta) (mixS w [i, j] f) :=
  ⟨ps_par hc hN hi hj hij hx hy h.pe hsw hs, drs_par2 hw h.rd hk hl hjw⟩
end
section
variable {X : Cx} {xs x1 x2 f1 f2 f3 f4 : Str} {a1 a2 a3 a4 b1 b2 b3 b4 c1 c2 c3 c4 d1 d2 d3 d4 : Pos}
theorem ps_initP (P : PC) (h0 : ∀ p, PE X (.Name xs p) (tVar 0)) (h1 : ∀ p, PE X (.Name x1 p) (tVar 1)) (h2 : ∀ p, PE X (.Name x2 p) (tVar 2))
    (s1 : swapsWith (.Name x1 c1) (some (.Attribute (.Name xs a1) P.f1 b1)) d1.line X.env = pure false := by rfl) (s2 : swapsWith (.Name x2 c2) (some (.Attribute (.Name xs a2) P.f2 b2)) d2.line X.env = pure false := by rfl) (s3 : swapsWith (.List [] c3) (some (.Attribute (.Name xs a3) P.f3 b3)) d3.line X.env = pure false := by rfl)
    (s4 : swapsWith (.List [] c4) (some (.Attribute (.Name xs a4) P.f4 b4)) d4.line X.env = pure false := by rfl) :
    PSs X [.Assign [.Attribute (.Name xs a1) P.f1 b1] (.Name x1 c1) d1, .Assign [.Attribute (.Name xs a2) P.f2 b2] (.Name x2 c2) d2, .Assign [.Attribute (.Name xs a3) P.f3 b3] (.List [] c3) d3, .Assign [.Attribute (.Name xs a4) P.f4 b4] (.List [] c4) d4] (tInitP X.K P) :=
  pss_cons (ps_fld (h0 _) (h1 _) s1) (pss_cons (ps_fld (h0 _) (h2 _) s2) (pss_cons (ps_fld (h0 _) (pe_lst pa_nil) s3) (pss_one (ps_fld (h0 _) (pe_lst pa_nil) s4))))
end
section
variable [Mem] {X : Cx} {K : PySem.W.Frag} {mg : Str → Option Value} {Er : ErT} {s0 : Sh} {wl w w' : List Sh} {P : PC} {fl : List Str} {c : V → Prop} {x : Str} {te : TE} {p1 p4 pos p' : Pos}
theorem kset2 (i : Nat) {e : Expr} {fe : EM} (T : KlI K mg P.cn fl) (ok : PcOk P) (h : DP X (fun _ => Er) w e te fe) (hi : sh w i = .ob (pC P c) := by rfl) (hf : P.f2 ∈ fl := by decide +kernel) (hN : X.N[i]? = some x := by rfl) (hv : Vis X.env.scope x := by first | exact Or.inl rfl | exact Or.inr (Or.inl rfl) | exact Or.inr (Or.inr rfl)) (hK : X.K = K := by rfl) (hw : sh w 0 = s0 := by rfl)
    (hd : (x == ("__debug__" : Str)) = false := by decide) (hcd : (x == ("__classdict__" : Str)) = false := by decide) (hs : swapsWith e (some (.Attribute (.Name x p1) P.f2 p')) pos.line X.env = pure false := by rfl) :
    D1 X Er s0 wl w (.Assign [.Attribute (.Name x p1) P.f2 p'] e pos) w (sFld K (tVar i) te P.f2) (set2S P i fe) := by subst hK; exact d_set2 hi T ok hf h hN hv hw hd hcd hs
theorem knew4 (i : Nat) (T : KlI K mg P.cn fl) (ok : PcOk P) (hi : sh w i = .ob (pC P c) := by rfl) (hf : P.f4 ∈ fl := by decide +kernel) (hN : X.N[i]? = some x := by rfl) (hv : Vis X.env.scope x := by first | exact Or.inl rfl | exact Or.inr (Or.inl rfl) | exact Or.inr (Or.inr rfl)) (hK : X.K = K := by rfl) (hw : sh w 0 = s0 := by rfl)
    (hd : (x == ("__debug__" : Str)) = false := by decide) (hcd : (x == ("__classdict__" : Str)) = false := by decide) (hs : swapsWith (.List [] p4) (some (.Attribute (.Name x p1) P.f4 p')) pos.line X.env = pure false := by rfl) :
    D1 X Er s0 wl w (.Assign [.Attribute (.Name x p1) P.f4 p'] (.List [] p4) pos) w (sFld K (tVar i) (tLst tNil) P.f4) (stS (new4M P i)) := by subst hK; exact d_new4 (k := 0) hi T ok hf hN hv hw hd hcd hs
theorem knew3 (i : Nat) (T : KlI K mg P.cn fl) (ok : PcOk P) (hi : sh w i = .ob (pC P c) := by rfl) (hf : P.f3 ∈ fl := by decide +kernel) (hN : X.N[i]? = some x := by rfl) (hv : Vis X.env.scope x := by first | exact Or.inl rfl | exact Or.inr (Or.inl rfl) | exact Or.inr (Or.inr rfl)) (hK : X.K = K := by rfl) (hw : sh w 0 = s0 := by rfl)
    (hd : (x == ("__debug__" : Str)) = false := by decide) (hcd : (x == ("__classdict__" : Str)) = false := by decide) (hs : swapsWith (.List [] p4) (some (.Attribute (.Name x p1) P.f3 p')) pos.line X.env = pure false := by rfl) :
    D1 X Er s0 wl w (.Assign [.Attribute (.Name x p1) P.f3 p'] (.List [] p4) pos) w (sFld K (tVar i) (tLst tNil) P.f3) (stS (new3M P i)) := by subst hK; exact d_new3 (k := 0) hi T ok hf hN hv hw hd hcd hs
end
end DL

set_option maxHeartbeats 2000000
/-! LA1: an except clause with any suite, the caught exception tracked in it; defs called there. -/
namespace DL
open PySem PySem.Spec L2
open PyProof.Rows hiding St
/-- what the body may let out; ts: what the suite does -/
def wIn (K : PySem.W.Frag) (c : Value) (n i : Nat) (ts : TS) (D : Ends) : WX := fun cls d σ H =>
  d = none ∧ PySem.W.exmOne K cls c = some true ∧ ∀ a, H a = none → σ.length = n → ts { nx := fun σ' H' => D.nx (σ'.set i none) H', rt := D.rt, bk := fun σ' H' => D.bk (σ'.set i none) H', ct := fun σ' H' => D.ct (σ'.set i none) H' } (σ.set i (some (.ref a))) (upd H a (CxO cls a))
section
variable {X : Cx} {x n : Str} {c : Value} {i : Nat} {body suite : List Stmt} {b₀ : Stmt} {np pos pos' : Pos} {tb : WX → TS} {ts : TS}
theorem Inv.inSuite {pins : List (Addr × Obj)} {σ : St} {H : Hp} {s : Shared} (I : Inv X pins σ H s) (a : Addr) : Inv (X.suite a (X.pn ++ pins)) [] σ H s :=
  ⟨I.ok.suite _ _, I.os, I.bare, I.base, I.loc, I.cell, I.free, I.freeC, fun p hp => I.pin p (by rw [List.append_nil] at hp; exact hp), I.hok, I.len⟩
theorem Inv.offSuite {pins : List (Addr × Obj)} {σ : St} {H : Hp} {s : Shared} {a : Addr} {pn' : List (Addr × Obj)} (I : Inv (X.suite a (X.pn ++ pins)) pn' σ H s) (ok : X.Ok) : Inv X pins σ H s :=
  ⟨ok, I.os, I.bare, I.base, I.loc, I.cell, I.free, I.freeC, fun p hp => I.pin p (List.mem_append_left _ hp), I.hok, I.len⟩
/-- try: .. except x as n: suite -/
theorem ps_try_in (hs : X.stack = X.env :: X.outer) (hf : X.env.frame = some X.env.locals) (hx0 : X.ex = []) (hN : X.N.Nodup) (hi : X.N[i]? = some n) (hln : X.env.kindOf n = some .local) (hc : Names X x c)
    (hb : ∀ (W : WX) (pn : List (Addr × Obj)) (xe : Value → Shared → Prop), Takes (X.tr pn xe) W → PassesOwn (model X.prog X.w) X.A X.env xe → PSs (X.tr pn xe) body (tb W))
    (hsu : ∀ (a : Addr) (pn : List (Addr × Obj)), PSs (X.suite a pn) (b₀ :: suite) ts) :
    PS X (.Try body [.ExceptHandler (some (.Name x np)) (some n) (b₀ :: suite) pos'] [] [] pos) (fun D σ H => tb (wIn X.K c X.N.length i ts D) D σ H) := by
  refine ⟨fun pins s σ H D I h => ?_⟩
  have ok := I.ok
  have hfr : X.A.frames = some (X.env :: X.outer) := by rw [ok.frames, hs]
  have hloc : Loc X.env.scope n := .inl hln
  refine wpAny_Try_except ?_
  have body_ := (hb (wIn X.K c X.N.length i ts D) (X.pn ++ pins) (fun e s₁ => wpAny (model X.prog X.w) X.A (noteFrame e X.env) (fun _ s₂ => wpAny (model X.prog X.w) X.A (setFlight e none) (fun _ s₃ =>
    wpAny (model X.prog X.w) X.A (handleBy e X.env [.ExceptHandler (some (.Name x np)) (some n) (b₀ :: suite) pos']) (SP X pins D) X.xe s₃) X.xe s₂) X.xe s₁) ?tk PassesOwn.looking).run [] s σ H D (I.toTry _) h
  case tk =>
    rintro u s' ⟨a, B, sI, pins', σ', H', cls, d, rfl, J', nb, up, sky, na, os, ag, rfl, hexm, hnx⟩
    have J : Inv X pins σ' H' sI := J'.ofTry ok
    have sky2 : Sky B (X.env :: X.outer) a (Zc cls none) X.env.locals s'.heap := by
      rw [← hs]
      exact sky
    show wpAny (model X.prog X.w) X.A (noteFrame (.ref a) X.env) _ _ _
    refine Sky.land Zc.steady hfr hf sky2 fun h3 fl3 up3 => ?_
    have J3 : Inv X pins σ' H' { s' with heap := h3 } := J.landed nb fl3.1 (up.trans up3) os ag
    obtain ⟨o3, vs3, e3, z3, d3⟩ := fl3.there
    have nfr := off_frames fl3.2.2.1 e3 d3
    have nfr2 : a ∉ frs X.stack := by
      rw [hs]
      exact nfr
    have nL : a ≠ X.env.locals := fun z => nfr (List.mem_filterMap.mpr ⟨X.env, List.mem_cons_self, by rw [hf, z]⟩)
    have nF : a ∉ X.fs := fun hm => by
      obtain ⟨e, he, q⟩ := List.mem_filterMap.mp hm
      exact nfr (List.mem_filterMap.mpr ⟨e, List.mem_cons_of_mem _ he, q⟩)
    have nI : ∀ b o, sI.heap.get? b = some o → b ≠ a := fun b o e z => by
      subst z
      have := nb _ _ e nfr2
      rw [fl3.2.1] at this
      cases this
    have n0 : X.s_0.heap.get? a = none := by
      cases e : X.s_0.heap.get? a with
      | none => rfl
      | some o =>
        obtain ⟨o', e'⟩ := J.base.there a o e (by rw [hx0]; exact fun z => nomatch z)
        exact absurd rfl (nI a o' e')
    have nC : ∀ y b, X.env.cells.lookup y = some b → b ≠ a := fun y b e => by
      obtain ⟨v, o, e', _⟩ := J.cell y b e
      exact nI b o e'
    have nP : ∀ p ∈ X.pn ++ pins, p.1 ≠ a := fun p hp => nI _ _ (J.pin p hp).1
    refine wpAny_handleBy_cons (codeAny_handlers_test ?_) (by intro q; cases q)
    have S3 := J3.suite e3 d3 na nL nF
    have LT : PySem.W.Looks (model X.prog X.w) h3 (typeOf (.ref a)) cls := fun A Q E s k q => wpAny_typeOf_ref (k _ _ e3) (by rw [z3.1]; exact q)
    have LM := PySem.W.exm_one (M := model X.prog X.w) (J3.kIn) LT hexm
    have test : ∀ {Q : Value → Shared → Prop} {E : Value → Shared → Prop}, Q c { s' with heap := h3 } → wpAny (model X.prog X.w) (X.A.mark (some (.ref a))) (eval (.Name x np) X.env) Q E { s' with heap := h3 } := fun {Q E} q => by
      obtain ⟨hg, hdb, hm | ⟨hm, hv, hnn⟩⟩ := hc
      · exact ld_glob (X := X.suite a ((a, o3) :: (X.pn ++ pins))) S3 hg hm q hdb
      · exact ld_blt (X := X.suite a ((a, o3) :: (X.pn ++ pins))) S3 hg hm hv q hnn hdb
    refine test (LM.here ?_)
    refine codeAny_handlers_suite_as ?_
    refine HandSPX.lands_againZ fl3 fun h4 fl4 up4 => ?_
    obtain ⟨o4, vs4, e4, z4, d4⟩ := fl4.there
    have J4 : Inv X pins σ' H' { s' with heap := h4 } := J.landed nb fl4.1 ((up.trans up3).trans up4) os ag
    refine store_ok (X := X.suite a ((a, o4) :: (X.pn ++ pins))) (v := .ref a) (J4.suite e4 d4 na nL nF) hN hi hloc rfl (fun s5 S5 => ?_) (.inr hln)
    obtain ⟨e6, _⟩ := S5.pin (a, o4) (List.mem_append_left _ List.mem_cons_self)
    have J5 := inv_track (S5.unsuite ok) na n0 nL nC nP (cxO_ok e6 z4 d4)
    refine wpAny_mono ((hsu a (X.pn ++ pins)).run [] s5 _ _ _ (Inv.inSuite J5 a) (hnx a na J4.len)) (fun f s6 hsp => ?_) (fun _ _ z => False.elim z)
    have end_ : ∀ {σ6 : St} {H6 : Hp} {Q : Shared → Prop}, Inv (X.suite a (X.pn ++ pins)) [] σ6 H6 s6 → (∀ s7, Inv X pins (σ6.set i none) H6 s7 → Q s7) →
        wpAny (model X.prog X.w) X.A (do bindName X.env n .none; unbindBehindTheSuite X.env n pos') (fun _ s7 => Q s7) X.xe s6 := fun {σ6 H6 Q} S6 hq => gone_ok (Inv.offSuite S6 ok) hN hi hln hq
    cases f with
    | next =>
      obtain ⟨σ6, H6, S6, q6⟩ := hsp
      exact end_ S6 fun s7 J7 => ⟨_, _, J7, q6⟩
    | brk =>
      obtain ⟨σ6, H6, S6, q6⟩ := hsp
      exact end_ S6 fun s7 J7 => ⟨_, _, J7, q6⟩
    | cont =>
      obtain ⟨σ6, H6, S6, q6⟩ := hsp
      exact end_ S6 fun s7 J7 => ⟨_, _, J7, q6⟩
    | ret u =>
      obtain ⟨v6, σ6, H6, S6, r6, q6⟩ := hsp
      exact end_ S6 fun s7 J7 => ⟨_, _, _, J7, r6, q6⟩
  refine wpAny_mono body_ (fun f s1 hsp => ?_) fun e s1 he => he
  cases f with
  | next =>
    obtain ⟨σ', H', J', q⟩ := hsp
    exact wpAny_execs_nil ⟨σ', H', J'.ofTry ok, q⟩
  | ret u =>
    obtain ⟨v, σ', H', J', r, q⟩ := hsp
    exact ⟨v, σ', H', J'.ofTry ok, r, q⟩
  | _ =>
    obtain ⟨σ', H', J', q⟩ := hsp
    exact ⟨σ', H', J'.ofTry ok, q⟩
end
/-! ### a def called while an exception is handled -/
abbrev RoomH := L2H.RoomH
structure FnC (P : Program) (w : World) (K : PySem.W.Frag) (mg : Str → Option Value) (base : Heap) (CX : CXT) (k : Nat) (f : Addr) (fd : FuncData) (ps : List Str) (sp : Sp) : Prop where
  len : ∀ vs H Q E, sp vs H Q E → vs.length = ps.length
  run : ∀ (A : Around) (outer : List PySem.Env) (s : Shared) (H : Hp) (args : Args) (us : List Value) (vs : List V) (Q : VK) (E : XK), RoomH k A → Env0 P w K mg base A outer s H → BindsTo s fd args (ps.zip us) → Vals vs us → sp vs H Q E →
    codeAny (model P w) A (.call (.ref f) args) (CR CX outer P w H s Q E) s
/-- the context of such a def's body -/
def cxC (CX : CXT) (P : Program) (w : World) (K : PySem.W.Frag) (mg : Str → Option Value) (base : Heap) (N : List Str) (qual : Str) (scope : Scope) (f : Addr) (cd : Value) (A : Around) (outer : List PySem.Env) (s : Shared) (H : Hp) (E : XK) : Cx :=
  { cxOf CX P w K mg base N qual scope f cd A outer s H E with calm := false }
theorem inv_startC {CX : CXT} {P : Program} {w : World} {K : PySem.W.Frag} {mg : Str → Option Value} {base : Heap} {N ps : List Str} {qual : Str} {scope : Scope} {f : Addr} {cd : Value} {A : Around} {outer : List PySem.Env} {s s1 : Shared} {H : Hp} {E : XK} {us : List Value} {vs : List V}
    (S : FnScope N ps scope) (e0 : Env0 P w K mg base A outer s H) (hl : vs.length = ps.length) (r : Vals vs us)
    (x : InCallC s s.heap.objs.size (bindL (envOfC qual scope s.heap.objs.size f cd).kindOf (ps.zip us) fun _ => none) (cellsFrom (s.heap.objs.size + 1) scope.names []) (bindC (envOfC qual scope s.heap.objs.size f cd).kindOf (ps.zip us) fun _ => none) s1) :
    Inv (cxC CX P w K mg base N qual scope f cd A outer s H E) [] (L2.start N vs) H s1 := by
  have inv_startX : ∀ {A : Around}, A.handled = none → Env0 P w K mg base A outer s H → Inv (cxOf CX P w K mg base N qual scope f cd A outer s H E) [] (L2.start N vs) H s1 := fun h1 h2 => inv_start S h1 h2 hl r x
  -- the calm context's, with the handled exception looked away from
  have I := inv_startX (A := { A with handled := none }) rfl ⟨e0.frames, e0.mod, e0.bs, e0.bsz, e0.funs, e0.frf, e0.hok, e0.bare⟩
  exact ⟨⟨I.ok.mod, I.ok.kind, I.ok.glob, I.ok.blt, I.ok.above, I.ok.inj, I.ok.has, I.ok.cab, fun z => Bool.noConfusion (show false = true from z), Around.frames_deeper e0.frames, I.ok.stk, I.ok.exf, I.ok.bs, I.ok.bsz, I.ok.noex, I.ok.exfs, I.ok.funs, I.ok.frf⟩,
    I.os, I.bare, I.base, I.loc, I.cell, I.free, I.freeC, I.pin, I.hok, I.len⟩
theorem fn_ofC {CX : CXT} {P : Program} {w : World} {K : PySem.W.Frag} {mg : Str → Option Value} {base : Heap} {k : Nat} {x qual : Str} {st : Stmt} {f : Addr} {fd : FuncData} {N ps : List Str} {sp : Sp} (Fn : Fun K x qual st f fd) (S : FnScope N ps (defScope st))
    (len : ∀ vs H Q E, sp vs H Q E → vs.length = ps.length)
    (hbody : ∀ (cdv : Value) (A : Around) (outer : List PySem.Env) (s : Shared) (H : Hp) (vs : List V) (Q : VK) (E : XK), RoomH k (A.deeper (envOfC qual (defScope st) s.heap.objs.size f cdv)) → sp vs H Q E →
      ∃ t, PSs (cxC CX P w K mg base N qual (defScope st) f cdv A outer s H E) (defBody st) t ∧ t { nx := fun _ H' => Q .non H', rt := Q } (L2.start N vs) H) :
    FnC P w K mg base CX (k + 1) f fd ps sp := by
  obtain ⟨oc, od, kV, doc, pm, an, cdv, ct, osl, rfl, lk, hcd⟩ := Fn.ex
  refine ⟨len, fun A outer s H args us vs Q E hr e0 hb r hsp => ?_⟩
  have hl := len _ _ _ _ hsp
  have KX : K.In s.heap := e0.mod.kin.keeps fun b o e => (e0.bs b o e).1
  have lim : s.heap.NoLimit := e0.mod.nolimit.keeps fun b o e => (e0.bs b o e).1
  have hkind : ∀ y ∈ ps.zip us, (defScope st).names.lookup y.1 = some .local ∨ ((defScope st).names.lookup y.1 = some .cell ∧ ((cellsFrom (s.heap.objs.size + 1) (defScope st).names []).lookup y.1).isSome = true) := fun ⟨n, v⟩ hy => by
    rcases S.par n (List.of_mem_zip hy).1 with q | q
    · exact .inl q
    · exact .inr ⟨q, PySem.W.cellsFrom_some _ _ _ (.inl q)⟩
  refine codeAny_call_function hr.depth (KX _ _ lk) rfl S.co S.gen rfl (PySem.W.codeRec_of KX hcd) (hb _ _ _ _ ?_)
  refine wpAny_newFunctionEnv_cells S.kind hkind fun env he s1 x => ?_
  subst he
  refine ⟨lim.keeps x.toInCall.keep, codeAny_func ?_⟩
  obtain ⟨t, ht, hq⟩ := hbody cdv A outer s H vs Q E (hr.deeper _) hsp
  have I := inv_startC (CX := CX) (E := E) S e0 hl r x
  refine wpAny_mono (ht.run [] s1 (L2.start N vs) H _ I hq) (fun fl s' hs => ?_) fun e s' hs => hs
  have fin : ∀ {σ' : St} {H' : Hp} {v : V} {u : Value}, Inv (cxC CX P w K mg base N qual (defScope st) f cdv A outer s H E) [] σ' H' s' → RelV v u → Q v H' → CE outer P w H s Q u s' :=
    fun {σ' H' v u} J rv q => ⟨v, H', J.os, J.bare, J.base, J.hok, rv, q⟩
  cases fl with
  | ret u =>
    obtain ⟨v, σ', H', J, rv, q⟩ := hs
    exact fin J rv q
  | next =>
    obtain ⟨σ', H', J, q⟩ := hs
    exact fin (v := V.non) (u := Value.none) J rfl q
  | brk => exact (hs.choose_spec.choose_spec.2).elim
  | cont => exact (hs.choose_spec.choose_spec.2).elim
section
variable {K : PySem.W.Frag} {mg : Str → Option Value}
/-- the run of a body over data, from the promise -/
theorem spD_run [M : Mem] {N : List Str} {fb : SF} {ws ws' : List Sh} {t : TS} {vs : List V} {ds : List D} {F0 H : Hp} {Q : VK} {E : XK} (hws : fzAll ws = true) (h2 : DRs K (erX mg E) .fz [] ws ws' t fb)
    (s0 : Wf F0 H) (dv : DQAll K F0 vs ds) (p : Post F0 H (erX mg E) (runD N.length fb ds) fun F' H' d => ∀ v, Dp K F' v d → Q v H') : t { nx := fun _ H' => Q .non H', rt := Q } (L2.start N vs) H := by
  refine h2 ⟨F0, H⟩ F0 H _ (ds.map some ++ List.replicate (N.length - ds.length) none) _ ⟨fun _ => emp, s0, fun _ _ _ h => h, same_refl _, fun a h _ => h, fun i a o z => by (cases z), fun i a z => absurd rfl z, fun i d e => ?_, ?_, fun i a z => absurd rfl z⟩ ?_
  · obtain ⟨v, q1, q2⟩ := start_env dv N i d e
    exact ⟨v, q1, by rw [fzAll_ok hws i]; exact q2⟩
  · have := dqAll_len dv
    simp [L2.start, this]
  · have gr : ∀ {w'' σ' F' H' ρ'}, SR K ⟨F0, H⟩ w'' F' H' σ' ρ' → Grow F0 H F' H' := fun {w'' σ' F' H' ρ'} st => by
      obtain ⟨os, q⟩ := st
      exact ⟨q.f0, q.gh, q.fh, q.nw⟩
    unfold runD at p
    cases e : fb (ds.map some ++ List.replicate (N.length - ds.length) none) with
    | nx ρ' =>
      rw [e] at p
      exact fun σ' F' H' s' st' => p F' H' (gr st') _ .non
    | rt d ρ' =>
      rw [e] at p
      exact fun σ' F' H' v w'' _ st' dv' => p F' H' (gr st') v dv'
    | err c ρ' =>
      rw [e] at p
      exact fun σ' F' H' w'' _ st' => p F' H' (gr st')
    | bk ρ' => rw [e] at p; exact p.elim
    | bad => rw [e] at p; exact p.elim
end
/-- a def of data, called while an exception is handled -/
theorem fn_okC {P : Program} {w' : World} {K : PySem.W.Frag} {mg : Str → Option Value} {base : Heap} {x qual : Str} {st : Stmt} {f : Addr} {fd : FuncData} {N ps : List Str} {k : Nat} {n : Nat} {fb : SF} {ws : List Sh} (Fn : Fun K x qual st f fd) (S : FnScope N ps (defScope st)) (hn : ps.length = n) (hws : fzAll ws = true)
    (body : ∀ [Mem] (cdv : Value) (A : Around) (outer : List PySem.Env) (s : Shared) (H : Hp) (E : XK), RoomH k (A.deeper (envOfC qual (defScope st) s.heap.objs.size f cdv)) →
      ∃ t ws', DS (cxC (L2.CX P w') P w' K mg base N qual (defScope st) f cdv A outer s H E) (erX mg E) .fz [] ws (defBody st) ws' t fb) : FnC P w' K mg base (L2.CX P w') (k + 1) f fd ps (spD K mg n (runD N.length fb)) := by
  refine fn_ofC Fn S (fun vs H Q E h => by rw [hn]; exact h.1) (fun cdv A outer s H vs Q E hr h => ?_)
  obtain ⟨hl, M, F0, ds, s0, dv, p⟩ := h
  obtain ⟨t, ws', h1, h2⟩ := body cdv A outer s H E hr
  exact ⟨t, h1, spD_run (N := N) hws h2 s0 dv p⟩
def tCallC (sp : Sp) (E : XK) (t : TA) : TE := fun σ H Q => t σ H fun vs H1 => sp vs H1 Q E
section
variable {X : Cx} {CX : CXT} {k : Nat} {f : Addr} {fd : FuncData} {ps : List Str} {sp : Sp} {E : XK} {x : Str} {q pos : Pos} {e : Expr} {es : List Expr} {t : TA}
theorem pe_callC (F : FnC X.prog X.w X.K X.mg X.base CX k f fd ps sp) (hr : RoomH k X.A) (hg : Gl X x) (hm : X.mg x = some (.ref f)) (hk : PySem.W.keepIn X.K (.ref f) = true) (hb : Binds X.K fd ps []) (hx : Passes CX X E)
    (ha : PA X (e :: es) t) (hdb : (x == ("__debug__" : Str)) = false := by decide) (he : starEach (e :: es) X.env = (false, eval e X.env) :: starEach es X.env := by rfl) (hpl : (backTo pos (starEach es X.env)).any (·.1) = false := by rfl) :
    PE X (.Call (.Name x q) (e :: es) [] pos) (tCallC sp E t) := by
  refine ⟨fun pins s σ H Q I h => ?_⟩
  refine wpAny_Call_Name_kw (ld_glob I hg hm ?_ hdb)
  refine PySem.W.callWith_K (h₀ := X.base) I.ok.mod.kin hk (thn (ha.run pos pins s σ H _ I h) fun us s1 ⟨vs, H1, I1, r, q⟩ => ⟨I1.kIn, ?_⟩) he hpl
  have hl : us.length = ps.length := by rw [← r.length]; exact F.len _ _ _ _ q
  have b := hb s1 us I1.kIn (by rw [List.append_nil]; exact hl)
  rw [List.append_nil] at b
  refine wpAny_call (codeAny_mono (F.run X.A X.stack s1 H1 ⟨us, []⟩ us vs Q E hr I1.env0 b r q) fun r s' hq => ?_)
  cases r with
  | error e => exact hx pins σ H1 s1 e s' I1 hq
  | ok fl =>
    cases fl with
    | ret u => exact I1.after hq
    | next => exact False.elim hq
    | brk => exact False.elim hq
    | cont => exact False.elim hq
end
end DL

set_option maxHeartbeats 2000000
/-! LA2: told(lambda: e): the lambda made, the def that calls it in a try. -/
namespace DL
open PySem PySem.Spec L2
open PyProof.Rows hiding St
/-! ### tables of code objects, as cells that may change -/
abbrev TabT := List (Addr × Str)
def TabG (F : Hp) (q : Str) (o : HO) : Prop := ∃ ps : Array Value, o = .tbl ps ∧ TriplesOk ps.toList ∧ ∀ (pos : Pos) (cv : Value), codeAmong pos ps.toList = some cv → ∃ c, cv = .ref c ∧ F c = some (LamX.CodeO c q)
theorem TabG.mono {F F' : Hp} {q : Str} {o : HO} (h : TabG F q o) (s : Same F F') : TabG F' q o :=
  let ⟨ps, e1, e2, e3⟩ := h
  ⟨ps, e1, e2, fun pos cv k => let ⟨c, k1, k2⟩ := e3 pos cv k; ⟨c, k1, s c _ k2⟩⟩
@[reducible] def tabM (T : TabT) : Mem where
  is a := a ∈ T.map (·.1)
  good F a o := ∀ p ∈ T, p.1 = a → TabG F p.2 o
  mono h s := fun p hp e => (h p hp e).mono s
  drop hW h := fun p hp e => by
    obtain ⟨ps, e1, e2, e3⟩ := h p hp e
    refine ⟨ps, e1, e2, fun pos cv k => ?_⟩
    obtain ⟨c, k1, k2⟩ := e3 pos cv k
    rcases hW c with z | ⟨xs, z⟩
    · exact ⟨c, k1, z.trans k2⟩
    · rw [k2] at z
      unfold LamX.CodeO at z
      cases z
  lk _ _ := False
/-- the lambda's code was in the table, or is put there -/
def LamNew (P : Addr) (q : Str) (H H1 : Hp) : Prop := H1 = H ∨ ∃ (c : Addr) (ps more : Array Value), H c = none ∧ H P = some (.tbl ps) ∧ H1 = upd (upd H P (.tbl (ps ++ more))) c (LamX.CodeO c q) ∧
  TriplesOk (ps ++ more).toList ∧ ∀ (pos : Pos) (cv : Value), codeAmong pos (ps ++ more).toList = some cv → codeAmong pos ps.toList = some cv ∨ cv = .ref c
theorem lam_grow {T : TabT} {P : Addr} {q : Str} {F H H1 : Hp} (w : @Wf (tabM T) F H) (n : LamNew P q H H1) (hq : (P, q) ∈ T) (hu : ∀ p ∈ T, p.1 = P → p.2 = q) : ∃ F1, @Grow (tabM T) F H F1 H1 := by
  rcases n with rfl | ⟨c, ps, more, nc, hP, rfl, t, am⟩
  · exact ⟨F, @Grow.refl (tabM T) _ _ w⟩
  · have cP : P ≠ c := ne_of_none hP nc
    have isP : (tabM T).is P := List.mem_map.mpr ⟨_, hq, rfl⟩
    obtain ⟨fP, o, eo, go⟩ := @Wf.m (tabM T) F H w P isP
    rw [hP] at eo
    cases eo
    have nF : F c = none := none_of_same (@Wf.s (tabM T) F H w) nc
    have sF : Same F (upd F c (LamX.CodeO c q)) := same_upd nF
    refine ⟨upd F c (LamX.CodeO c q), @Grow.mk (tabM T) _ _ _ _ sF (fun a u nm e => ?_) (@Wf.mk (tabM T) _ _ (fun a u e => ?_) (fun a z => ?_)) (fun a h1 h2 => ?_)⟩
    · have aP : a ≠ P := fun y => nm (by rw [y]; exact isP)
      rw [upd_ne (ne_of_none e nc), upd_ne aP]
      exact e
    · by_cases hc : a = c
      · subst hc
        rw [upd_same] at e ⊢
        exact e
      · rw [upd_ne hc] at e
        have aP : a ≠ P := fun y => by rw [y, fP] at e; cases e
        rw [upd_ne hc, upd_ne aP]
        exact @Wf.s (tabM T) F H w a u e
    · obtain ⟨f1, u, e1, g1⟩ := @Wf.m (tabM T) F H w a z
      have hc : a ≠ c := ne_of_none e1 nc
      refine ⟨by rw [upd_ne hc]; exact f1, ?_⟩
      by_cases aP : a = P
      · subst aP
        refine ⟨.tbl (ps ++ more), by rw [upd_ne hc, upd_same], fun p hp ep => ?_⟩
        refine ⟨ps ++ more, rfl, t, fun pos cv k => ?_⟩
        rw [hu p hp ep]
        rcases am pos cv k with k | k
        · obtain ⟨ps2, z1, z2, z3⟩ := go _ hq rfl
          cases z1
          obtain ⟨c2, y1, y2⟩ := z3 pos cv k
          exact ⟨c2, y1, sF _ _ y2⟩
        · exact ⟨c, k, upd_same⟩
      · exact ⟨u, by rw [upd_ne hc, upd_ne aP]; exact e1, (tabM T).mono g1 sF⟩
    · by_cases hc : a = c
      · subst hc
        exact absurd nc h2
      · rw [upd_ne hc] at h1
        exact h1
/-! ### the lambda is made -/
section
variable {X : Cx} {pins : List (Addr × Obj)} {σ : L2.St} {H : Hp} {s : Shared}
theorem lam_mk {c P : Addr} {q : Str} {ps : Array Value} {params : Arguments} {body : Expr} {scope : Scope} {pos : Pos} {E : Value → Shared → Prop} {Q : Value → Shared → Prop} (hq : X.env.qual ++ "<lambda>" = q)
    (I : Inv X pins σ H s) (TB : LamX.TabB X.base X.mg c P) (hcode : X.env.code = .ref c) (hP : H P = some (.tbl ps)) (ht : TriplesOk ps.toList)
    (ha : ∀ (pos : Pos) (cv : Value), codeAmong pos ps.toList = some cv → ∃ c', cv = .ref c' ∧ H c' = some (LamX.CodeO c' q))
    (hdef : defaultsOf params X.env = ([], [])) (hfree : ∀ y ∈ scope.names, y.2 = .free → ∃ c, X.env.cells.lookup y.1 = some c)
    (h : ∀ (f c' : Addr) (pm ctv : Value) (H1 : Hp) (s' : Shared), Inv X pins σ H1 s' → LamNew P q H H1 →
      s'.heap.get? f = some (PySem.W.kla_obj "<lambda>" q params body scope (cloFrom X.env.cells scope.names []) pm c' ctv) → H1 f = none → f ∉ frs X.stack → H1 c' = some (LamX.CodeO c' q) → Q (.ref f) s') :
    wpAny (model X.prog X.w) X.A (eval (.Lambda params body scope pos) X.env) Q E s := by
  subst hq
  refine PySem.W.kla_eval hdef ?_
  have bP : s.heap.BuiltinsAt X.mg P := TB.bm.keeps I.bk
  have hP' : s.heap.get? P = some { cls := .none, data := .fields ps } := I.hok P _ hP
  have nofr : ∀ f, s.heap.objs.size ≤ f → f ∉ frs X.stack := fun f hf z => by
    rcases List.mem_cons.mp (I.stkSub _ z) with e | e
    · have h1 := I.lt
      rw [← e] at h1
      exact Nat.lt_irrefl _ (Nat.lt_of_lt_of_le h1 hf)
    · exact I.nofs hf e
  cases hc : codeAmong pos ps.toList with
  | none =>
    refine PySem.W.kla_makeFunction (mg := X.mg) (c := c) (P := P) (ps := ps) (closure_ok hfree) I.ok.glob
      (I.mod.glob.keeps I.bk) hcode (TB.code.keeps I.bk) hP' ht hc TB.gP bP fun c' ctv h' tk hx hge hlt hrec htb => ?_
    obtain ⟨c2, oc, vs, t, e2, hoc, hd, hv⟩ := hrec
    cases e2
    have hsz : s.heap.objs.size ≤ h'.objs.size := Nat.le_trans hge (Nat.le_of_lt hlt)
    have nC : H c' = none := I.hok.fresh hge
    have I1 := LamX.inv_table (t' := tk) (more := #[rawInt pos.line, rawInt pos.col, .ref c'])
      (h' := h'.push (PySem.W.kla_obj "<lambda>" (X.env.qual ++ "<lambda>") params body scope (cloFrom X.env.cells scope.names []) ((X.mg "__name__").getD .none) c' ctv)) I hP
      (fun b o hb e => Heap.get?_push_of_some _ (hx b o hb e)) (Heap.get?_push_of_some _ htb) hge
      ⟨oc, vs, t, Heap.get?_push_of_some _ hoc, hd, hv⟩
    have eL : (ps ++ #[rawInt pos.line, rawInt pos.col, .ref c']).toList = ps.toList ++ [rawInt pos.line, rawInt pos.col, .ref c'] := by simp
    refine h h'.objs.size c' ((X.mg "__name__").getD .none) ctv _ _ I1 (.inr ⟨c', ps, _, nC, hP, rfl, ?_, fun p' cv hcv => ?_⟩) (Heap.get?_push_size _ rfl) ?_ (nofr _ hsz) upd_same
    · rw [eL]
      exact PySem.TriplesOk_snoc _ _ _ _ ht
    · rw [eL] at hcv
      exact LamX.among_app _ ht hcv
    · have n1 : h'.objs.size ≠ c' := Nat.ne_of_gt hlt
      have n2 : h'.objs.size ≠ P := Nat.ne_of_gt (Nat.lt_of_lt_of_le (Heap.lt_size hP') hsz)
      rw [upd_ne n1, upd_ne n2]
      exact I.hok.fresh hsz
  | some cv =>
    obtain ⟨c', e, hco⟩ := ha pos cv hc
    subst e
    refine PySem.W.kla_makeFunctionHit (mg := X.mg) (c := c) (P := P) (ps := ps) (closure_ok hfree) I.ok.glob
      (I.mod.glob.keeps I.bk) hcode (TB.code.keeps I.bk) hP' ht hc bP fun ctv h' tk hx hsz => ?_
    have I1 : Inv X pins σ H { s with heap := h'.push (PySem.W.kla_obj "<lambda>" (X.env.qual ++ "<lambda>") params body scope (cloFrom X.env.cells scope.names []) ((X.mg "__name__").getD .none) c' ctv), toks := tk } :=
      I.kept fun b o e => Heap.get?_push_of_some _ (hx b o e)
    exact h h'.objs.size c' ((X.mg "__name__").getD .none) ctv H _ I1 (.inl rfl) (Heap.get?_push_size _ rfl) (I.hok.fresh hsz) (nofr _ hsz) hco
end
/-! ### told(lambda: body) -/
abbrev noX : XK := fun _ _ _ => False
/-- what is let out of the lambda's body: k, the def that names a refusal -/
def EchT (K : PySem.W.Frag) (cB : Value) (sp : Sp) (Q : VK) : XK := fun cls d H' => d = none ∧ PySem.W.exmOne K cls cB = some true ∧ ∀ a, H' a = none → sp [.ref a] (upd H' a (CxO cls a)) Q noX
def tTold (K : PySem.W.Frag) (P : Addr) (q : Str) (cB : Value) (sp : Sp) (B : XK → TE) : TE := fun σ H Q =>
  (∃ ps : Array Value, H P = some (.tbl ps) ∧ TriplesOk ps.toList ∧ ∀ (pos : Pos) (cv : Value), codeAmong pos ps.toList = some cv → ∃ c', cv = .ref c' ∧ H c' = some (LamX.CodeO c' q)) ∧ ∀ H1, LamNew P q H H1 → B (EchT K cB sp Q) σ H1 Q
theorem noCX {P : Program} {w : World} {outer : List PySem.Env} {H : Hp} {s s' : Shared} {e : Value} (h : L2.CX P w outer H s noX e s') : False := by
  obtain ⟨_, _, _, _, _, _, _, _, _, _, _, _, z⟩ := h
  exact z
section
variable {X : Cx}
theorem pe_told {B : XK → TE} {x a n kn cb q : Str} {g f2 c P CB : Addr} {k : Nat} {fdg fd2 : FuncData} {stg : Stmt} {Ng : List Str} {i : Nat} {sp : Sp} {pk : Str} {params : Arguments} {body : Expr} {scope : Scope} {p lpos pos p1 p2 p3 p4 p5 p6 p7 p8 p9 p10 : Pos}
    (hg : Gl X x) (hm : X.mg x = some (.ref g)) (Fn : Fun X.K x x stg g fdg) (hb : Binds X.K fdg [a] []) (Sg : FnScope Ng [a] (defScope stg))
    (hbd : defBody stg = [.Try [.Return (some (.Call (.Name a p1) [] [] p2)) p3] [.ExceptHandler (some (.Name cb p4)) (some n) [.Return (some (.Call (.Name kn p5) [.Name n p6] [] p7)) p8] p9] [] [] p10])
    (hN0 : Ng[0]? = some a) (hva : Vis (defScope stg) a) (hNi : Ng[i]? = some n) (hln : (defScope stg).names.lookup n = some .local) (hi0 : i ≠ 0)
    (hgc : (defScope stg).names.lookup cb = some .globalImplicit) (hmc : X.mg cb = some (.ref CB)) (hdc : (cb == ("__debug__" : Str)) = false)
    (hgk : (defScope stg).names.lookup kn = some .globalImplicit) (hmk : X.mg kn = some (.ref f2)) (hkk : PySem.W.keepIn X.K (.ref f2) = true) (hdk : (kn == ("__debug__" : Str)) = false) (F2 : FnC X.prog X.w X.K X.mg X.base (L2.CX X.prog X.w) k f2 fd2 [pk] sp) (hb2 : Binds X.K fd2 [pk] [])
    (TB : LamX.TabB X.base X.mg c P) (hcode : X.env.code = .ref c) (hq : X.env.qual ++ "<lambda>" = q) (hr : Room (k + 2) X.A) (L : LamX.LamS X.env.scope scope) (hdef : defaultsOf params X.env = ([], []))
    (hbind : ∀ (q : Str) (cl : List (Str × Addr)) (pm cv ctv : Value), bindArgs (PySem.W.kla_fn "<lambda>" q params body scope cl pm cv ctv) ⟨[], []⟩ = pure [])
    (hbody : ∀ (A : Around) (outer : List PySem.Env) (s : Shared) (H : Hp) (E : XK) (f c' : Addr), Room k (A.deeper (LamX.lamEnv X scope s.heap.objs.size f c')) → PE (LamX.lamCx X A outer s H E scope f c') body (B E))
    (hdb : (x == ("__debug__" : Str)) = false) (hd : (a == ("__debug__" : Str)) = false) (hcd : (a == ("__classdict__" : Str)) = false) (hdn : (n == ("__debug__" : Str)) = false) (hcn : (n == ("__classdict__" : Str)) = false) :
    PE X (.Call (.Name x p) [.Lambda params body scope lpos] [] pos) (tTold X.K P q (.ref CB) sp B) := by
  subst hq
  obtain ⟨oc, od, kV, doc, pm, an, cdv, ct, osl, rfl, lk, hcg⟩ := Fn.ex
  refine ⟨fun pins s σ H Q I h => ?_⟩
  obtain ⟨⟨ps, hP, ht, ha⟩, h⟩ := h
  refine wpAny_Call_Name_kw (ld_glob I hg hm ?_ hdb)
  refine PySem.W.callWith_K (h₀ := X.base) I.ok.mod.kin Fn.kp ?_ (by rfl) (by rfl)
  show wpAny _ _ (spliced ((false, eval (.Lambda params body scope lpos) X.env) :: backTo pos (starEach [] X.env))) _ _ s
  refine Calls.spliced_cons (lam_mk (q := X.env.qual ++ "<lambda>") rfl I TB hcode hP ht ha hdef (L.has I.ok) fun f c' pm' ctv H1 s' I1 hn hf hfn hfr hco => ?_)
  refine Calls.spliced_nil ⟨I1.kIn, ?_⟩
  have hB := h H1 hn
  have rc : codeAny (model X.prog X.w) X.A (.call (.ref g) ⟨[.ref f], []⟩) (CR C8.CX0 X.stack X.prog X.w H1 s' Q C8.E0) s' := by
    refine LamX.run_ofS (N := Ng) (ps := [a]) (us := [.ref f]) (vs := [.ref f]) lk hcg Sg hr I1.env0 (hb s' [.ref f] I1.kIn rfl) (.cons rfl .nil) rfl fun hr' => ?_
    have act := fun (W : WX) (pn : List (Addr × Obj)) (xe : Value → Shared → Prop) (E : XK) (tk : Takes ((cxOf C8.CX0 X.prog X.w X.K X.mg X.base Ng x (defScope stg) g cdv X.A X.stack s' H1 C8.E0).tr pn xe) W) (hW : ∀ cls d σ' H', E cls d H' → W cls d σ' H') =>
      LamX.pe_act (tb := B E) (p1 := p1) (p2 := p2) (i := 0) I1 L hf hfn hfr (hbind _ _ _ _ _) tk hW hr' (fun A outer s H hr2 => hbody A outer s H E f c' hr2) hN0 hva hd hcd
    have hgl : Gl (cxOf C8.CX0 X.prog X.w X.K X.mg X.base Ng x (defScope stg) g cdv X.A X.stack s' H1 C8.E0).nox cb := hgc
    have hNl : Ng.Nodup := Sg.nd
    have hs := ps_try_in (X := (cxOf C8.CX0 X.prog X.w X.K X.mg X.base Ng x (defScope stg) g cdv X.A X.stack s' H1 C8.E0).nox) (np := p4) (pos := p10) (pos' := p9) (c := .ref CB) (i := i) (n := n) (x := cb) (body := [.Return (some (.Call (.Name a p1) [] [] p2)) p3]) (b₀ := .Return (some (.Call (.Name kn p5) [.Name n p6] [] p7)) p8) (suite := [])
      (tb := fun W D σZ HZ => ∃ Ech : XK, (∀ cls d σ' H', Ech cls d H' → W cls d σ' H') ∧ σZ[0]? = some (some (.ref f)) ∧ HZ c' = some (LamX.CodeO c' (X.env.qual ++ "<lambda>")) ∧ B Ech σ HZ D.rt)
      (ts := tRet (tCallC sp noX (tCons (tVar i) tNil))) rfl rfl rfl hNl hNi hln ⟨hgl, hdc, .inl hmc⟩ (fun W pn xe tk _ => ?_) (fun a' pn => ?_)
    · rw [hbd]
      refine ⟨_, (pss_one hs).nox, ?_⟩
      refine ⟨EchT X.K (.ref CB) sp Q, fun cls d σ' H' ⟨e1, e2, e3⟩ => ⟨e1, e2, fun a' ha' hl => ?_⟩, ?_, hco, hB⟩
      · have hl : σ'.length = Ng.length := hl
        have hil : i < σ'.length := by rw [hl]; exact (List.getElem?_eq_some_iff.mp hNi).1
        exact ⟨_, List.getElem?_set_self hil, e3 a' ha'⟩
      · unfold L2.start
        rfl
    · refine ⟨fun pins2 s2 σ2 H2 D2 I2 h2 => ?_⟩
      obtain ⟨Ech, hW, h3, h4, h5⟩ := h2
      have hp := pss_one (ps_ret (pos := p3) (act W pn xe Ech tk hW))
      exact hp.run pins2 s2 σ2 H2 D2 I2 ⟨h3, h4, h5⟩
    · exact pss_one (ps_ret (pe_callC F2 ⟨(hr'.mono (Nat.le_succ k)).dp, (hr'.mono (Nat.le_succ k)).un⟩ hgk hmk hkk hb2 (fun _ _ _ _ _ _ _ z => (noCX z).elim) (pa_cons (pe_var hNi (.inl hln) hdn hcn) pa_nil) hdk))
  refine wpAny_call (codeAny_mono rc fun r s2 hq => ?_)
  cases r with
  | error e => exact (show False from hq).elim
  | ok fl =>
    cases fl with
    | ret u => exact I1.after hq
    | next => exact False.elim hq
    | brk => exact False.elim hq
    | cont => exact False.elim hq
end
end DL

set_option maxHeartbeats 2000000
/-! LA3: told(lambda: e) over data, over objects. -/
namespace DL
open PySem PySem.Spec L2
open PyProof.Rows hiding St
def toldR (cs : List Str) (g : List D → R D) (c : Str) : R D := if c ∈ cs then (match g [excD c] with
  | .ok d => .ok d
  | _ => .bad) else .bad
def toldE (cs : List Str) (f : EF) (g : List D → R D) : EF := fun ρ => match f ρ with
  | .ok d => .ok d
  | .err c => toldR cs g c
  | .bad => .bad
def toldM (cs : List Str) (f : EM) (g : List D → R D) : EM := fun ρ => match f ρ with
  | .ok d ρ1 => .ok d ρ1
  | .err c ρ1 => (match toldR cs g c with
    | .ok d => .ok d ρ1
    | _ => .bad)
  | .bad => .bad
theorem toldR_ok {cs : List Str} {g : List D → R D} {c : Str} {d : D} (h : toldR cs g c = .ok d) : c ∈ cs ∧ g [excD c] = .ok d := by
  unfold toldR at h
  by_cases hc : c ∈ cs
  · rw [if_pos hc] at h
    cases e : g [excD c] with
    | ok d' => rw [e] at h; cases h; exact ⟨hc, rfl⟩
    | err c => rw [e] at h; cases h
    | bad => rw [e] at h; cases h
  · rw [if_neg hc] at h; cases h
theorem toldR_err {cs : List Str} {g : List D → R D} {c c' : Str} : toldR cs g c ≠ .err c' := by
  unfold toldR
  by_cases hc : c ∈ cs
  · rw [if_pos hc]
    cases g [excD c] <;> exact fun z => nomatch z
  · rw [if_neg hc]; exact fun z => nomatch z
section
variable [M : Mem]
def tSem (K : PySem.W.Frag) (mg : Str → Option Value) (f : EF) (E : XK) : TE := fun σ H Q => ∃ F ρ, Wf F H ∧ EnvR K F σ ρ ∧ Post F H (erX mg E) (f ρ) (fun F' H' d => ∀ v, Dp K F' v d → Q v H')
def tSemM (K : PySem.W.Frag) (mg : Str → Option Value) (w : List Sh) (f : EM) (E : XK) : TE := fun σ H Q => ∃ fr F ρ, SR K fr w F H σ ρ ∧ PostM K fr w (erX mg E) F σ (f ρ) (fun F' H' _ d => ∀ v, Dp K F' v d → Q v H')
theorem pe_imp {X : Cx} {e : Expr} {t u : TE} (h : PE X e t) (k : ∀ σ H Q, u σ H Q → t σ H Q) : PE X e u := ⟨fun pins s σ H Q I q => h.run pins s σ H Q I (k σ H Q q)⟩
theorem pe_sem {X : Cx} {e : Expr} {mg : Str → Option Value} {f : EF} {E : XK} (h : ∃ t, DE X (erX mg E) e t f) : PE X e (tSem X.K mg f E) := by
  obtain ⟨t, h⟩ := h
  exact pe_imp h.pe fun σ H Q ⟨F, ρ, w, en, p⟩ => h.rd F H σ ρ Q w en p
theorem pe_semM {X : Cx} {e : Expr} {mg : Str → Option Value} {w : List Sh} {f : EM} {E : XK} (h : ∃ t, DP X (fun _ => erX mg E) w e t f) : PE X e (tSemM X.K mg w f E) := by
  obtain ⟨t, h⟩ := h
  exact pe_imp h.pe fun σ H Q ⟨fr, F, ρ, st, p⟩ => h.rd fr F H σ ρ Q st p
theorem tab_at {T : TabT} {F H : Hp} {P : Addr} {q : Str} (hM : M = tabM T) (w : Wf F H) (hq : (P, q) ∈ T) : ∃ ps : Array Value, H P = some (.tbl ps) ∧ TriplesOk ps.toList ∧ ∀ (pos : Pos) (cv : Value), codeAmong pos ps.toList = some cv → ∃ c', cv = .ref c' ∧ H c' = some (LamX.CodeO c' q) := by
  subst hM
  obtain ⟨_, o, eo, go⟩ := @Wf.m (tabM T) F H w P (List.mem_map.mpr ⟨_, hq, rfl⟩)
  obtain ⟨ps, rfl, h2, h3⟩ := go _ hq rfl
  exact ⟨ps, eo, h2, fun pos cv k => let ⟨c, k1, k2⟩ := h3 pos cv k; ⟨c, k1, @Wf.s (tabM T) F H w _ _ k2⟩⟩
theorem lam_growM {T : TabT} {P : Addr} {q : Str} {F H H1 : Hp} (hM : M = tabM T) (w : Wf F H) (n : LamNew P q H H1) (hq : (P, q) ∈ T) (hu : ∀ p ∈ T, p.1 = P → p.2 = q) : ∃ F1, Grow F H F1 H1 := by
  subst hM
  exact lam_grow w n hq hu
/-- the classes that the told def takes, by their names -/
def CauK (K : PySem.W.Frag) (mg : Str → Option Value) (cB : Value) (cs : List Str) : Prop := ∀ c ∈ cs, ∃ C, mg c = some (.ref C) ∧ PySem.W.nsIn K mainGlobals c = some (some (.ref C)) ∧ PySem.W.exmOne K (.ref C) cB = some true
theorem exc_grow {K : PySem.W.Frag} {F H : Hp} {a C : Addr} {c : Str} (w : Wf F H) (ha : H a = none) (hn : PySem.W.nsIn K mainGlobals c = some (some (.ref C))) : Grow F H (upd F a (CxO (.ref C) a)) (upd H a (CxO (.ref C) a)) ∧ DQ K (upd F a (CxO (.ref C) a)) (.ref a) (excD c) :=
  ⟨Grow.new w ha, .inr (.inr (.inl ⟨c, rfl, a, C, rfl, hn, upd_same⟩))⟩
theorem drd_told {T : TabT} {K : PySem.W.Frag} {mg : Str → Option Value} {Er : ErT} {P : Addr} {q : Str} {cB : Value} {cs : List Str} {f : EF} {g : List D → R D} (hM : M = tabM T) (hq : (P, q) ∈ T) (hu : ∀ p ∈ T, p.1 = P → p.2 = q) (hcs : CauK K mg cB cs) : DRd K Er (tTold K P q cB (spD K mg 1 g) (tSem K mg f)) (toldE cs f g) := by
  intro F H σ ρ Q w en p
  refine ⟨tab_at hM w hq, fun H1 hn => ?_⟩
  obtain ⟨F1, gr⟩ := lam_growM hM w hn hq hu
  refine ⟨F1, ρ, gr.fh, en.mono gr.ff, ?_⟩
  unfold toldE at p
  cases e : f ρ with
  | bad => rw [e] at p; exact p
  | ok d => rw [e] at p; exact Post.mono p gr
  | err c =>
    rw [e] at p
    simp only at p
    cases e2 : toldR cs g c with
    | bad => rw [e2] at p; exact p.elim
    | err c' => exact absurd e2 toldR_err
    | ok d =>
      rw [e2] at p
      obtain ⟨hc, hg⟩ := toldR_ok e2
      obtain ⟨C, h1, h2, h3⟩ := hcs c hc
      intro F' H' g' C' hC'
      rw [h1] at hC'
      cases hC'
      refine ⟨rfl, h3, fun a ha => ?_⟩
      obtain ⟨g2, dq⟩ := exc_grow g'.fh ha h2
      refine ⟨rfl, M, _, [excD c], g2.fh, ⟨dq, trivial⟩, ?_⟩
      rw [hg]
      exact fun F3 H3 g3 v dv => p F3 H3 (((gr.trans g').trans g2).trans g3) v dv
theorem drp_told {T : TabT} {K : PySem.W.Frag} {mg : Str → Option Value} {Er : St → ErT} {w : List Sh} {P : Addr} {q : Str} {cB : Value} {cs : List Str} {f : EM} {g : List D → R D} (hM : M = tabM T) (hq : (P, q) ∈ T) (hu : ∀ p ∈ T, p.1 = P → p.2 = q) (hcs : CauK K mg cB cs) : DRP K Er w (tTold K P q cB (spD K mg 1 g) (tSemM K mg w f)) (toldM cs f g) := by
  intro fr F H σ ρ Q st p
  refine ⟨tab_at hM st.fh hq, fun H1 hn => ?_⟩
  obtain ⟨F1, gr⟩ := lam_growM hM st.fh hn hq hu
  refine ⟨fr, F1, ρ, st.grow gr, ?_⟩
  unfold toldM at p
  cases e : f ρ with
  | bad => rw [e] at p; exact p
  | ok d ρ1 => rw [e] at p; exact PostM.mono p gr.ff
  | err c ρ1 =>
    rw [e] at p
    simp only at p
    cases e2 : toldR cs g c with
    | bad => rw [e2] at p; exact p.elim
    | err c' => exact absurd e2 toldR_err
    | ok d =>
      rw [e2] at p
      obtain ⟨hc, hg⟩ := toldR_ok e2
      obtain ⟨C, h1, h2, h3⟩ := hcs c hc
      intro F' H' s' st' C' hC'
      rw [h1] at hC'
      cases hC'
      refine ⟨rfl, h3, fun a ha => ?_⟩
      obtain ⟨g2, dq⟩ := exc_grow st'.fh ha h2
      refine ⟨rfl, M, _, [excD c], g2.fh, ⟨dq, trivial⟩, ?_⟩
      rw [hg]
      exact fun F3 H3 g3 v dv => p F3 H3 (same_trans (same_trans (same_trans gr.ff s') g2.ff) g3.ff) ((st'.grow g2).grow g3) v dv
end
end DL

set_option maxHeartbeats 2000000
/-! LA4: defs that make lambdas: what they promise; their calls; short forms, used by gen.py. -/
namespace DL
open PySem PySem.Spec L2
open PyProof.Rows hiding St
structure FunL (K : PySem.W.Frag) (x qual : Str) (st : Stmt) (f : Addr) (fd : FuncData) (c : Addr) : Prop where
  ex : ∃ (oc : Value) (od : Option Addr) (kV doc pm : Value) (an : Option Addr) (ct : Value) (osl : Array (Option Value)),
    fd = PySem.W.fnOf x qual (defArgs st) (defBody st) (defScope st) .none kV doc pm an (.ref c) ct ∧ K.lookup f = some ⟨oc, od, .func fd, osl⟩ ∧ PySem.W.codeIn K (.ref c) qual = true
  kp : PySem.W.keepIn K (.ref f) = true
theorem FunL.fun {K : PySem.W.Frag} {x qual : Str} {st : Stmt} {f c : Addr} {fd : FuncData} (F : FunL K x qual st f fd c) : Fun K x qual st f fd :=
  let ⟨oc, od, kV, doc, pm, an, ct, osl, h⟩ := F.ex
  ⟨⟨oc, od, kV, doc, pm, an, .ref c, ct, osl, h⟩, F.kp⟩
/-- a def that makes lambdas, as it stands behind the top: its code object, that one's table -/
structure FnL (K : PySem.W.Frag) (mg : Str → Option Value) (x : Str) (st : Stmt) (ps : List Str) where
  f : Addr
  fd : FuncData
  c : Addr
  P : Addr
  F : FunL K x x st f fd c
  m : mg x = some (.ref f)
  b : Binds K fd ps []
theorem funL_mk {K : PySem.W.Frag} {x qual : Str} {st : Stmt} {f c : Addr} {oc : Value} {od an : Option Addr} {osl : Array (Option Value)} {kV doc pm ct : Value} (l : K.lookup f = some ⟨oc, od, .func (PySem.W.fnOf x qual (defArgs st) (defBody st) (defScope st) .none kV doc pm an (.ref c) ct), osl⟩)
    (h : PySem.W.codeIn K (.ref c) qual = true) (k : PySem.W.keepIn K (.ref f) = true) : FunL K x qual st f (PySem.W.fnOf x qual (defArgs st) (defBody st) (defScope st) .none kV doc pm an (.ref c) ct) c := ⟨⟨oc, od, kV, doc, pm, an, ct, osl, rfl, l, h⟩, k⟩
def spT (T : TabT) (K : PySem.W.Frag) (mg : Str → Option Value) (n : Nat) (g : List D → R D) : Sp := fun vs H Q E =>
  vs.length = n ∧ ∃ (M : Mem) (F : Hp) (ds : List D), M = tabM T ∧ Wf F H ∧ DQAll K F vs ds ∧ Post F H (erX mg E) (g ds) (fun F' H' d => ∀ v, Dp K F' v d → Q v H')
def spPT (T : TabT) (P : PC) (K : PySem.W.Frag) (mg : Str → Option Value) (n : Nat) (g : D → List D → RP) : Sp := fun vs H Q E =>
  vs.length = n + 1 ∧ ∃ (M : Mem) (v0 : V) (vs' : List V) (F G : Hp) (d0 : D) (ds : List D), M = tabM T ∧ vs = v0 :: vs' ∧ oneSR K P ⟨F, G⟩ v0 F H d0 ∧ DQAll K F vs' ds ∧ PostR K P ⟨F, G⟩ v0 (g d0 ds) Q (erX mg E)
section
variable {P : Program} {w' : World} {K : PySem.W.Frag} {mg : Str → Option Value} {base : Heap} {T : TabT}
theorem fn_okT {x qual : Str} {st : Stmt} {f c : Addr} {fd : FuncData} {N ps : List Str} {k : Nat} {n : Nat} {fb : SF} {ws : List Sh} (F : FunL K x qual st f fd c) (S : FnScope N ps (defScope st)) (hn : ps.length = n) (hws : fzAll ws = true)
    (body : ∀ [M : Mem] (hM : M = tabM T) (A : Around) (outer : List PySem.Env) (s : Shared) (H : Hp) (E : XK), Room k (A.deeper (envOfC qual (defScope st) s.heap.objs.size f (.ref c))) →
      ∃ t ws', DS (cxOf (L2.CX P w') P w' K mg base N qual (defScope st) f (.ref c) A outer s H E) (erX mg E) .fz [] ws (defBody st) ws' t fb) : FnOk P w' K mg base (L2.CX P w') (k + 1) f fd ps (spT T K mg n (runD N.length fb)) := by
  obtain ⟨oc, od, kV, doc, pm, an, ct, osl, rfl, lk, hcd⟩ := F.ex
  refine fn_of lk hcd S (fun vs H Q E h => by rw [hn]; exact h.1) fun A outer s H vs Q E hr h => ?_
  obtain ⟨hl, M, F0, ds, hM, s0, dv, p⟩ := h
  obtain ⟨t, ws', h1, h2⟩ := body hM A outer s H E hr
  exact ⟨t, h1, spD_run (N := N) hws h2 s0 dv p⟩
/-- .. that makes none, but calls such -/
theorem fn_okT2 {x qual : Str} {st : Stmt} {f : Addr} {fd : FuncData} {N ps : List Str} {k : Nat} {n : Nat} {fb : SF} {ws : List Sh} (F : Fun K x qual st f fd) (S : FnScope N ps (defScope st)) (hn : ps.length = n) (hws : fzAll ws = true)
    (body : ∀ [M : Mem] (hM : M = tabM T) (cdv : Value) (A : Around) (outer : List PySem.Env) (s : Shared) (H : Hp) (E : XK), Room k (A.deeper (envOfC qual (defScope st) s.heap.objs.size f cdv)) →
      ∃ t ws', DS (cxOf (L2.CX P w') P w' K mg base N qual (defScope st) f cdv A outer s H E) (erX mg E) .fz [] ws (defBody st) ws' t fb) : FnOk P w' K mg base (L2.CX P w') (k + 1) f fd ps (spT T K mg n (runD N.length fb)) := by
  obtain ⟨oc, od, kV, doc, pm, an, cdv, ct, osl, rfl, lk, hcd⟩ := F.ex
  refine fn_of lk hcd S (fun vs H Q E h => by rw [hn]; exact h.1) fun A outer s H vs Q E hr h => ?_
  obtain ⟨hl, M, F0, ds, hM, s0, dv, p⟩ := h
  obtain ⟨t, ws', h1, h2⟩ := body hM cdv A outer s H E hr
  exact ⟨t, h1, spD_run (N := N) hws h2 s0 dv p⟩
theorem spP_run [M : Mem] {C : PC} {N : List Str} {fb : SF} {wz ws' : List Sh} {t : TS} {v0 : V} {vs : List V} {d0 : D} {ds : List D} {F G H : Hp} {Q : VK} {E : XK} (hws : fzAll wz = true) (hw0 : sh ws' 0 = .ob (pC C (· = v0))) (g2 : DRs K (erX mg E) (.ob (pC C (· = v0))) [] (.ob (pC C (· = v0)) :: wz) ws' t fb)
    (h1 : oneSR K C ⟨F, G⟩ v0 F H d0) (dv : DQAll K F vs ds) (p : PostR K C ⟨F, G⟩ v0 (runP N.length fb d0 ds) Q (erX mg E)) : t { nx := fun _ H' => Q .non H', rt := Q } (L2.start N (v0 :: vs)) H := by
  refine g2 ⟨F, G⟩ F H _ (some d0 :: (ds.map some ++ List.replicate (N.length - (ds.length + 1)) none)) _ (one_start h1 dv hws) ?_
  unfold runP at p
  cases e : fb (some d0 :: (ds.map some ++ List.replicate (N.length - (ds.length + 1)) none)) with
  | nx ρ' =>
    rw [e] at p
    obtain ⟨d, e1, p⟩ := post_at0 p
    exact fun σ' F' H' s' st' => p F' H' _ (one_end st' hw0 e1) .non
  | rt r ρ' =>
    rw [e] at p
    obtain ⟨d, e1, p⟩ := post_at0 p
    exact fun σ' F' H' v w'' hw st' dv' => p F' H' v (one_end st' hw e1) dv'
  | err c ρ' =>
    rw [e] at p
    obtain ⟨d, e1, p⟩ := post_at0 p
    exact fun σ' F' H' w'' hw st' => p F' H' (one_end st' hw e1)
  | bk ρ' => rw [e] at p; exact p.elim
  | bad => rw [e] at p; exact p.elim
theorem fn_okPT {C : PC} {x qual : Str} {st : Stmt} {f c : Addr} {fd : FuncData} {N ps : List Str} {k : Nat} {n : Nat} {fb : SF} {wz : List Sh} (Fn : FunL K x qual st f fd c) (S : FnScope N ps (defScope st)) (hn : ps.length = n + 1) (hws : fzAll wz = true)
    (body : ∀ [M : Mem] (hM : M = tabM T) (v0 : V) (A : Around) (outer : List PySem.Env) (s : Shared) (H : Hp) (E : XK), Room k (A.deeper (envOfC qual (defScope st) s.heap.objs.size f (.ref c))) →
      ∃ t ws', sh ws' 0 = .ob (pC C (· = v0)) ∧ DS (cxOf (L2.CX P w') P w' K mg base N qual (defScope st) f (.ref c) A outer s H E) (erX mg E) (.ob (pC C (· = v0))) [] (.ob (pC C (· = v0)) :: wz) (defBody st) ws' t fb) :
    FnOk P w' K mg base (L2.CX P w') (k + 1) f fd ps (spPT T C K mg n (runP N.length fb)) := by
  obtain ⟨oc, od, kV, doc, pm, an, ct, osl, rfl, lk, hcd⟩ := Fn.ex
  refine fn_of lk hcd S (fun vs H Q E h => by rw [hn]; exact h.1) fun A outer s H vs Q E hr h => ?_
  obtain ⟨hl, M, v0, vs', F, G, d0, ds, hM, rfl, h1, dv, p⟩ := h
  obtain ⟨t, ws', hw0, g1, g2⟩ := body hM v0 A outer s H E hr
  exact ⟨t, g1, spP_run (N := N) hws hw0 g2 h1 dv p⟩
end
theorem FnC.mono {P : Program} {w : World} {K : PySem.W.Frag} {mg : Str → Option Value} {base : Heap} {CX : CXT} {k k' : Nat} {f : Addr} {fd : FuncData} {ps : List Str} {sp : Sp} (F : FnC P w K mg base CX k f fd ps sp) (h : k ≤ k') : FnC P w K mg base CX k' f fd ps sp :=
  ⟨F.len, fun A outer s H args us vs Q E hr => F.run A outer s H args us vs Q E (hr.mono h)⟩
/-! ### calls of such defs -/
section
variable [M : Mem] {K : PySem.W.Frag} {Er : ErT} {n : Nat} {g : List D → R D} {E : XK} {fa : AF} {T : TabT}
theorem dr_ownT {ta : TA} {mg : Str → Option Value} (hM : M = tabM T) (he : ∀ c H', Er c H' → erX mg E c H') (hn : ∀ ρ ds, fa ρ = .ok ds → ds.length = n) (ha : DRq K Er ta fa) : DRd K Er (tCall (spT T K mg n g) [] E ta) (ownE g fa) := by
  intro F H σ ρ Q s st p
  refine ha F H σ ρ _ s st ?_
  cases hr : fa ρ with
  | ok ds =>
    have q := Post.bind p
    rw [hr] at q
    intro F' H' g' vs dvs
    rw [List.append_nil]
    exact ⟨by rw [dqAll_len dvs]; exact hn ρ ds hr, M, F', ds, hM, g'.fh, dvs, Post.er (q F' H' g') he⟩
  | err c => have q := Post.bind p; rw [hr] at q; exact q
  | bad => have q := Post.bind p; rw [hr] at q; exact q
end
end DL

set_option maxHeartbeats 2000000
/-! LA5: short forms of LA1..LA4, used by gen.py. -/
namespace DL
open PySem PySem.Spec L2
open PyProof.Rows hiding St
section
variable [M : Mem] {X : Cx} {T : TabT}
theorem cauK_nil {K : PySem.W.Frag} {mg : Str → Option Value} {cB : Value} : CauK K mg cB [] := fun _ h => nomatch h
theorem cauK_cons {K : PySem.W.Frag} {mg : Str → Option Value} {x c : Str} {cs : List Str} (T : CbI K mg x) (U : XcI K mg c) (s : PySem.W.subIn K (.ref U.C) (.ref T.C) = some true) (r : CauK K mg (.ref T.C) cs) : CauK K mg (.ref T.C) (c :: cs) := fun y hy => by
  rcases List.mem_cons.mp hy with rfl | h
  · exact ⟨U.C, U.g, U.n, PySem.W.exm_ref T.b T.d T.t s⟩
  · exact r y h
section
variable {mg : Str → Option Value} (K : PySem.W.Frag) (k i : Nat) {x a n kn cb q : Str} {c P : Addr} {stg st2 : Stmt} {Ng : List Str} {pk : Str} {g : List D → R D} {cs : List Str} {params : Arguments} {body : Expr} {scope sc : Scope} {p lpos pos p1 p2 p3 p4 p5 p6 p7 p8 p9 p10 : Pos}
/-- told(lambda: e), over data -/
theorem kTold {Er : ErT} {f : EF} (hM : M = tabM T) (hq : (P, q) ∈ T) (hu : ∀ p ∈ T, p.1 = P → p.2 = q) (Tt : FnI K mg x stg [a]) (Sg : FnScope Ng [a] (defScope stg)) (Tk : FnI K mg kn st2 [pk]) (F2 : FnC X.prog X.w K mg X.base (L2.CX X.prog X.w) k Tk.f Tk.fd [pk] (spD K mg 1 g))
    (Tb : CbI K mg cb) (hcs : CauK K mg (.ref Tb.C) cs) (TB : LamX.TabB X.base mg c P) (hr : Room (k + 2) X.A) (hL : LamX.lamSB sc scope = true)
    (hbody : ∀ (A : Around) (outer : List PySem.Env) (s : Shared) (H : Hp) (E : XK) (f1 c1 : Addr), Room k (A.deeper (LamX.lamEnv X scope s.heap.objs.size f1 c1)) → ∃ t, DE (LamX.lamCx X A outer s H E scope f1 c1) (erX mg E) body t f)
    (hg : Gl X x := by rfl)
    (hbd : defBody stg = [.Try [.Return (some (.Call (.Name a p1) [] [] p2)) p3] [.ExceptHandler (some (.Name cb p4)) (some n) [.Return (some (.Call (.Name kn p5) [.Name n p6] [] p7)) p8] p9] [] [] p10] := by rfl)
    (hN0 : Ng[0]? = some a := by rfl) (hva : Vis (defScope stg) a := by exact Or.inl rfl) (hNi : Ng[i]? = some n := by rfl) (hln : (defScope stg).names.lookup n = some .local := by rfl) (hi0 : i ≠ 0 := by decide)
    (hgc : (defScope stg).names.lookup cb = some .globalImplicit := by rfl) (hgk : (defScope stg).names.lookup kn = some .globalImplicit := by rfl)
    (hcode : X.env.code = .ref c := by rfl) (hqn : X.env.qual ++ "<lambda>" = q := by rfl) (hsc : X.env.scope = sc := by rfl) (hdef : defaultsOf params X.env = ([], []) := by rfl)
    (hbind : ∀ (q : Str) (cl : List (Str × Addr)) (pm cv ctv : Value), bindArgs (PySem.W.kla_fn "<lambda>" q params body scope cl pm cv ctv) ⟨[], []⟩ = pure [] := by intro _ _ _ _ _; rfl)
    (hdb : (x == ("__debug__" : Str)) = false := by decide) (hd : (a == ("__debug__" : Str)) = false := by decide) (hcd : (a == ("__classdict__" : Str)) = false := by decide) (hdn : (n == ("__debug__" : Str)) = false := by decide) (hcn : (n == ("__classdict__" : Str)) = false := by decide)
    (hdc : (cb == ("__debug__" : Str)) = false := by decide) (hdk : (kn == ("__debug__" : Str)) = false := by decide) (hK : X.K = K := by rfl) (hG : X.mg = mg := by rfl) :
    DE X Er (.Call (.Name x p) [.Lambda params body scope lpos] [] pos) (tTold K P q (.ref Tb.C) (spD K mg 1 g) (tSem K mg f)) (toldE cs f g) := by
  subst hK hG hsc
  exact ⟨pe_told hg Tt.m Tt.F Tt.b Sg hbd hN0 hva hNi hln hi0 hgc Tb.g hdc hgk Tk.m Tk.F.kp hdk F2 Tk.b TB hcode hqn hr (LamX.lamS_by hL) hdef hbind (fun A outer s H E f1 c1 hr1 => pe_sem (X := LamX.lamCx X A outer s H E scope f1 c1) (hbody A outer s H E f1 c1 hr1)) hdb hd hcd hdn hcn, drd_told hM hq hu hcs⟩
/-- .. over objects -/
theorem kToldP {Er : St → ErT} {w : List Sh} {f : EM} (hM : M = tabM T) (hq : (P, q) ∈ T) (hu : ∀ p ∈ T, p.1 = P → p.2 = q) (Tt : FnI K mg x stg [a]) (Sg : FnScope Ng [a] (defScope stg)) (Tk : FnI K mg kn st2 [pk]) (F2 : FnC X.prog X.w K mg X.base (L2.CX X.prog X.w) k Tk.f Tk.fd [pk] (spD K mg 1 g))
    (Tb : CbI K mg cb) (hcs : CauK K mg (.ref Tb.C) cs) (TB : LamX.TabB X.base mg c P) (hr : Room (k + 2) X.A) (hL : LamX.lamSB sc scope = true)
    (hbody : ∀ (A : Around) (outer : List PySem.Env) (s : Shared) (H : Hp) (E : XK) (f1 c1 : Addr), Room k (A.deeper (LamX.lamEnv X scope s.heap.objs.size f1 c1)) → ∃ t, DP (LamX.lamCx X A outer s H E scope f1 c1) (fun _ => erX mg E) w body t f)
    (hg : Gl X x := by rfl)
    (hbd : defBody stg = [.Try [.Return (some (.Call (.Name a p1) [] [] p2)) p3] [.ExceptHandler (some (.Name cb p4)) (some n) [.Return (some (.Call (.Name kn p5) [.Name n p6] [] p7)) p8] p9] [] [] p10] := by rfl)
    (hN0 : Ng[0]? = some a := by rfl) (hva : Vis (defScope stg) a := by exact Or.inl rfl) (hNi : Ng[i]? = some n := by rfl) (hln : (defScope stg).names.lookup n = some .local := by rfl) (hi0 : i ≠ 0 := by decide)
    (hgc : (defScope stg).names.lookup cb = some .globalImplicit := by rfl) (hgk : (defScope stg).names.lookup kn = some .globalImplicit := by rfl)
    (hcode : X.env.code = .ref c := by rfl) (hqn : X.env.qual ++ "<lambda>" = q := by rfl) (hsc : X.env.scope = sc := by rfl) (hdef : defaultsOf params X.env = ([], []) := by rfl)
    (hbind : ∀ (q : Str) (cl : List (Str × Addr)) (pm cv ctv : Value), bindArgs (PySem.W.kla_fn "<lambda>" q params body scope cl pm cv ctv) ⟨[], []⟩ = pure [] := by intro _ _ _ _ _; rfl)
    (hdb : (x == ("__debug__" : Str)) = false := by decide) (hd : (a == ("__debug__" : Str)) = false := by decide) (hcd : (a == ("__classdict__" : Str)) = false := by decide) (hdn : (n == ("__debug__" : Str)) = false := by decide) (hcn : (n == ("__classdict__" : Str)) = false := by decide)
    (hdc : (cb == ("__debug__" : Str)) = false := by decide) (hdk : (kn == ("__debug__" : Str)) = false := by decide) (hK : X.K = K := by rfl) (hG : X.mg = mg := by rfl) :
    DP X Er w (.Call (.Name x p) [.Lambda params body scope lpos] [] pos) (tTold K P q (.ref Tb.C) (spD K mg 1 g) (tSemM K mg w f)) (toldM cs f g) := by
  subst hK hG hsc
  exact ⟨pe_told hg Tt.m Tt.F Tt.b Sg hbd hN0 hva hNi hln hi0 hgc Tb.g hdc hgk Tk.m Tk.F.kp hdk F2 Tk.b TB hcode hqn hr (LamX.lamS_by hL) hdef hbind (fun A outer s H E f1 c1 hr1 => pe_semM (X := LamX.lamCx X A outer s H E scope f1 c1) (hbody A outer s H E f1 c1 hr1)) hdb hd hcd hdn hcn, drp_told hM hq hu hcs⟩
end
end
end DL

set_option maxHeartbeats 2000000
/-! LA6: a tuple written out, its object known; a slot that holds data or such a tuple. -/
namespace DL
open PySem PySem.Spec L2
open PyProof.Rows hiding St
theorem c64 {k : Nat} {A : Around} (r : RoomH k A) : A.units + 64 < cLine := by have := r.un; omega
theorem c65 {k : Nat} {A : Around} (r : RoomH k A) : A.units + 65 < cLine := by have := r.un; omega
theorem c16 {k : Nat} {A : Around} (r : RoomH k A) : A.units + 16 < cLine := by have := r.un; omega
def tTupO (t : TA) : TE := fun σ H Q => t σ H fun xs H1 => xs.length ≤ sizeLine ∧ ∀ (p : Addr) (o : Obj), H1 p = none → o.dict = none → Q (.ref p) (upd H1 p (.frz o (.tup xs)))
theorem pe_tupO {X : Cx} {es : List Expr} {t : TA} {k : Nat} {pos : Pos} (h : PA X es t) : PE X (.Tuple es k pos) (tTupO t) := by
  refine ⟨fun pins s σ H Q I hq => ?_⟩
  refine wpAny_Tuple_spliced (thn (h.run pos pins s σ H _ I hq) fun us s1 ⟨xs, H1, I1, r, z, q⟩ => ⟨by rw [← r.length]; exact z, ?_⟩)
  have hf : H1 s1.heap.objs.size = none := I1.hok.fresh (Nat.le_refl _)
  refine ⟨.ref s1.heap.objs.size, upd H1 s1.heap.objs.size (.frz { cls := .type "tuple", data := .seq us.toArray } (.tup xs)),
    I1.laid (t' := s1.toks) (fun b u e => Heap.get?_push_of_some _ e) (Nat.le_refl _) ?_, rfl, q _ _ hf rfl⟩
  exact ⟨Heap.get?_push_size _ rfl, z, us, r, IsTup.new _ _⟩
def ordT (f : AF) : EF := bE (smallA f) fun ds => cE (ordD ds)
def vordE (i : Nat) : EF := bE (vqE i) fun d => match ordOf d with
  | some ds => cE (.tuple ds)
  | none => fun _ => okD d
section
variable [Mem] {X : Cx} {Er : ErT} {es : List Expr} {ta : TA} {pos : Pos} {fa : AF} {x : Str}
theorem deq_ordT {k : Nat} (h : DA X Er es ta fa) : DEq X Er (.Tuple es k pos) (tTupO ta) (ordT fa) := by
  refine ⟨pe_tupO h.pe, fun F H σ ρ Q s st p => ?_⟩
  refine h.rd F H σ ρ _ s st (Post.imp (Post.bind (Post.bind p)) fun F1 H1 ds g1 p1 vs dvs => ?_)
  have el := dpAll_len dvs
  obtain ⟨hl, p2⟩ := small_ok p1 g1.fh
  refine ⟨sz_of (by omega), fun a o ha ho => ?_⟩
  have g := Grow.new (o := .frz o (.tup vs)) g1.fh ha
  exact Post.done p2 g _ (.inr (.inr (.inr (.inr (.inl ⟨ds, a, o, vs, rfl, rfl, upd_same, ho, dpAll_mono g.ff ds vs dvs⟩)))))
theorem dvo (i : Nat) {x : Str} {pos : Pos} (hN : X.N[i]? = some x := by rfl) (hv : Vis X.env.scope x := by first | exact Or.inl rfl | exact Or.inr (Or.inl rfl) | exact Or.inr (Or.inr rfl)) (hd : (x == ("__debug__" : Str)) = false := by decide) (hcd : (x == ("__classdict__" : Str)) = false := by decide) : DE X Er (.Name x pos) (tVar i) (vordE i) := by
  refine ⟨pe_var hN hv hd hcd, fun F H σ ρ Q s st q => ?_⟩
  refine deq_rd (Er := Er) s st (Post.imp (Post.bind q) fun F1 H1 d g1 p1 v dv => ?_)
  cases e : ordOf d with
  | none =>
    simp only [e] at p1
    cases k : okD d with
    | ok e' =>
      rw [k] at p1
      obtain ⟨h1, rfl⟩ := dq_dp dv k
      exact Post.now p1 g1.fh v h1
    | err c => exact absurd k (okD_ne d c)
    | bad => rw [k] at p1; exact p1.elim
  | some ds =>
    simp only [e] at p1
    rw [ordOf_inv e] at dv
    exact Post.now p1 g1.fh v (ordq_dp (dq_ord dv))
end
end DL
namespace DL
open PySem
/-- a code object's fields, as the making of its lambdas asks -/
def hdB (vs : Array Value) (c P : Addr) : Bool := (match (vs[11]? : Option Value) with | some (.ref P') => P' == P | _ => false) &&
      (match vs.getD 18 .none with | .str _ _ => true | _ => false) && (match vs.getD 7 .none with
        | .int _ _ => true
        | _ => false) &&
      (match vs.getD 9 .none with | .bool _ => true | _ => false) && (match vs.getD 10 .none with
        | .int _ _ => true
        | _ => false) && c != P
end DL

namespace DL
open PySem
theorem hdB_in {K : PySem.W.Frag} {c P : Addr} {dd : Option Addr} {vs : Array Value} {sl : Array (Option Value)} (l : K.lookup c = some ⟨.type "code", dd, .fields vs, sl⟩) (h : hdB vs c P = true) : PySem.W.codeHdIn K c P = true := by
  unfold PySem.W.codeHdIn
  rw [l]
  exact h
end DL

set_option maxHeartbeats 1000000
/-! PL0: the mirrors evaluated (simp set), the loops' laws. No program in sight. -/
namespace DL
open PySem PySem.Spec L2

theorem nr {α : Sort u} {a b : α} (h : a = b) : a = b := h
/-! ### R, Out -/
section
variable {α β : Type}
@[simp] theorem rb_ok (a : α) (g : α → R β) : (R.ok a).bind g = g a := nr rfl
@[simp] theorem rb_err (c : Str) (g : α → R β) : (R.err c : R α).bind g = .err c := nr rfl
@[simp] theorem rb_bad (g : α → R β) : (R.bad : R α).bind g = .bad := nr rfl
@[simp] theorem ro_some (a : α) : R.of (some a) = .ok a := nr rfl
@[simp] theorem ro_none : R.of (none : Option α) = .bad := nr rfl
@[simp] theorem ne_ok (a : α) : (R.ok a).noErr = .ok a := nr rfl
@[simp] theorem bE_ap (f : Env → R α) (g : α → Env → R β) (ρ : Env) : bE f g ρ = (f ρ).bind fun a => g a ρ := nr rfl
@[simp] theorem oE_ap (o : Option α) (ρ : Env) : oE o ρ = R.of o := nr rfl
@[simp] theorem cE_ap (d : α) (ρ : Env) : cE d ρ = .ok d := nr rfl
@[simp] theorem rr_ok (a : α) (ρ : Env) (k : α → Out) : runR (.ok a) ρ k = k a := nr rfl
@[simp] theorem rr_err (c : Str) (ρ : Env) (k : α → Out) : runR (.err c : R α) ρ k = .err c ρ := nr rfl
end
@[simp] theorem vE_z (d : D) (ρ : Env) : vE 0 (some d :: ρ) = okD d := nr rfl
@[simp] theorem okD_n : okD .none = .ok .none := nr rfl
@[simp] theorem okD_b (b : Bool) : okD (.bool b) = .ok (.bool b) := nr rfl
@[simp] theorem okD_i (b : Int) : okD (.int b) = .ok (.int b) := nr rfl
@[simp] theorem okD_s (b : Str) : okD (.str b) = .ok (.str b) := nr rfl
@[simp] theorem okD_l (b : List D) : okD (.list b) = .ok (.list b) := nr rfl
@[simp] theorem okD_t (b : List D) : okD (.tuple b) = .ok (.tuple b) := nr rfl
@[simp] theorem vE_s (i : Nat) (x : Option D) (ρ : Env) : vE (i + 1) (x :: ρ) = vE i ρ := by unfold vE; rw [List.getElem?_cons_succ]
@[simp] theorem op2E_ap (g : D → D → Option D) (a b : EF) (ρ : Env) : op2E g a b ρ = (a ρ).bind fun x => (b ρ).bind fun y => R.of (g x y) := nr rfl
@[simp] theorem op1E_ap (g : D → Option D) (a : EF) (ρ : Env) : op1E g a ρ = (a ρ).bind fun x => R.of (g x) := nr rfl
@[simp] theorem nilA_ap (ρ : Env) : nilA ρ = .ok [] := nr rfl
@[simp] theorem consA_ap (a : EF) (r : AF) (ρ : Env) : consA a r ρ = (a ρ).bind fun x => (r ρ).bind fun xs => .ok (x :: xs) := nr rfl
@[simp] theorem boolD_b (b : Bool) : boolD (.bool b) = some b := nr rfl
@[simp] theorem testE_ap (a : EF) (ρ : Env) : testE a ρ = (a ρ).bind fun x => R.of (boolD x) := nr rfl
@[simp] theorem andT_ap (a b : TF) (ρ : Env) : andT a b ρ = (a ρ).bind fun x => if x = true then b ρ else .ok false := by
  unfold andT bE; congr 1; funext x; cases x <;> rfl
@[simp] theorem orT_ap (a b : TF) (ρ : Env) : orT a b ρ = (a ρ).bind fun x => if x = true then .ok true else b ρ := by
  unfold orT bE; congr 1; funext x; cases x <;> rfl
@[simp] theorem notT_ap (a : TF) (ρ : Env) : notT a ρ = (a ρ).bind fun x => .ok (!x) := nr rfl
@[simp] theorem ifE_ap (t : TF) (a b : EF) (ρ : Env) : ifE t a b ρ = (t ρ).bind fun x => if x = true then a ρ else b ρ := by
  unfold ifE bE; congr 1; funext x; cases x <;> rfl
@[simp] theorem smallA_ap (a : AF) (ρ : Env) : smallA a ρ = (a ρ).bind fun xs => R.of (if xs.length ≤ 1000000 then some xs else none) := nr rfl
@[simp] theorem tupE_ap (a : AF) (ρ : Env) : tupE a ρ = ((a ρ).bind fun xs => R.of (if xs.length ≤ 1000000 then some xs else none)).bind fun xs => .ok (.tuple xs) := nr rfl
@[simp] theorem lstE_ap (a : AF) (ρ : Env) : lstE a ρ = (a ρ).bind fun xs => .ok (.list xs) := nr rfl
@[simp] theorem andE_ap (a b : EF) (ρ : Env) : andE a b ρ = (a ρ).bind fun x => (R.of (boolD x)).bind fun k => if k = true then b ρ else .ok (.bool false) := by
  unfold andE bE; congr 1; funext x; show (R.of (boolD x)).bind _ = _; congr 1; funext k; cases k <;> rfl
@[simp] theorem orE_ap (a b : EF) (ρ : Env) : orE a b ρ = (a ρ).bind fun x => (R.of (boolD x)).bind fun k => if k = true then .ok (.bool true) else b ρ := by
  unfold orE bE; congr 1; funext x; show (R.of (boolD x)).bind _ = _; congr 1; funext k; cases k <;> rfl
@[simp] theorem notE_ap (a : EF) (ρ : Env) : notE a ρ = (a ρ).bind fun x => (R.of (boolD x)).bind fun k => .ok (.bool (!k)) := nr rfl
@[simp] theorem chE_ap (g g' : D → D → Option D) (a b c : EF) (ρ : Env) : chE g g' a b c ρ = (a ρ).bind fun x => (b ρ).bind fun y => (R.of (g x y)).bind fun z => (R.of (boolD z)).bind fun k => if k = true then (c ρ).bind fun u => R.of (g' y u) else .ok (.bool false) := by
  unfold chE bE oE cE
  congr 1; funext x
  show (b ρ).bind _ = _
  congr 1; funext y
  show (R.of (g x y)).bind _ = _
  congr 1; funext z
  show (R.of (boolD z)).bind _ = _
  congr 1; funext k; cases k <;> rfl
@[simp] theorem partO_ap (f : EF) (ρ : Env) : partO f ρ = (f ρ).bind fun d => R.of ((intD d).map some) := nr rfl
@[simp] theorem noO_ap (ρ : Env) : noO ρ = .ok none := nr rfl
@[simp] theorem sliceE_ap (f : EF) (lo hi : OF) (ρ : Env) : sliceE f lo hi ρ = (f ρ).bind fun d => (lo ρ).bind fun l => (hi ρ).bind fun h => R.of (slD d l h) := nr rfl
@[simp] theorem callE_ap (g : List D → Option D) (a : AF) (ρ : Env) : callE g a ρ = (a ρ).bind fun ds => R.of (g ds) := nr rfl
@[simp] theorem callN_ap (g : List D → Option (List D)) (a : AF) (ρ : Env) : callN g a ρ = (a ρ).bind fun ds => R.of (g ds) := nr rfl
@[simp] theorem isiE_ap (g : D → Bool) (a : EF) (ρ : Env) : isiE g a ρ = (a ρ).bind fun d => .ok (.bool (g d)) := nr rfl
@[simp] theorem seqI_ap (f : EF) (ρ : Env) : seqI f ρ = (f ρ).bind fun d => R.of (seqOf d) := nr rfl
@[simp] theorem rangeI_ap (g : List D → Option (List D)) (a : AF) (ρ : Env) : rangeI g a ρ = (a ρ).bind fun ds => R.of (g ds) := nr rfl
@[simp] theorem ownE_ap (g : List D → R D) (a : AF) (ρ : Env) : ownE g a ρ = (a ρ).bind g := nr rfl
@[simp] theorem compE_ap (fi : AF) (tgf : TGF) (tt : TF) (fe : EF) (vs : List Nat) (ρ : Env) : compE fi tgf tt fe vs ρ = ((fi ρ).bind fun xs => R.of (if xs.length ≤ 1000000 then some xs else none)).bind fun ds => compL tgf tt fe (killE ρ vs) ds := nr rfl
@[simp] theorem killE_n (ρ : Env) : killE ρ [] = ρ := nr rfl
@[simp] theorem killE_c (ρ : Env) (v : Nat) (vs : List Nat) : killE ρ (v :: vs) = (killE ρ vs).set v none := nr rfl
@[simp] theorem setE_n (ρ : Env) : setE ρ [] = ρ := nr rfl
@[simp] theorem setE_c (ρ : Env) (i : Nat) (d : D) (r : List (Nat × D)) : setE ρ ((i, d) :: r) = setE (ρ.set i (some d)) r := by
  first | rfl | (unfold setE; rfl) | (simp [setE])
@[simp] theorem tgN_ap (i : Nat) (d : D) : tgN i d = some [(i, d)] := nr rfl
@[simp] theorem hidA_nil (w : List Sh) : hidA w [] = [] := by cases w <;> rfl
@[simp] theorem hidA_f (w : List Sh) (x : Option D) (ρ : Env) : hidA (.fz :: w) (x :: ρ) = x :: hidA w ρ := by simp [hidA]
@[simp] theorem hidA_l (w : List Sh) (x : Option D) (ρ : Env) : hidA (.ls :: w) (x :: ρ) = none :: hidA w ρ := by simp [hidA]
@[simp] theorem hidO_nil (w : List Sh) : hidO w [] = [] := by cases w <;> rfl
@[simp] theorem hidO_f (w : List Sh) (x : Option D) (ρ : Env) : hidO (.fz :: w) (x :: ρ) = x :: hidO w ρ := by simp [hidO]
@[simp] theorem hidO_l (w : List Sh) (x : Option D) (ρ : Env) : hidO (.ls :: w) (x :: ρ) = x :: hidO w ρ := by simp [hidO]
@[simp] theorem hidA_o (Φ : Own) (w : List Sh) (x : Option D) (ρ : Env) : hidA (.ob Φ :: w) (x :: ρ) = none :: hidA w ρ := by simp [hidA]
@[simp] theorem hidO_o (Φ : Own) (w : List Sh) (x : Option D) (ρ : Env) : hidO (.ob Φ :: w) (x :: ρ) = none :: hidO w ρ := by simp [hidO]
/-! dicts -/
@[simp] theorem newD_ap (i : Nat) (ρ : Env) : newD i ρ = .nx (ρ.set i (some (IntDic []))) := nr rfl
@[simp] theorem atS_z (d : D) (ρ : Env) (k : D → Out) : atSlot (some d :: ρ) 0 k = k d := nr rfl
@[simp] theorem atS_s (x : Option D) (ρ : Env) (i : Nat) (k : D → Out) : atSlot (x :: ρ) (i + 1) k = atSlot ρ i k := by unfold atSlot; rw [List.getElem?_cons_succ]
@[simp] theorem talD_d (ρ : Env) (kvs : List (Int × Int)) (k : List (Int × Int) → Out) : talD ρ (IntDic kvs) k = k kvs := by unfold talD; rw [dcOf_dic]
@[simp] theorem talK_i (i : Int) (g : Int → Out) : talK (.int i) g = g i := nr rfl
@[simp] theorem talO_i (ρ : Env) (i : Nat) (kvs : List (Int × Int)) (k m : Int) : talO ρ i kvs k (.int m) = if kvs.length < 1000000 then .nx (ρ.set i (some (IntDic (putI kvs k ((getI kvs k).getD 0 + m))))) else .bad := nr rfl
@[simp] theorem talS_ap (w : List Sh) (i j : Nat) (fe : EF) (ρ : Env) : talS w i j fe ρ = atSlot ρ i fun d => talD ρ d fun kvs => runR (vE j (hidA w ρ)) ρ fun k => talK k fun k => runR (fe (hidA w ρ)) ρ fun m => talO ρ i kvs k m := nr rfl
@[simp] theorem itE_z (kvs : List (Int × Int)) (ρ : Env) : itE 0 (some (IntDic kvs) :: ρ) = .ok (itemsD kvs) := by show itO (dcOf (IntDic kvs)) = _; rw [dcOf_dic]; rfl
@[simp] theorem itE_s (x : Option D) (ρ : Env) (i : Nat) : itE (i + 1) (x :: ρ) = itE i ρ := by unfold itE; rw [List.getElem?_cons_succ]
@[simp] theorem dgetE_ap (f fk fx : EF) (ρ : Env) : dgetE f fk fx ρ = (f ρ).bind fun d => (R.of (pairsD d)).bind fun l => (fk ρ).bind fun k => (fx ρ).bind fun x => R.of (dgetD l k x) := nr rfl
@[simp] theorem pairsD_items (kvs : List (Int × Int)) : pairsD (itemsD kvs) = some (sortI kvs) := pairsOf_map _
@[simp] theorem dgetD_i (l : List (Int × Int)) (k x : Int) : dgetD l (.int k) (.int x) = some (.int ((getI (mergeI l) k).getD x)) := nr rfl
@[simp] theorem rng1E_ap (f : EF) (ρ : Env) : rng1E f ρ = (f ρ).bind fun d => R.of (rangeN [d]) := nr rfl
theorem rangeN_nat (n : Nat) (h : n ≤ 1000000) : rangeN [.int (n : Nat)] = some ((List.range n).map fun i => .int (i : Nat)) := by
  simp only [rangeN]
  rw [if_pos ⟨by omega, by omega⟩]
  simp [rangeL]
@[simp] theorem okD_items (kvs : List (Int × Int)) : okD (itemsD kvs) = .ok (itemsD kvs) := nr rfl
@[simp] theorem newD2_ap (i j : Nat) (ρ : Env) : newD2 i j ρ = .nx ((ρ.set i (some (IntDic []))).set j (some (IntDic []))) := nr rfl
@[simp] theorem slotD_z (kvs : List (Int × Int)) (ρ : Env) : slotD (some (IntDic kvs) :: ρ) 0 = some kvs := dcOf_dic kvs
@[simp] theorem slotD_s (x : Option D) (ρ : Env) (i : Nat) : slotD (x :: ρ) (i + 1) = slotD ρ i := by unfold slotD; rw [List.getElem?_cons_succ]
@[simp] theorem dkO_i (neg : Bool) (k : Int) (kvs : List (Int × Int)) : dkO neg (.int k) (some kvs) = .ok (.bool (if neg then !(getI kvs k).isSome else (getI kvs k).isSome)) := nr rfl
@[simp] theorem dinE_ap (neg : Bool) (fk : EF) (i : Nat) (ρ : Env) : dinE neg fk i ρ = (fk ρ).bind fun k => dkO neg k (slotD ρ i) := nr rfl
/-! statements -/
@[simp] theorem th_nx (ρ : Env) (g : SF) : (Out.nx ρ).then g = g ρ := nr rfl
@[simp] theorem th_rt (d : D) (ρ : Env) (g : SF) : (Out.rt d ρ).then g = .rt d ρ := nr rfl
@[simp] theorem th_err (c : Str) (ρ : Env) (g : SF) : (Out.err c ρ).then g = .err c ρ := nr rfl
@[simp] theorem th_ite (c : Prop) [Decidable c] (a b : Out) (g : SF) : (if c then a else b).then g = if c then a.then g else b.then g := by split <;> rfl
@[simp] theorem seqS_ap (f g : SF) (ρ : Env) : seqS f g ρ = (f ρ).then g := nr rfl
@[simp] theorem nxS_ap (ρ : Env) : nxS ρ = .nx ρ := nr rfl
@[simp] theorem asgS_ap (w : List Sh) (i : Nat) (f : EF) (ρ : Env) : asgS w i f ρ = runR (f (hidA w ρ)) ρ fun d => .nx (ρ.set i (some d)) := nr rfl
@[simp] theorem asgB_ap (w : List Sh) (i : Nat) (f : EF) (ρ : Env) : asgB w i f ρ = runR (f (hidO w ρ)) ρ fun d => if noList d = true then .nx (ρ.set i (some d)) else .bad := nr rfl
@[simp] theorem newS_ap (w : List Sh) (i : Nat) (f : AF) (ρ : Env) : newS w i f ρ = runR (f (hidA w ρ)) ρ fun ds => .nx (ρ.set i (some (.list ds))) := nr rfl
@[simp] theorem dropS_ap (w : List Sh) (f : EF) (ρ : Env) : dropS w f ρ = runR (f (hidA w ρ)) ρ fun _ => .nx ρ := nr rfl
@[simp] theorem ifS_ap (w : List Sh) (t : TF) (a b : SF) (ρ : Env) : ifS w t a b ρ = runR (t (hidO w ρ)) ρ fun c => if c = true then a ρ else b ρ := nr rfl
@[simp] theorem retS_ap (w : List Sh) (f : EF) (ρ : Env) : retS w f ρ = runR (f (hidA w ρ)) ρ fun d => .rt d ρ := nr rfl
@[simp] theorem retB_ap (w : List Sh) (f : EF) (ρ : Env) : retB w f ρ = runR (f (hidO w ρ)) ρ fun d => if noList d = true then .rt d ρ else .bad := nr rfl
@[simp] theorem retN_ap (ρ : Env) : retN ρ = .rt .none ρ := nr rfl
@[simp] theorem raiseS_ap (c : Str) (ρ : Env) : raiseS c ρ = .err c ρ := nr rfl
def getL (o : Option (Option D)) (k : List D → Out) : Out := match o with
  | some (some (.list ds)) => k ds
  | _ => .bad
@[simp] theorem getL_ok (ds : List D) (k : List D → Out) : getL (some (some (.list ds))) k = k ds := nr rfl
theorem lsAt_eq (ρ : Env) (i : Nat) (k : List D → Out) : lsAt ρ i k = getL ρ[i]? k := rfl
@[simp] theorem lsAt_z (ds : List D) (ρ : Env) (k : List D → Out) : lsAt (some (.list ds) :: ρ) 0 k = k ds := nr rfl
@[simp] theorem lsAt_s (x : Option D) (ρ : Env) (i : Nat) (k : List D → Out) : lsAt (x :: ρ) (i + 1) k = lsAt ρ i k := by rw [lsAt_eq, lsAt_eq, List.getElem?_cons_succ]
@[simp] theorem appS_ap (w : List Sh) (i : Nat) (f : EF) (ρ : Env) : appS w i f ρ = lsAt ρ i fun ds => runR (f (hidA w ρ)) ρ fun d => if ds.length < 1000000 then .nx (ρ.set i (some (.list (ds ++ [d])))) else .bad := nr rfl
@[simp] theorem appB_ap (w : List Sh) (i : Nat) (f : EF) (ρ : Env) : appB w i f ρ = lsAt ρ i fun ds => runR (f (hidO w ρ)) ρ fun d => if ds.length < 1000000 ∧ noList d = true then .nx (ρ.set i (some (.list (ds ++ [d])))) else .bad := nr rfl
@[simp] theorem extS_ap (w : List Sh) (i : Nat) (f : AF) (ρ : Env) : extS w i f ρ = lsAt ρ i fun ds => runR (f (hidA w ρ)) ρ fun es => if ds.length + es.length ≤ 1000000 then .nx (ρ.set i (some (.list (ds ++ es)))) else .bad := nr rfl
@[simp] theorem retO_z (d : D) (ρ : Env) : retO 0 (some d :: ρ) = .rt d (some d :: ρ) := nr rfl
def rtO (o : Option (Option D)) (ρ : Env) : Out := match o with
  | some (some d) => .rt d ρ
  | _ => .bad
theorem retO_ap (i : Nat) (ρ : Env) : retO i ρ = rtO ρ[i]? ρ := rfl
@[simp] theorem rtO_ok (d : D) (ρ : Env) : rtO (some (some d)) ρ = .rt d ρ := nr rfl
def tgO (o : Option (List (Nat × D))) (ρ : Env) : Out := match o with
  | some as => .nx (setE ρ as)
  | none => .bad
@[simp] theorem tgO_ok (as : List (Nat × D)) (ρ : Env) : tgO (some as) ρ = .nx (setE ρ as) := nr rfl
@[simp] theorem tupS_ap (w : List Sh) (f : EF) (g : TGF) (ρ : Env) : tupS w f g ρ = runR (f (hidA w ρ)) ρ fun d => tgO (g d) ρ := nr rfl
@[simp] theorem tupB_ap (w : List Sh) (f : EF) (g : TGF) (ρ : Env) : tupB w f g ρ = runR (f (hidO w ρ)) ρ fun d => if noList d = true then tgO (g d) ρ else .bad := nr rfl
def parO (i j : Nat) (ρ : Env) (ds : List D) : Out := match ds with
  | [d, e] => .nx ((ρ.set i (some d)).set j (some e))
  | _ => .bad
@[simp] theorem parO_ok (i j : Nat) (ρ : Env) (d e : D) : parO i j ρ [d, e] = .nx ((ρ.set i (some d)).set j (some e)) := nr rfl
@[simp] theorem parS_ap (w : List Sh) (f : AF) (i j : Nat) (ρ : Env) : parS w f i j ρ = runR (f (hidA w ρ)) ρ fun ds => parO i j ρ ds := nr rfl
@[simp] theorem forS_ap (w : List Sh) (fi : AF) (tgf : TGF) (body : SF) (ks : List Nat) (ρ : Env) : forS w fi tgf body ks ρ = runR (fi (hidA w ρ)) ρ fun ds => forL tgf body ks ds (killE ρ ks) := nr rfl
def outR : Out → R D
  | .nx _ => .ok .none
  | .rt d _ => .ok d
  | .err c _ => .err c
  | .bk _ => .bad
  | .bad => .bad
theorem runD_ap (m : Nat) (f : SF) (ds : List D) : runD m f ds = outR (f (ds.map some ++ List.replicate (m - ds.length) none)) := by
  unfold runD
  generalize f _ = o
  cases o <;> rfl
@[simp] theorem outR_nx (ρ : Env) : outR (.nx ρ) = .ok .none := nr rfl
@[simp] theorem outR_rt (d : D) (ρ : Env) : outR (.rt d ρ) = .ok d := nr rfl
@[simp] theorem outR_err (c : Str) (ρ : Env) : outR (.err c ρ) = .err c := nr rfl

/-! ### loops -/
def kilO (ks : List Nat) : Out → Out
  | .nx ρ => .nx (killE ρ ks)
  | o => o
@[simp] theorem kilO_nx (ks : List Nat) (ρ : Env) : kilO ks (.nx ρ) = .nx (killE ρ ks) := nr rfl
@[simp] theorem kilO_rt (ks : List Nat) (d : D) (ρ : Env) : kilO ks (.rt d ρ) = .rt d ρ := nr rfl
@[simp] theorem kilO_err (ks : List Nat) (d : Str) (ρ : Env) : kilO ks (.err d ρ) = .err d ρ := nr rfl
@[simp] theorem kilO_ite (ks : List Nat) (c : Prop) [Decidable c] (a b : Out) : kilO ks (if c then a else b) = if c then kilO ks a else kilO ks b := by split <;> rfl
def turO (body : SF) (ks : List Nat) (ρ : Env) : Option (List (Nat × D)) → Out
  | none => .bad
  | some as => kilO ks (body (setE ρ as))
@[simp] theorem turO_some (body : SF) (ks : List Nat) (ρ : Env) (as : List (Nat × D)) : turO body ks ρ (some as) = kilO ks (body (setE ρ as)) := nr rfl
def turnL (tgf : TGF) (body : SF) (ks : List Nat) (d : D) (ρ : Env) : Out := turO body ks ρ (tgf d)
theorem forL_nx {tgf : TGF} {body : SF} {ks : List Nat} {d : D} {ds : List D} {ρ ρ' : Env} (h : turnL tgf body ks d ρ = .nx ρ') : forL tgf body ks (d :: ds) ρ = forL tgf body ks ds ρ' := by
  rw [forL]
  unfold turnL turO at h
  cases e : tgf d with
  | none => rw [e] at h; cases h
  | some as =>
    rw [e] at h
    simp only at h ⊢
    cases e2 : body (setE ρ as) <;> rw [e2] at h <;> simp [kilO] at h ⊢
    rw [h]
theorem forL_rt {tgf : TGF} {body : SF} {ks : List Nat} {d x : D} {ds : List D} {ρ ρ' : Env} (h : turnL tgf body ks d ρ = .rt x ρ') : forL tgf body ks (d :: ds) ρ = .rt x ρ' := by
  rw [forL]
  unfold turnL turO at h
  cases e : tgf d with
  | none => rw [e] at h; cases h
  | some as =>
    rw [e] at h
    simp only at h ⊢
    cases e2 : body (setE ρ as) <;> rw [e2] at h <;> simp [kilO] at h ⊢
    exact h
section
variable {α S : Type} {tgf : TGF} {body : SF} {ks : List Nat}
theorem forL_fold (E : S → Env) (e : α → D) (f : S → α → S) (I : S → Prop) : ∀ (xs : List α) (s : S), I s → (∀ x ∈ xs, ∀ s, I s → turnL tgf body ks (e x) (E s) = .nx (E (f s x)) ∧ I (f s x)) →
    forL tgf body ks (xs.map e) (E s) = .nx (E (xs.foldl f s)) ∧ I (xs.foldl f s)
  | [], s, h0, _ => ⟨rfl, h0⟩
  | x :: xs, s, h0, h => by
    obtain ⟨h1, h2⟩ := h x List.mem_cons_self s h0
    rw [List.map_cons, forL_nx h1]
    exact forL_fold E e f I xs _ h2 fun y hy => h y (List.mem_cons_of_mem _ hy)
theorem forL_app (E : List D → Env) (e : α → D) (g : α → List D) (c B : Nat) : ∀ (xs : List α) (s : List D), (∀ x ∈ xs, ∀ s, s.length + c ≤ B → turnL tgf body ks (e x) (E s) = .nx (E (s ++ g x))) → (∀ x ∈ xs, (g x).length ≤ c) → s.length + c * xs.length ≤ B →
    forL tgf body ks (xs.map e) (E s) = .nx (E (s ++ xs.flatMap g))
  | [], s, _, _, _ => by simp [forL]
  | x :: xs, s, h, hc, hB => by
    have e1 : c * (xs.length + 1) = c * xs.length + c := by rw [Nat.mul_add, Nat.mul_one]
    rw [List.length_cons, e1] at hB
    rw [List.map_cons, forL_nx (h x List.mem_cons_self s (by omega)), forL_app E e g c B xs _ (fun y hy => h y (List.mem_cons_of_mem _ hy)) (fun y hy => hc y (List.mem_cons_of_mem _ hy)) (by have := hc x List.mem_cons_self; simp; omega)]
    simp
theorem forL_id (ρ : Env) (e : α → D) : ∀ (xs : List α), (∀ x ∈ xs, turnL tgf body ks (e x) ρ = .nx ρ) → forL tgf body ks (xs.map e) ρ = .nx ρ
  | [], _ => rfl
  | x :: xs, h => by
    rw [List.map_cons, forL_nx (h x List.mem_cons_self)]
    exact forL_id ρ e xs fun y hy => h y (List.mem_cons_of_mem _ hy)
theorem fold_inv {f : S → α → S} {I : S → Prop} : ∀ {xs : List α} {s : S}, I s → (∀ x ∈ xs, ∀ s, I s → I (f s x)) → I (xs.foldl f s)
  | [], _, h, _ => h
  | x :: xs, s, h, g => fold_inv (xs := xs) (g x List.mem_cons_self s h) fun y hy => g y (List.mem_cons_of_mem _ hy)
theorem for_fold (E : S → Env) (e : α → D) (f : S → α → S) (I : S → Prop) (xs : List α) (s : S) {ds : List D} {ρ : Env} (h0 : I s) (hI : ∀ x ∈ xs, ∀ s, I s → I (f s x)) (hd : ds = xs.map e) (hρ : ρ = E s)
    (h : ∀ x ∈ xs, ∀ s, I s → turnL tgf body ks (e x) (E s) = .nx (E (f s x))) : forL tgf body ks ds ρ = .nx (E (xs.foldl f s)) := by
  rw [hd, hρ]
  exact (forL_fold E e f I xs s h0 fun x hx s hs => ⟨h x hx s hs, hI x hx s hs⟩).1
theorem for_foldi (E : S → Env) (e : α → D) (f : S → α → S) (I : Nat → S → Prop) : ∀ (xs : List α) (s : S) (n : Nat) {ds : List D} {ρ : Env}, I n s → (∀ i x s, xs[i]? = some x → I (n + i) s → I (n + i + 1) (f s x)) → ds = xs.map e → ρ = E s →
    (∀ i x s, xs[i]? = some x → I (n + i) s → turnL tgf body ks (e x) (E s) = .nx (E (f s x))) → forL tgf body ks ds ρ = .nx (E (xs.foldl f s))
  | [], s, n, ds, ρ, h0, hI, hd, hρ, h => by rw [hd, hρ]; rfl
  | x :: xs, s, n, ds, ρ, h0, hI, hd, hρ, h => by
    rw [hd, hρ, List.map_cons, forL_nx (h 0 x s rfl h0)]
    refine for_foldi E e f I xs (f s x) (n + 1) (hI 0 x s rfl h0) (fun i y t hy ht => ?_) rfl rfl fun i y t hy ht => ?_
    · have e1 : n + 1 + i = n + (i + 1) := by omega
      rw [e1] at ht ⊢
      exact hI (i + 1) y t (by simpa using hy) ht
    · have e1 : n + 1 + i = n + (i + 1) := by omega
      rw [e1] at ht
      exact h (i + 1) y t (by simpa using hy) ht
theorem foldi_inv {f : S → α → S} {I : Nat → S → Prop} : ∀ {xs : List α} {s : S} {n : Nat}, I n s → (∀ i x s, xs[i]? = some x → I (n + i) s → I (n + i + 1) (f s x)) → I (n + xs.length) (xs.foldl f s)
  | [], _, _, h, _ => h
  | x :: xs, s, n, h, g => by
    have := foldi_inv (xs := xs) (n := n + 1) (g 0 x s rfl h) fun i y t hy ht => by
      have e1 : n + 1 + i = n + (i + 1) := by omega
      rw [e1] at ht ⊢
      exact g (i + 1) y t (by simpa using hy) ht
    rw [List.length_cons, show n + (xs.length + 1) = n + 1 + xs.length by omega]
    exact this
theorem for_app (E : List D → Env) (e : α → D) (g : α → List D) (c B : Nat) (xs : List α) (s : List D) {ds : List D} {ρ : Env} (hc : ∀ x ∈ xs, (g x).length ≤ c) (hB : s.length + c * xs.length ≤ B) (hd : ds = xs.map e) (hρ : ρ = E s)
    (h : ∀ x ∈ xs, ∀ s, s.length + c ≤ B → turnL tgf body ks (e x) (E s) = .nx (E (s ++ g x))) : forL tgf body ks ds ρ = .nx (E (s ++ xs.flatMap g)) := by
  rw [hd, hρ, forL_app E e g c B xs s h hc hB]
theorem for_id (e : α → D) (xs : List α) {ds : List D} {ρ : Env} (hd : ds = xs.map e) (h : ∀ x ∈ xs, turnL tgf body ks (e x) ρ = .nx ρ) : forL tgf body ks ds ρ = .nx ρ := by
  rw [hd, forL_id ρ e xs h]
/-- a search: the first hit returns -/
theorem forL_find (ρ : Env) (e : α → D) (p : α → Bool) (r : α → D) : ∀ (xs : List α), (∀ x ∈ xs, p x = false → turnL tgf body ks (e x) ρ = .nx ρ) → (∀ x ∈ xs, p x = true → ∃ ρ', turnL tgf body ks (e x) ρ = .rt (r x) ρ') →
    (xs.find? p = none ∧ forL tgf body ks (xs.map e) ρ = .nx ρ) ∨ ∃ x ρ', xs.find? p = some x ∧ forL tgf body ks (xs.map e) ρ = .rt (r x) ρ'
  | [], _, _ => .inl ⟨rfl, rfl⟩
  | x :: xs, h, h2 => by
    rw [List.map_cons]
    cases q : p x with
    | false =>
      rw [forL_nx (h x List.mem_cons_self q), List.find?_cons, q]
      exact forL_find ρ e p r xs (fun y hy => h y (List.mem_cons_of_mem _ hy)) fun y hy => h2 y (List.mem_cons_of_mem _ hy)
    | true =>
      obtain ⟨ρ', e1⟩ := h2 x List.mem_cons_self q
      exact .inr ⟨x, ρ', by rw [List.find?_cons, q], forL_rt e1⟩
end
/-! comprehensions -/
def turnC (tgf : TGF) (tt : TF) (fe : EF) (ρ : Env) (d : D) : R (List D) :=
  (R.of (tgf d)).bind fun as => (tt (setE ρ as)).noErr.bind fun b => if b = true then (fe (setE ρ as)).noErr.bind fun y => .ok [y] else .ok []
theorem compL_cons {tgf : TGF} {tt : TF} {fe : EF} {ρ : Env} {d : D} {ds ys zs : List D} (h : turnC tgf tt fe ρ d = .ok ys) (h2 : compL tgf tt fe ρ ds = .ok zs) : compL tgf tt fe ρ (d :: ds) = .ok (ys ++ zs) := by
  rw [compL, h2]
  unfold turnC at h
  cases e : tgf d with
  | none => rw [e] at h; cases h
  | some as =>
    rw [e] at h
    simp only [ro_some, rb_ok] at h ⊢
    cases e2 : (tt (setE ρ as)).noErr with
    | ok b =>
      rw [e2] at h
      simp only [rb_ok] at h ⊢
      cases b with
      | true =>
        simp only [if_true] at h ⊢
        cases e3 : (fe (setE ρ as)).noErr with
        | ok y => rw [e3] at h; cases h; rfl
        | err c => rw [e3] at h; cases h
        | bad => rw [e3] at h; cases h
      | false =>
        cases h
        rfl
    | err c => rw [e2] at h; cases h
    | bad => rw [e2] at h; cases h
section
variable {α : Type} {tgf : TGF} {tt : TF} {fe : EF} {ρ : Env}
theorem compL_flat (e : α → D) (g : α → List D) : ∀ (xs : List α), (∀ x ∈ xs, turnC tgf tt fe ρ (e x) = .ok (g x)) → compL tgf tt fe ρ (xs.map e) = .ok (xs.flatMap g)
  | [], _ => rfl
  | x :: xs, h => by
    rw [List.map_cons, compL_cons (h x List.mem_cons_self) (compL_flat e g xs fun y hy => h y (List.mem_cons_of_mem _ hy))]
    rfl
theorem compL_map (e : α → D) (y : α → D) (xs : List α) (h : ∀ x ∈ xs, turnC tgf tt fe ρ (e x) = .ok [y x]) : compL tgf tt fe ρ (xs.map e) = .ok (xs.map y) := by
  rw [compL_flat e (fun x => [y x]) xs h]
  congr 1
  clear h
  induction xs with
  | nil => rfl
  | cons x xs ih => simp [ih]
theorem compL_filter (e : α → D) (p : α → Bool) (y : α → D) (xs : List α) (h : ∀ x ∈ xs, turnC tgf tt fe ρ (e x) = .ok (if p x = true then [y x] else [])) : compL tgf tt fe ρ (xs.map e) = .ok ((xs.filter p).map y) := by
  rw [compL_flat e (fun x => if p x = true then [y x] else []) xs h]
  congr 1
  clear h
  induction xs with
  | nil => rfl
  | cons x xs ih => cases q : p x <;> simp [q, ih]
theorem comp_map (e : α → D) (y : α → D) (xs : List α) {ds : List D} (hd : ds = xs.map e) (h : ∀ x ∈ xs, turnC tgf tt fe ρ (e x) = .ok [y x]) : compL tgf tt fe ρ ds = .ok (xs.map y) := by
  rw [hd, compL_map e y xs h]
theorem comp_filter (e : α → D) (p : α → Bool) (y : α → D) (xs : List α) {ds : List D} (hd : ds = xs.map e) (h : ∀ x ∈ xs, turnC tgf tt fe ρ (e x) = .ok (if p x = true then [y x] else [])) : compL tgf tt fe ρ ds = .ok ((xs.filter p).map y) := by
  rw [hd, compL_filter e p y xs h]
end

/-! ### operations -/
@[simp] theorem addD_i (i j : Int) : addD (.int i) (.int j) = some (.int (i + j)) := nr rfl
@[simp] theorem addD_t (xs ys : List D) : addD (.tuple xs) (.tuple ys) = if xs.length + ys.length ≤ 1000000 then some (.tuple (xs ++ ys)) else none := nr rfl
@[simp] theorem addD_l (xs ys : List D) : addD (.list xs) (.list ys) = if xs.length + ys.length ≤ 1000000 then some (.list (xs ++ ys)) else none := nr rfl
@[simp] theorem subD_i (i j : Int) : subD (.int i) (.int j) = some (.int (i - j)) := nr rfl
@[simp] theorem modD_i (i j : Int) : modD (.int i) (.int j) = if 0 < j then some (.int (i % j)) else none := nr rfl
@[simp] theorem fdivD_i (i j : Int) : fdivD (.int i) (.int j) = if 0 < j ∧ j < 1073741824 then some (.int (i / j)) else none := nr rfl
@[simp] theorem mulD_i (i j : Int) : mulD (.int i) (.int j) = if (-(2 ^ 64) < i ∧ i < 2 ^ 64) ∨ (-(2 ^ 64) < j ∧ j < 2 ^ 64) then some (.int (i * j)) else none := nr rfl
@[simp] theorem mulD_t (xs : List D) (k : Int) : mulD (.tuple xs) (.int k) = if xs ≠ [] ∧ 1 ≤ k ∧ k ≤ 1000 ∧ xs.length ≤ 1000 then some (.tuple (List.replicate k.toNat xs).flatten) else none := nr rfl
@[simp] theorem mulD_l (xs : List D) (k : Int) : mulD (.list xs) (.int k) = if -(2 ^ 63) ≤ k ∧ k < 2 ^ 63 ∧ xs.length * k.toNat ≤ 1000000 then some (.list (List.replicate k.toNat xs).flatten) else none := nr rfl
@[simp] theorem intsD_i (p : Int → Int → Bool) (i j : Int) : intsD p (.int i) (.int j) = some (.bool (p i j)) := nr rfl
@[simp] theorem isD_nn : isD .none .none = some (.bool true) := nr rfl
@[simp] theorem isD_in (i : Int) : isD (.int i) .none = some (.bool false) := nr rfl
@[simp] theorem isD_tn (i : List D) : isD (.tuple i) .none = some (.bool false) := nr rfl
@[simp] theorem isD_ln (i : List D) : isD (.list i) .none = some (.bool false) := nr rfl
@[simp] theorem isD_bb (a b : Bool) : isD (.bool a) (.bool b) = some (.bool (decide (a = b))) := nr rfl
@[simp] theorem nisD_nn : notIsD .none .none = some (.bool false) := nr rfl
@[simp] theorem nisD_in (i : Int) : notIsD (.int i) .none = some (.bool true) := nr rfl
@[simp] theorem nisD_tn (i : List D) : notIsD (.tuple i) .none = some (.bool true) := nr rfl
@[simp] theorem nisD_bb (a b : Bool) : notIsD (.bool a) (.bool b) = some (.bool (!decide (a = b))) := nr rfl
@[simp] theorem ixD_l (xs : List D) (i : Int) : ixD (.list xs) (.int i) = atI xs i := nr rfl
@[simp] theorem ixD_t (xs : List D) (i : Int) : ixD (.tuple xs) (.int i) = atI xs i := nr rfl
@[simp] theorem slD_l (xs : List D) (lo hi : Option Int) : slD (.list xs) lo hi = some (.list (cutD xs lo hi)) := nr rfl
@[simp] theorem slD_t (xs : List D) (lo hi : Option Int) : slD (.tuple xs) lo hi = some (.tuple (cutD xs lo hi)) := nr rfl
@[simp] theorem intD_i (i : Int) : intD (.int i) = some i := nr rfl
@[simp] theorem lenD_l (xs : List D) : lenD [.list xs] = some (.int xs.length) := nr rfl
@[simp] theorem lenD_t (xs : List D) : lenD [.tuple xs] = some (.int xs.length) := nr rfl
@[simp] theorem tupleD_l (xs : List D) : tupleD [.list xs] = some (.tuple xs) := nr rfl
@[simp] theorem tupleD_t (xs : List D) : tupleD [.tuple xs] = some (.tuple xs) := nr rfl
@[simp] theorem listN_l (xs : List D) : listN [.list xs] = some xs := nr rfl
@[simp] theorem listN_t (xs : List D) : listN [.tuple xs] = some xs := nr rfl
@[simp] theorem seqOf_l (xs : List D) : seqOf (.list xs) = some xs := nr rfl
@[simp] theorem seqOf_t (xs : List D) : seqOf (.tuple xs) = some xs := nr rfl
@[simp] theorem allD_l (ds : List D) : allD [.list ds] = (boolsOf ds).map fun bs => .bool (bs.all id) := nr rfl
@[simp] theorem anyD_l (ds : List D) : anyD [.list ds] = (boolsOf ds).map fun bs => .bool (bs.any id) := nr rfl
@[simp] theorem sumD_l (ds : List D) : sumD [.list ds] = (intsOf ds).map fun ns => .int ns.sum := nr rfl
@[simp] theorem intC_i (i : Int) : intC [.int i] = some (.int i) := nr rfl
@[simp] theorem intC_b (b : Bool) : intC [.bool b] = some (.int (if b then 1 else 0)) := nr rfl
@[simp] theorem absD_i (i : Int) : absD [.int i] = some (.int (if i < 0 then -i else i)) := nr rfl
@[simp] theorem min2D_i (i j : Int) : min2D [.int i, .int j] = some (.int (if j < i then j else i)) := nr rfl
@[simp] theorem revD_l (xs : List D) : revD (.list xs) = some (.list xs.reverse) := nr rfl
@[simp] theorem revD_t (xs : List D) : revD (.tuple xs) = some (.tuple xs.reverse) := nr rfl
def exO (i : Nat) (ρ : Env) (ds : List D) : D → Out
  | .list es => if ds.length + es.length ≤ 1000000 then .nx (ρ.set i (some (.list (ds ++ es)))) else .bad
  | _ => .bad
@[simp] theorem exO_l (i : Nat) (ρ : Env) (ds es : List D) : exO i ρ ds (.list es) = if ds.length + es.length ≤ 1000000 then .nx (ρ.set i (some (.list (ds ++ es)))) else .bad := nr rfl
@[simp] theorem extV_ap (w : List Sh) (i : Nat) (f : EF) (ρ : Env) : extV w i f ρ = lsAt ρ i fun ds => runR (f (hidA w ρ)) ρ (exO i ρ ds) := nr rfl
@[simp] theorem negD_i (i : Int) : negD (.int i) = some (.int (-i)) := nr rfl
@[simp] theorem isInt_i (i : Int) : isIntD (.int i) = true := nr rfl
@[simp] theorem isInt_b (i : Bool) : isIntD (.bool i) = true := nr rfl
@[simp] theorem isBool_i (i : Int) : isBoolD (.int i) = false := nr rfl
@[simp] theorem isBool_b (i : Bool) : isBoolD (.bool i) = true := nr rfl
@[simp] theorem isTup_t (i : List D) : isTupD (.tuple i) = true := nr rfl
theorem boolsOf_mapf {α : Type} (f : α → Bool) (xs : List α) : boolsOf (xs.map fun x => .bool (f x)) = some (xs.map f) := by
  induction xs with
  | nil => rfl
  | cons x xs ih => simp [boolsOf, ih]
theorem intsOf_mapf {α : Type} (f : α → Int) (xs : List α) : intsOf (xs.map fun x => .int (f x)) = some (xs.map f) := by
  induction xs with
  | nil => rfl
  | cons x xs ih => simp [intsOf, ih]
/-- range(n), the numbers natural -/
@[simp] theorem range1_nat (n : Nat) (h : n < 2 ^ 62) : range1D [.int (n : Int)] = some ((List.range n).map fun i => .int (i : Nat)) := by
  have : -(2 ^ 62 : Int) ≤ n ∧ (n : Int) < 2 ^ 62 := by omega
  simp only [range1D]
  rw [if_pos this]
  simp [rangeL]
theorem range1_int {z : Int} (n : Nat) (e : z = n) (h : n < 2 ^ 62) : range1D [.int z] = some ((List.range n).map fun i => .int (i : Nat)) := by rw [e, range1_nat n h]
theorem enumD_l (xs : List D) : enumD [.list xs] = some (enumL xs) := rfl
theorem enumD_t (xs : List D) : enumD [.tuple xs] = some (enumL xs) := rfl
theorem zipD_l (xs ys : List D) : zipD [.list xs, .list ys] = some (zipL xs ys) := rfl
theorem zipD_t (xs ys : List D) : zipD [.tuple xs, .tuple ys] = some (zipL xs ys) := rfl
/-- the items of a row told by their numbers -/
theorem enumL_map {α : Type} (f : α → D) (xs : List α) : enumL (xs.map f) = (xs.zipIdx).map fun p => .tuple [.int (p.2 : Nat), f p.1] := by
  unfold enumL
  rw [List.zipIdx_map, List.map_map]
  rfl
theorem enumL_range (n : Nat) (f : Nat → D) : enumL ((List.range n).map f) = (List.range n).map fun i => .tuple [.int (i : Nat), f i] := by
  rw [enumL_map]
  apply List.ext_getElem <;> simp
theorem zipL_range (n : Nat) (f g : Nat → D) : zipL ((List.range n).map f) ((List.range n).map g) = (List.range n).map fun i => .tuple [f i, g i] := by
  unfold zipL
  apply List.ext_getElem <;> simp

/-! ### places -/
theorem at_nat {α : Type} (xs : List α) (k : Nat) : atI xs (k : Int) = xs[k]? := by
  unfold atI ixN
  by_cases h : (k : Int) < xs.length
  · rw [if_pos (by omega), if_pos h]
    simp
  · rw [if_pos (by omega), if_neg h]
    simp only [Option.bind_none]
    exact (List.getElem?_eq_none (by omega)).symm
theorem at_of {α : Type} (xs : List α) {i : Int} (k : Nat) (e : i = k) : atI xs i = xs[k]? := by rw [e, at_nat]
theorem at_pos {α : Type} (xs : List α) {i : Int} (h : 0 ≤ i) : atI xs i = xs[i.toNat]? := at_of xs i.toNat (by omega)
@[simp] theorem at_natS {α : Type} (xs : List α) (k : Nat) : atI xs (k : Int) = xs[k]? := at_nat xs k
@[simp] theorem at_succS {α : Type} (xs : List α) (k : Nat) : atI xs ((k : Int) + 1) = xs[k + 1]? := at_of xs (k + 1) (by omega)
@[simp] theorem at_zeroS {α : Type} (xs : List α) : atI xs 0 = xs[0]? := at_of xs 0 rfl
@[simp] theorem at_oneS {α : Type} (xs : List α) : atI xs 1 = xs[1]? := at_of xs 1 rfl
@[simp] theorem at_twoS {α : Type} (xs : List α) : atI xs 2 = xs[2]? := at_of xs 2 rfl
@[simp] theorem at_threeS {α : Type} (xs : List α) : atI xs 3 = xs[3]? := at_of xs 3 rfl
@[simp] theorem at_litS {α : Type} (xs : List α) (n : Nat) : atI xs (no_index (OfNat.ofNat n) : Int) = xs[(OfNat.ofNat n : Nat)]? := at_of xs n rfl
theorem at_neg1 {α : Type} (xs : List α) : atI xs (-1) = xs[xs.length - 1]? := by
  unfold atI ixN
  rw [if_neg (by omega)]
  by_cases h : -(xs.length : Int) ≤ -1
  · rw [if_pos h]
    show xs[(-1 + (xs.length : Int)).toNat]? = _
    congr 1
    omega
  · rw [if_neg h]
    have : xs.length = 0 := by omega
    exact (List.getElem?_eq_none (by omega)).symm
@[simp] theorem rng_get (n i : Nat) (f : Nat → D) : ((List.range n).map f)[i]? = if i < n then some (f i) else none := by
  rw [List.getElem?_map]
  split
  · rename_i h; rw [List.getElem?_range h]; rfl
  · rename_i h; rw [List.getElem?_eq_none (by simpa using h)]; rfl
theorem rng_neg1 (n : Nat) (f : Nat → D) (h : 0 < n) : atI ((List.range n).map f) (-1) = some (f (n - 1)) := by
  rw [at_neg1, rng_get]
  simp
  omega
/-- slices of a range -/
theorem cut_nat {α : Type} (xs : List α) (a b : Nat) : cutD xs (some (a : Int)) (some (b : Int)) = (xs.drop a).take (b - a) := by
  unfold cutD
  rw [HT.sIx_nat, HT.sIx_nat]
  rcases Nat.lt_or_ge a xs.length with h | h
  · rw [Nat.min_eq_left (Nat.le_of_lt h)]
    rcases Nat.lt_or_ge b xs.length with h2 | h2
    · rw [Nat.min_eq_left (Nat.le_of_lt h2)]
    · rw [Nat.min_eq_right h2, List.take_of_length_le (by simp), List.take_of_length_le (by simp; omega)]
  · rw [Nat.min_eq_right h, List.drop_of_length_le h, List.drop_of_length_le (Nat.le_refl _)]
    simp
theorem cut_lo {α : Type} (xs : List α) (a : Nat) : cutD xs (some (a : Int)) none = xs.drop a := by
  unfold cutD
  rw [HT.sIx_nat, HT.sIx_none]
  rcases Nat.lt_or_ge a xs.length with h | h
  · rw [Nat.min_eq_left (Nat.le_of_lt h), List.take_of_length_le (by simp)]
  · rw [Nat.min_eq_right h, List.drop_of_length_le h, List.drop_of_length_le (Nat.le_refl _)]
    simp
theorem cut_hi {α : Type} (xs : List α) (b : Nat) : cutD xs none (some (b : Int)) = xs.take b := by
  unfold cutD
  rw [HT.sIx_nat, HT.sIx_none]
  rcases Nat.lt_or_ge b xs.length with h2 | h2
  · rw [Nat.min_eq_left (Nat.le_of_lt h2)]; simp
  · rw [Nat.min_eq_right h2, List.take_of_length_le (by simp), List.take_of_length_le (by omega)]; simp
theorem rng_cut {α : Type} (n a c : Nat) (f : Nat → α) : (((List.range n).map f).drop a).take c = (List.range (min c (n - a))).map fun i => f (a + i) := by
  apply List.ext_getElem <;> simp

/-! ### comparisons -/
/-- data of ints, None, texts, lists, tuples: not deep -/
def cl : Nat → D → Bool
  | _, .none => true
  | _, .int _ => true
  | _, .bool _ => true
  | _, .str x => PyData.canLay0 (.str x)
  | n + 1, .list xs => xs.all (cl n)
  | n + 1, .tuple xs => xs.all (cl n)
  | _, _ => false
theorem depthAll_le {n : Nat} : ∀ {xs : List D}, (∀ x ∈ xs, x.depth ≤ n) → PyData.depthAll xs ≤ n
  | [], _ => by simp [PyData.depthAll]
  | x :: xs, h => by
    rw [PyData.depthAll]
    have := h x List.mem_cons_self
    have := depthAll_le (xs := xs) fun y hy => h y (List.mem_cons_of_mem _ hy)
    omega
theorem canAll_of : ∀ {xs : List D}, (∀ x ∈ xs, x.canLay0 = true) → PyData.canLayAll0 xs = true
  | [], _ => rfl
  | x :: xs, h => by
    rw [PyData.canLayAll0, h x List.mem_cons_self, canAll_of fun y hy => h y (List.mem_cons_of_mem _ hy)]
    rfl
theorem cl_ok : ∀ (n : Nat) (d : D), cl n d = true → d.canLay0 = true ∧ d.depth ≤ n
  | n, .none, _ => ⟨rfl, by simp [PyData.depth]⟩
  | n, .int _, _ => ⟨rfl, by simp [PyData.depth]⟩
  | n, .bool _, _ => ⟨rfl, by simp [PyData.depth]⟩
  | 0, .str x, h => ⟨by simpa [cl] using h, by simp [PyData.depth]⟩
  | n + 1, .str x, h => ⟨by simpa [cl] using h, by simp [PyData.depth]⟩
  | n + 1, .list xs, h => by
    simp only [cl, List.all_eq_true] at h
    refine ⟨canAll_of fun x hx => (cl_ok n x (h x hx)).1, ?_⟩
    rw [PyData.depth]
    have := depthAll_le fun x hx => (cl_ok n x (h x hx)).2
    omega
  | n + 1, .tuple xs, h => by
    simp only [cl, List.all_eq_true] at h
    refine ⟨canAll_of fun x hx => (cl_ok n x (h x hx)).1, ?_⟩
    rw [PyData.depth]
    have := depthAll_le fun x hx => (cl_ok n x (h x hx)).2
    omega
  | 0, .list xs, h => by simp [cl] at h
  | 0, .tuple xs, h => by simp [cl] at h
  | 0, .dict xs, h => by simp [cl] at h
  | n + 1, .dict xs, h => by simp [cl] at h
theorem cl_shaped {d : D} (h : cl 20 d = true) : SeqAt.shaped d = true := by
  obtain ⟨h1, h2⟩ := cl_ok 20 d h
  unfold SeqAt.shaped
  rw [h1, Bool.true_and]
  exact decide_eq_true (by omega)
@[simp] theorem cl_none (n : Nat) : cl n .none = true := by cases n <;> rfl
@[simp] theorem cl_int (n : Nat) (i : Int) : cl n (.int i) = true := by cases n <;> rfl
@[simp] theorem cl_bool (n : Nat) (i : Bool) : cl n (.bool i) = true := by cases n <;> rfl
@[simp] theorem cl_l (n : Nat) (xs : List D) : cl (n + 1) (.list xs) = xs.all (cl n) := by simp [cl]
@[simp] theorem cl_t (n : Nat) (xs : List D) : cl (n + 1) (.tuple xs) = xs.all (cl n) := by simp [cl]
theorem cl_s (n : Nat) (x : Str) (h : PyData.canLay0 (.str x) = true) : cl n (.str x) = true := by cases n <;> exact h
theorem eqD_cl {d e : D} (h : cl 20 d = true) (h2 : cl 20 e = true) : eqD d e = some (.bool (PyData.eqv d e)) := by
  unfold eqD; rw [if_pos ⟨cl_shaped h, cl_shaped h2⟩]
theorem neD_cl {d e : D} (h : cl 20 d = true) (h2 : cl 20 e = true) : neD d e = some (.bool (!PyData.eqv d e)) := by
  unfold neD; rw [if_pos ⟨cl_shaped h, cl_shaped h2⟩]
theorem inE_t {d : D} {ds : List D} (h : cl 20 d = true) (h2 : cl 20 (.tuple ds) = true) : inE d (.tuple ds) = some (.bool (ds.any fun z => PyData.eqv z d)) := by
  unfold inE inD; simp only [if_pos (And.intro (cl_shaped h) (cl_shaped h2))]; rfl
theorem inE_l {d : D} {ds : List D} (h : cl 20 d = true) (h2 : cl 20 (.list ds) = true) : inE d (.list ds) = some (.bool (ds.any fun z => PyData.eqv z d)) := by
  unfold inE inD; simp only [if_pos (And.intro (cl_shaped h) (cl_shaped h2))]; rfl
theorem ninE_t {d : D} {ds : List D} (h : cl 20 d = true) (h2 : cl 20 (.tuple ds) = true) : notInE d (.tuple ds) = some (.bool (!ds.any fun z => PyData.eqv z d)) := by
  unfold notInE inD; simp only [if_pos (And.intro (cl_shaped h) (cl_shaped h2))]; rfl
theorem ninE_l {d : D} {ds : List D} (h : cl 20 d = true) (h2 : cl 20 (.list ds) = true) : notInE d (.list ds) = some (.bool (!ds.any fun z => PyData.eqv z d)) := by
  unfold notInE inD; simp only [if_pos (And.intro (cl_shaped h) (cl_shaped h2))]; rfl
@[simp] theorem eqD_ii (i j : Int) : eqD (.int i) (.int j) = some (.bool (i == j)) := by rw [eqD_cl (cl_int _ _) (cl_int _ _)]; simp [PyData.eqv]
@[simp] theorem neD_ii (i j : Int) : neD (.int i) (.int j) = some (.bool (!(i == j))) := by rw [neD_cl (cl_int _ _) (cl_int _ _)]; simp [PyData.eqv]
@[simp] theorem eqD_bb (i j : Bool) : eqD (.bool i) (.bool j) = some (.bool (i == j)) := by rw [eqD_cl (cl_bool _ _) (cl_bool _ _)]; simp [PyData.eqv]
@[simp] theorem neD_bb (i j : Bool) : neD (.bool i) (.bool j) = some (.bool (!(i == j))) := by rw [neD_cl (cl_bool _ _) (cl_bool _ _)]; simp [PyData.eqv]
theorem eqv_self {d : D} (h : cl 20 d = true) : PyData.eqv d d = true := SeqAt.eqv_refl d (cl_ok 20 d h).1
theorem eqD_self {d : D} (h : cl 20 d = true) : eqD d d = some (.bool true) := by rw [eqD_cl h h, eqv_self h]
theorem neD_self {d : D} (h : cl 20 d = true) : neD d d = some (.bool false) := by rw [neD_cl h h, eqv_self h]; rfl
theorem eqD_nil {xs : List D} (h : cl 20 (.list xs) = true) : eqD (.list xs) (.list []) = some (.bool xs.isEmpty) := by
  rw [eqD_cl h (by rfl)]
  cases xs <;> simp [PyData.eqv, PyData.eqvAll]
theorem neD_nil {xs : List D} (h : cl 20 (.list xs) = true) : neD (.list xs) (.list []) = some (.bool (!xs.isEmpty)) := by
  rw [neD_cl h (by rfl)]
  cases xs <;> simp [PyData.eqv, PyData.eqvAll]
end DL

set_option maxHeartbeats 1000000
/-! PL1: objects and memos, evaluated. -/
namespace DL
open PySem PySem.Spec L2
@[simp] theorem vqE_z (d : D) (ρ : Env) : vqE 0 (some d :: ρ) = .ok d := nr rfl
@[simp] theorem vqE_s (i : Nat) (x : Option D) (ρ : Env) : vqE (i + 1) (x :: ρ) = vqE i ρ := by unfold vqE; rw [List.getElem?_cons_succ]
@[simp] theorem fldE_ap (cns : List Str) (f : Str) (fe : EF) (ρ : Env) : fldE cns f fe ρ = ((fe ρ).bind fun d => fldO cns f (objOf d)).bind okD := nr rfl
@[simp] theorem fldQ_ap (cns : List Str) (f : Str) (fe : EF) (ρ : Env) : fldQ cns f fe ρ = (fe ρ).bind fun d => fldO cns f (objOf d) := nr rfl
@[simp] theorem methE_ap (cn m : Str) (g : List D → R D) (fe : EF) (fa : AF) (ρ : Env) : methE cn m g fe fa ρ = (fe ρ).bind fun d => if methO cn m (objOf d) = true then (fa ρ).bind fun ds => g (d :: ds) else .bad := by
  unfold methE bE
  congr 1
  funext d
  by_cases h : methO cn m (objOf d) = true
  · simp only [if_pos h]
  · simp only [if_neg h]
section
variable {c : Str} {T G pl k : D}
theorem objOf_ctr : objOf (ctrD c T G pl k) = some (c, ([("tiles", T), ("goal", G), ("places", pl), ("columns", k)] : List (Str × D))) := objOf_obj _ _
theorem ne_s {a b : Str} (h : decide (a = b) = false) : (a == b) = false := by
  rw [beq_eq_false_iff_ne]
  exact of_decide_eq_false h
@[simp] theorem fldO_tiles : fldO [c] "tiles" (objOf (ctrD c T G pl k)) = .ok T := by
  rw [objOf_ctr]
  simp [fldO, List.lookup_cons]
@[simp] theorem fldO_goal : fldO [c] "goal" (objOf (ctrD c T G pl k)) = .ok G := by
  rw [objOf_ctr]
  simp [fldO, List.lookup_cons, ne_s (show decide (("goal" : Str) = "tiles") = false by decide +kernel)]
@[simp] theorem fldO_places : fldO [c] "places" (objOf (ctrD c T G pl k)) = .ok pl := by
  rw [objOf_ctr]
  simp [fldO, List.lookup_cons, ne_s (show decide (("places" : Str) = "tiles") = false by decide +kernel), ne_s (show decide (("places" : Str) = "goal") = false by decide +kernel)]
@[simp] theorem fldO_columns : fldO [c] "columns" (objOf (ctrD c T G pl k)) = .ok k := by
  rw [objOf_ctr]
  simp [fldO, List.lookup_cons, ne_s (show decide (("columns" : Str) = "tiles") = false by decide +kernel), ne_s (show decide (("columns" : Str) = "goal") = false by decide +kernel), ne_s (show decide (("columns" : Str) = "places") = false by decide +kernel)]
theorem methO_ctr {m : Str} (h1 : decide (m = "tiles") = false) (h2 : decide (m = "goal") = false) (h3 : decide (m = "places") = false) (h4 : decide (m = "columns") = false) (h5 : decide (m = "known") = false) : methO c m (objOf (ctrD c T G pl k)) = true := by
  rw [objOf_ctr]
  simp [methO, List.lookup_cons, ne_s h1, ne_s h2, ne_s h3, ne_s h4, of_decide_eq_false h5]
@[simp] theorem methO_ways : methO c "ways" (objOf (ctrD c T G pl k)) = true := methO_ctr (by decide +kernel) (by decide +kernel) (by decide +kernel) (by decide +kernel) (by decide +kernel)
@[simp] theorem methO_fitting : methO c "fitting" (objOf (ctrD c T G pl k)) = true := methO_ctr (by decide +kernel) (by decide +kernel) (by decide +kernel) (by decide +kernel) (by decide +kernel)
@[simp] theorem methO_moved : methO c "moved_on" (objOf (ctrD c T G pl k)) = true := methO_ctr (by decide +kernel) (by decide +kernel) (by decide +kernel) (by decide +kernel) (by decide +kernel)
@[simp] theorem clsIs_ctr : clsIs c (ctrD c T G pl k) = true := by
  unfold clsIs
  rw [objOf_ctr]
  simp
theorem lenP_ctr {l : List D} : lenP "places" (ctrD c T G (.list l) k) = l.length := by
  unfold lenP
  rw [objOf_ctr]
  simp [List.lookup_cons, ne_s (show decide (("places" : Str) = "tiles") = false by decide +kernel), ne_s (show decide (("places" : Str) = "goal") = false by decide +kernel)]
end
theorem keyD_nums {a : Nat} {l : List Nat} (ha : a < 9) (hl : l.length ≤ 4) (hx : ∀ x ∈ l, x < 16) : (keyD (.tuple [.int (a : Nat), .tuple (l.map fun i => .int (i : Nat))])).isSome = true := by
  have h : ∀ m : List Nat, (∀ x ∈ m, x < 16) → natsOf (m.map fun i => .int (i : Nat)) = some m := fun m => by
    induction m with
    | nil => intro _; rfl
    | cons x m ih =>
      intro hm
      have hx : x < 16 := hm x List.mem_cons_self
      show (natOf (.int (x : Nat))).bind _ = _
      rw [show natOf (.int (x : Nat)) = some x by simp only [natOf]; rw [if_pos (by omega)]; rfl, ih fun y hy => hm y (List.mem_cons_of_mem _ hy)]
      rfl
  unfold keyD
  simp only
  rw [if_pos ⟨by omega, by omega, by simpa using hl⟩, h l hx]
  rfl
@[simp] theorem outM_rt (d : D) (ρ : Env) : outM (.rt d ρ) = .ok d := nr rfl
@[simp] theorem memoS_ap (cn : Str) (G : D → D → R D) (cond : D → D → Bool) (m : Nat) (d0 k1 k2 : D) (r : Env) : memoS cn G cond m (some d0 :: some k1 :: some k2 :: r) = memoO (r.length + 3) (clsIs cn d0 && (keyD (.tuple [k1, k2])).isSome && cond d0 (.tuple [k1, k2]) && (r.all (·.isNone) && decide (r.length = m))) (G d0 (.tuple [k1, k2])) := nr rfl
@[simp] theorem memoO_ok (m : Nat) (d : D) (h : noList d = true) : memoO m true (.ok d) = .rt d (List.replicate m none) := by
  unfold memoO
  rw [if_pos rfl]
  simp [h]
@[simp] theorem noList_i (i : Int) : noList (.int i) = true := nr rfl
@[simp] theorem newO_ap (cn : Str) (g : D → R (D × D)) (T G : D) : newO cn g [T, G] = (g G).noErr.bind fun pc => .ok (ctrD cn T G pc.1 pc.2) := nr rfl
@[simp] theorem gIof_ap (f3 f4 : EF) (G : D) : gIof f3 f4 G = (f3 [none, none, some G]).noErr.bind fun pl => (f4 [none, none, some G]).noErr.bind fun c => .ok (pl, c) := nr rfl
theorem plainE_of {ρ : Env} (h : ∀ d, some d ∈ ρ → okD d = .ok d) : plainE ρ = true := by
  unfold plainE
  rw [List.all_eq_true]
  intro o ho
  cases o with
  | none => rfl
  | some d => simp only [h d ho]
@[simp] theorem plainE_nil : plainE [] = true := nr rfl
@[simp] theorem plainE_none (ρ : Env) : plainE (none :: ρ) = plainE ρ := by simp [plainE]
theorem plainE_some {d : D} (ρ : Env) (h : okD d = .ok d) : plainE (some d :: ρ) = plainE ρ := by simp [plainE, h]
@[simp] theorem mkmE_ap (cn m : Str) (gI : D → R (D × D)) (fa fb : AF) (gm : List D → R D) (ρ : Env) : mkmE cn m gI fa fb gm ρ = if plainE ρ = true then ((fa ρ).noErr.bind (newO cn gI)).bind fun d => if m ≠ ("known" : Str) ∧ m ∉ (["tiles", "goal", "places", "columns"] : List Str) then (fb ρ).noErr.bind fun es => gm (d :: es) else .bad else .bad := nr rfl
end DL

set_option maxHeartbeats 1000000
/-! PL2: kept exceptions, evaluated. -/
namespace DL
open PySem PySem.Spec L2
@[simp] theorem ownK_ap (g : List D → R D) (fa : AF) (ρ : Env) : ownK g fa ρ = (fa ρ).noErr.bind g := nr rfl
@[simp] theorem ifK_ap (t : TF) (a b : EF) (ρ : Env) : ifK t a b ρ = (t ρ).noErr.bind fun c => if c = true then a ρ else b ρ := nr rfl
@[simp] theorem lmE_ap (g : D → D → Option D) (fo fe : EF) (ρ : Env) : lmE g fo fe ρ = (fo ρ).bind fun a => if isL a = true then (fe ρ).bind fun b => R.of (g a b) else .bad := by
  unfold lmE bE
  congr 1
  funext a
  by_cases h : isL a = true
  · simp only [if_pos h]; rfl
  · simp only [if_neg h]
@[simp] theorem isL_l (xs : List D) : isL (.list xs) = true := nr rfl
@[simp] theorem exIsE_ap (tbl : List (Str × Bool)) (f : EF) (ρ : Env) : exIsE tbl f ρ = (f ρ).bind fun d => R.of ((excOf d).bind fun c => (tbl.lookup c).map .bool) := nr rfl
@[simp] theorem isNT_ap (f : EF) (ρ : Env) : isNT f ρ = (f ρ).bind fun d => R.of (isNQ d) := nr rfl
@[simp] theorem excOf_exc (c : Str) : excOf (excD c) = some c := by
  unfold excOf excD
  simp
@[simp] theorem isNQ_exc (c : Str) : isNQ (excD c) = some false := by
  unfold isNQ
  rw [excOf_exc]
@[simp] theorem isNQ_none : isNQ .none = some true := by rfl
@[simp] theorem fzAll_nil : fzAll [] = true := nr rfl
@[simp] theorem fzAll_fz (w : List Sh) : fzAll (.fz :: w) = fzAll w := nr rfl
theorem tryS_ok {w : List Sh} {ia ie ik : Nat} {cs : List Str} {f : EF} {ρ : Env} {d : D} (hw : fzAll w = true) (h : f ρ = .ok d) : tryS w ia ie ik cs f ρ = .nx (ρ.set ia (some d)) := by
  unfold tryS
  rw [if_pos hw, h]
theorem tryS_err {w : List Sh} {ia ie ik : Nat} {cs : List Str} {f : EF} {ρ : Env} {c : Str} (hw : fzAll w = true) (h : f ρ = .err c) (hc : c ∈ cs) : tryS w ia ie ik cs f ρ = .nx (((ρ.set ie none).set ik (some (excD c))).set ie none) := by
  unfold tryS
  rw [if_pos hw, h]
  simp only [if_pos hc]
end DL

set_option maxHeartbeats 1000000
/-! PL3: owned lists of lists, evaluated. -/
namespace DL
open PySem PySem.Spec L2
@[simp] theorem mulNA_ap (a b : EF) (ρ : Env) : mulNA a b ρ = (a ρ).bind fun x => (b ρ).bind fun y => R.of (mulLD x y) := nr rfl
@[simp] theorem mulLD_l (ds : List D) (n : Int) : mulLD (.list ds) (.int n) = if 0 ≤ n ∧ n < 1000 ∧ ds.length * n.toNat ≤ 1000000 then some (List.replicate n.toNat ds).flatten else none := nr rfl
theorem mulLD_one (d : D) (n : Nat) (h : n < 1000) : mulLD (.list [d]) (.int (n : Nat)) = some ((List.range n).map fun _ => d) := by
  rw [mulLD_l, if_pos ⟨by omega, by omega, by simp; omega⟩]
  congr 1
  simp only [Int.toNat_natCast]
  clear h
  induction n with
  | zero => rfl
  | succ n ih => rw [List.replicate_succ', List.flatten_append, ih, List.range_succ, List.map_append]; rfl
def newLO (i : Nat) (ρ : Env) : Option (List (List (Option Int))) → Out
  | some xss => .nx (ρ.set i (some (llD xss)))
  | none => .bad
@[simp] theorem newLO_s (i : Nat) (ρ : Env) (xss : List (List (Option Int))) : newLO i ρ (some xss) = .nx (ρ.set i (some (llD xss))) := nr rfl
@[simp] theorem newL_ap (w : List Sh) (i : Nat) (f : AF) (ρ : Env) : newL w i f ρ = runR (f (hidA w ρ)) ρ fun es => newLO i ρ (llOf es) := nr rfl
def setLO2 (i : Nat) (ρ : Env) (xss : List (List (Option Int))) (g : R D) (d : D) : Option (Nat × List (Option Int)) → Out
  | some (j, xs) => runR g ρ fun b => putL ρ i xss j xs b d
  | none => .bad
@[simp] theorem setLO2_s (i : Nat) (ρ : Env) (xss : List (List (Option Int))) (g : R D) (d : D) (j : Nat) (xs : List (Option Int)) : setLO2 i ρ xss g d (some (j, xs)) = runR g ρ fun b => putL ρ i xss j xs b d := nr rfl
def setLO (i : Nat) (ρ : Env) (re ra rb : R D) : D → Out := fun dl => match llDe dl with
  | some xss => runR re ρ fun d => runR ra ρ fun a => setLO2 i ρ xss rb d (rowAt xss a)
  | none => .bad
@[simp] theorem setLO_l (i : Nat) (ρ : Env) (re ra rb : R D) (xss : List (List (Option Int))) : setLO i ρ re ra rb (llD xss) = runR re ρ fun d => runR ra ρ fun a => setLO2 i ρ xss rb d (rowAt xss a) := by
  unfold setLO
  rw [llDe_ll]
@[simp] theorem setLL_ap (w : List Sh) (i : Nat) (fe fa fb : EF) (ρ : Env) : setLL w i fe fa fb ρ = atSlot ρ i (setLO i ρ (fe (hidA w ρ)) (fa (hidA w ρ)) (fb (hidA w ρ))) := nr rfl
@[simp] theorem okD_ll (xss : List (List (Option Int))) : okD (llD xss) = .ok (llD xss) := nr rfl
@[simp] theorem seq_ll (xss : List (List (Option Int))) : seqOf (llD xss) = some (xss.map lsD) := nr rfl
theorem llOf_mapf {α : Type} (g : α → List (Option Int)) (l : List α) : llOf (l.map fun x => lsD (g x)) = some (l.map g) := by
  have := llOf_map (l.map g)
  rw [List.map_map] at this
  exact this
def setO (ρ : Env) (i : Nat) (ds : List D) (d : D) : Option Nat → Out
  | some j => if noList d = true then .nx (ρ.set i (some (.list (ds.set j d)))) else .bad
  | none => .bad
@[simp] theorem setO_s (ρ : Env) (i : Nat) (ds : List D) (d : D) (j : Nat) : setO ρ i ds d (some j) = if noList d = true then .nx (ρ.set i (some (.list (ds.set j d)))) else .bad := nr rfl
def setK (ρ : Env) (i : Nat) (ds : List D) (d x : D) : Out := match intD x with
  | some k => setO ρ i ds d (ixN ds.length k)
  | none => .bad
@[simp] theorem setK_n (ρ : Env) (i : Nat) (ds : List D) (d : D) (k : Nat) (h : k < ds.length) : setK ρ i ds d (.int (k : Nat)) = if noList d = true then .nx (ρ.set i (some (.list (ds.set k d)))) else .bad := by
  unfold setK
  simp only [intD]
  rw [ixN_nat h, setO_s]
@[simp] theorem setS_ap (w : List Sh) (i : Nat) (f fi : EF) (ρ : Env) : setS w i f fi ρ = runR (f (hidO w ρ)) ρ fun d => lsAt ρ i fun ds => runR (fi (hidO w ρ)) ρ fun x => setK ρ i ds d x := nr rfl
theorem cut_neg1 {α : Type} (xs : List α) : cutD xs none (some (-1)) = xs.take (xs.length - 1) := by
  unfold cutD
  rw [HT.sIx_none]
  have e : HT.sIx xs.length xs.length (some (-1)) = xs.length - 1 := by
    show ((-1 : Int) + (xs.length : Int)).toNat = _
    omega
  rw [e]
  simp
theorem cut_snoc {α : Type} (xs : List α) (x : α) : cutD (xs ++ [x]) none (some (-1)) = xs := by
  rw [cut_neg1]
  simp
section
variable {tgf : TGF} {body : SF} {ks : List Nat}
/-- a loop whose state is told by how many turns are done -/
theorem for_seq {α : Type} (E : Nat → Env) (e : α → D) : ∀ (xs : List α) (k : Nat) {ds : List D} {ρ : Env}, ds = xs.map e → ρ = E k → (∀ i x, xs[i]? = some x → turnL tgf body ks (e x) (E (k + i)) = .nx (E (k + i + 1))) → forL tgf body ks ds ρ = .nx (E (k + xs.length))
  | [], k, ds, ρ, hd, hρ, _ => by rw [hd, hρ]; rfl
  | x :: xs, k, ds, ρ, hd, hρ, h => by
    have h0 : turnL tgf body ks (e x) (E k) = .nx (E (k + 1)) := h 0 x rfl
    rw [hd, hρ, List.map_cons, forL_nx h0, for_seq E e xs (k + 1) rfl rfl fun i y hy => ?_]
    · rw [List.length_cons, show k + (xs.length + 1) = k + 1 + xs.length by omega]
    · have := h (i + 1) y (by simpa using hy)
      rw [show k + (i + 1) = k + 1 + i by omega] at this
      exact this
theorem for_rng (E : Nat → Env) (n : Nat) {ds : List D} {ρ : Env} (hd : ds = (List.range n).map fun i => .int (i : Nat)) (hρ : ρ = E 0) (h : ∀ i, i < n → turnL tgf body ks (.int (i : Nat)) (E i) = .nx (E (i + 1))) : forL tgf body ks ds ρ = .nx (E n) := by
  have := for_seq (tgf := tgf) (body := body) (ks := ks) E (fun i : Nat => PyData.int (i : Nat)) (List.range n) 0 hd hρ fun i x hx => by
    have hi : i < n := by simpa using (List.getElem?_eq_some_iff.mp hx).1
    rw [List.getElem?_range hi] at hx
    cases hx
    rw [Nat.zero_add]
    exact h i hi
  rw [Nat.zero_add, List.length_range] at this
  exact this
theorem rng_snoc {α : Type} (n : Nat) (f : Nat → α) : (List.range (n + 1)).map f = (List.range n).map f ++ [f n] := by rw [List.range_succ, List.map_append]; rfl
end
@[simp] theorem lenSetE_ap (f : EF) (ρ : Env) : lenSetE f ρ = (f ρ).bind fun d => R.of (lenSetD d) := nr rfl
@[simp] theorem dspE_ap (f1 g1 f2 g2 fk fz : EF) (ρ : Env) : dspE f1 g1 f2 g2 fk fz ρ = (f1 ρ).bind fun k1 => (g1 ρ).bind fun v1 => (f2 ρ).bind fun k2 => (g2 ρ).bind fun v2 => (R.of (keys2 k1 k2)).bind fun q => (fk ρ).bind fun k => (fz ρ).bind fun z => R.of (dspD q v1 v2 k z) := nr rfl
@[simp] theorem keys2_ii (a b c d : Int) : keys2 (.tuple [.int a, .int b]) (.tuple [.int c, .int d]) = some ((a, b), (c, d)) := nr rfl
@[simp] theorem dspD_ii (q : (Int × Int) × (Int × Int)) (v1 v2 z : D) (a b : Int) : dspD q v1 v2 (.tuple [.int a, .int b]) z = some (if (a, b) = q.2 then v2 else if (a, b) = q.1 then v1 else z) := nr rfl
@[simp] theorem mixS_ap (w : List Sh) (js : List Nat) (f : MF) (ρ : Env) : mixS w js f ρ = runR (f (hidA w ρ)) ρ fun ms => if ms.length ≤ 1000000 then .nx (setMv ρ js ms) else .bad := nr rfl
@[simp] theorem nilM_ap (ρ : Env) : nilM ρ = .ok [] := nr rfl
@[simp] theorem consMd_ap (a : EF) (r : MF) (ρ : Env) : consMd a r ρ = (a ρ).bind fun x => (r ρ).bind fun ms => .ok (.d x :: ms) := nr rfl
@[simp] theorem consMn_ap (a : AF) (r : MF) (ρ : Env) : consMn a r ρ = (a ρ).bind fun x => (r ρ).bind fun ms => .ok (.n x :: ms) := nr rfl
@[simp] theorem setMv_nil (ρ : Env) : setMv ρ [] [] = ρ := nr rfl
@[simp] theorem setMv_d (ρ : Env) (j : Nat) (js : List Nat) (x : D) (ms : List MV) : setMv ρ (j :: js) (.d x :: ms) = setMv (ρ.set j (some x)) js ms := nr rfl
@[simp] theorem setMv_n (ρ : Env) (j : Nat) (js : List Nat) (xs : List D) (ms : List MV) : setMv ρ (j :: js) (.n xs :: ms) = setMv (ρ.set j (some (.list xs))) js ms := nr rfl
@[simp] theorem popApp_ap (w : List Sh) (i j : Nat) (fe : EF) (ρ : Env) : popApp w i j fe ρ = lsAt ρ i fun ds => lsAt ρ j fun es => runR (fe (hidO w ρ)) ρ fun d => popK ρ i j ds es d := nr rfl
theorem popK_n (ρ : Env) (i j : Nat) (ds es : List D) (k : Nat) (h : k < es.length) (h2 : k < 1000000) (h3 : ds.length < 1000000) : popK ρ i j ds es (.int (k : Nat)) = .nx ((ρ.set j (some (.list (es.eraseIdx k)))).set i (some (.list (ds ++ [es[k]])))) := by
  unfold popK
  show (if 0 ≤ (k : Int) ∧ (k : Int) < (es.length : Int) ∧ (k : Int) < 1000000 then popO ρ i j ds es (k : Int).toNat es[(k : Int).toNat]? else .bad) = _
  rw [if_pos (by omega), Int.toNat_natCast, List.getElem?_eq_getElem h]
  unfold popO
  simp only [h3, if_true]
@[simp] theorem whileS_ap (w : List Sh) (n : Nat) (t : TF) (body : SF) (ks : List Nat) (ρ : Env) : whileS w n t body ks ρ = whileL w t body ks n (killE ρ ks) := nr rfl
/-- a while whose state is told by how many turns are done -/
theorem while_n {w : List Sh} {t : TF} {body : SF} {ks : List Nat} (E : Nat → Env) (m : Nat) : ∀ (n k : Nat) {ρ : Env}, ρ = E k → k ≤ m → m < n + k → (∀ i, i < m → t (hidO w (E i)) = .ok true ∧ ∃ ρ', body (E i) = .nx ρ' ∧ killE ρ' ks = E (i + 1)) → t (hidO w (E m)) = .ok false → whileL w t body ks n ρ = .nx (E m)
  | 0, k, ρ, _, h1, h2, _, _ => by omega
  | n + 1, k, ρ, he, h1, h2, h, h0 => by
    subst he
    by_cases hk : k = m
    · subst hk
      unfold whileL
      rw [h0]
      rfl
    · obtain ⟨ht, ρ', hb, hk2⟩ := h k (by omega)
      unfold whileL
      rw [ht]
      simp only [runR, if_true, hb]
      rw [hk2]
      exact while_n E m n (k + 1) rfl (by omega) (by omega) h h0
@[simp] theorem newB_ap (w : List Sh) (i : Nat) (f : AF) (ρ : Env) : newB w i f ρ = runR (f (hidO w ρ)) ρ fun ds => if noListA ds = true then .nx (ρ.set i (some (.list ds))) else .bad := nr rfl
def forOk (ρ : Env) (tgf : TGF) (body : SF) (ks : List Nat) : Option (List D) → Out
  | some xs => forL tgf body ks xs (killE ρ ks)
  | none => .bad
@[simp] theorem forOk_s (ρ : Env) (tgf : TGF) (body : SF) (ks : List Nat) (xs : List D) : forOk ρ tgf body ks (some xs) = forL tgf body ks xs (killE ρ ks) := nr rfl
@[simp] theorem forO_ap (w : List Sh) (fa : AF) (g : List D → R D) (tgf : TGF) (body : SF) (ks : List Nat) (ρ : Env) : forO w fa g tgf body ks ρ = runR (fa (hidO w ρ)) ρ fun ds => if noListA ds = true then runR (g ds) ρ fun d => forOk ρ tgf body ks (seqOf d) else .bad := nr rfl
end DL

set_option maxHeartbeats 1000000
/-! PL4: an object that holds a counter, evaluated. -/
namespace DL
open PySem PySem.Spec L2
section
variable {cn : Str} {c L W : D}
theorem objOf_men : objOf (menD cn c L W) = some (cn, ([("counter", c), ("laid", L), ("weights", W)] : List (Str × D))) := objOf_obj _ _
@[simp] theorem fldO_counter : fldO [cn] "counter" (objOf (menD cn c L W)) = .ok c := by
  rw [objOf_men]
  simp [fldO, List.lookup_cons]
@[simp] theorem fldO_laid : fldO [cn] "laid" (objOf (menD cn c L W)) = .ok L := by
  rw [objOf_men]
  simp [fldO, List.lookup_cons, ne_s (show decide (("laid" : Str) = "counter") = false by decide +kernel)]
@[simp] theorem fldO_weights : fldO [cn] "weights" (objOf (menD cn c L W)) = .ok W := by
  rw [objOf_men]
  simp [fldO, List.lookup_cons, ne_s (show decide (("weights" : Str) = "counter") = false by decide +kernel), ne_s (show decide (("weights" : Str) = "laid") = false by decide +kernel)]
theorem methO_men {m : Str} (h1 : decide (m = "counter") = false) (h2 : decide (m = "laid") = false) (h3 : decide (m = "weights") = false) (h5 : decide (m = "known") = false) : methO cn m (objOf (menD cn c L W)) = true := by
  rw [objOf_men]
  simp [methO, List.lookup_cons, ne_s h1, ne_s h2, ne_s h3, of_decide_eq_false h5]
@[simp] theorem methO_best : methO cn "best" (objOf (menD cn c L W)) = true := methO_men (by decide +kernel) (by decide +kernel) (by decide +kernel) (by decide +kernel)
@[simp] theorem methO_reckoned : methO cn "reckoned" (objOf (menD cn c L W)) = true := methO_men (by decide +kernel) (by decide +kernel) (by decide +kernel) (by decide +kernel)
@[simp] theorem methO_way : methO cn "way" (objOf (menD cn c L W)) = true := methO_men (by decide +kernel) (by decide +kernel) (by decide +kernel) (by decide +kernel)
@[simp] theorem methO_cost_at : methO cn "cost_at" (objOf (menD cn c L W)) = true := methO_men (by decide +kernel) (by decide +kernel) (by decide +kernel) (by decide +kernel)
@[simp] theorem clsIs_men : clsIs cn (menD cn c L W) = true := by
  unfold clsIs
  rw [objOf_men]
  simp
theorem lenM_men : lenM "counter" "places" (menD cn c L W) = lenP "places" c := by
  unfold lenM
  rw [objOf_men]
  simp [List.lookup_cons]
end
@[simp] theorem mkmG_ap (m : Str) (ns : List Str) (new : List D → R D) (fa fb : AF) (gm : List D → R D) (ρ : Env) : mkmG m ns new fa fb gm ρ = if plainE ρ = true then ((fa ρ).noErr.bind fun ds => (new ds).noErr).bind fun d => if m ≠ ("known" : Str) ∧ m ∉ ns then (fb ρ).noErr.bind fun es => gm (d :: es) else .bad else .bad := nr rfl
@[simp] theorem newM_ap (cn cn2 : Str) (fa : AF) (gI : D → R (D × D)) (T L W : D) : newM cn cn2 fa gI [T, L, W] = (fa [none, some T, some L, some W]).noErr.bind fun ds => (newO cn2 gI ds).bind fun c => .ok (menD cn c L W) := nr rfl
theorem pairs_map (ps : List (Int × Int)) : pairsOf' (ps.map pairD) = some ps := by
  induction ps with
  | nil => rfl
  | cons p ps ih =>
    rw [List.map_cons]
    show (pairsOf' (ps.map pairD)).map _ = _
    rw [ih]
    rfl
@[simp] theorem minL_c (p : Int × Int) (ps : List (Int × Int)) : minL [.list ((p :: ps).map pairD)] = some (pairD (minI p ps)) := by
  have h : pairsOf' ((p :: ps).map pairD) = some (p :: ps) := pairs_map _
  unfold minL
  simp only [h]
end DL

set_option maxHeartbeats 1000000
/-! PL5: min of a list of ints, evaluated. -/
namespace DL
open PySem PySem.Spec L2
theorem minLD_map {α : Type} (l : List α) (h : α → Int) (hl : l ≠ []) : ∃ m, minLD [.list (l.map fun x => .int (h x))] = some (.int m) ∧ (∃ x ∈ l, h x = m) ∧ ∀ x ∈ l, m ≤ h x := by
  cases l with
  | nil => exact absurd rfl hl
  | cons a l =>
    obtain ⟨h1, h2, h3⟩ := foldl_min_le (l.map h) (h a)
    refine ⟨(l.map h).foldl min (h a), ?_, ?_, ?_⟩
    · unfold minLD
      simp only [intsOf_mapf]
      rfl
    · rcases h3 with h3 | h3
      · exact ⟨a, List.mem_cons_self, h3.symm⟩
      · obtain ⟨x, hx, e⟩ := List.mem_map.mp h3
        exact ⟨x, List.mem_cons_of_mem _ hx, e⟩
    · intro x hx
      rcases List.mem_cons.mp hx with rfl | hx
      · exact h1
      · exact h2 _ (List.mem_map.mpr ⟨x, hx, rfl⟩)
@[simp] theorem bkS_ap (ρ : Env) : bkS ρ = .bk ρ := nr rfl
@[simp] theorem th_bk (ρ : Env) (g : SF) : (Out.bk ρ).then g = .bk ρ := nr rfl
@[simp] theorem kilO_bk (ks : List Nat) (ρ : Env) : kilO ks (.bk ρ) = .bk ρ := nr rfl
theorem forL_bk {tgf : TGF} {body : SF} {ks : List Nat} {d : D} {ds : List D} {ρ ρ' : Env} (h : turnL tgf body ks d ρ = .bk ρ') : forL tgf body ks (d :: ds) ρ = .nx ρ' := by
  rw [forL]
  unfold turnL turO at h
  cases e : tgf d with
  | none => rw [e] at h; cases h
  | some as =>
    rw [e] at h
    simp only at h ⊢
    cases e2 : body (setE ρ as) <;> rw [e2] at h <;> simp [kilO] at h ⊢
    rw [h]
/-! tuples whose object is known -/
@[simp] theorem ordOf_o (ds : List D) : ordOf (ordD ds) = some ds := ordOf_ord ds
@[simp] theorem ordE_ap (i : Nat) (ρ : Env) : ordE i ρ = (vqE i ρ).bind fun d => R.of ((ordOf d).map .tuple) := nr rfl
def ordIxO (fe : R D) : Option (List D) → R D
  | some ds => fe.bind fun b => R.of (ordIxD ds b)
  | none => .bad
@[simp] theorem ordIxO_s (fe : R D) (ds : List D) : ordIxO fe (some ds) = fe.bind fun b => R.of (ordIxD ds b) := nr rfl
@[simp] theorem ordIxE_ap (i : Nat) (fe : EF) (ρ : Env) : ordIxE i fe ρ = (vqE i ρ).bind fun d => ordIxO (fe ρ) (ordOf d) := by
  unfold ordIxE bE
  congr 1
  funext d
  show (match ordOf d with
    | some ds => bE fe fun b => oE (ordIxD ds b)
    | none => fun _ => R.bad) ρ = _
  cases ordOf d <;> rfl
theorem ordIxD_i (ns : List Int) (k : Int) (h : k ∈ ns) : ordIxD (ns.map .int) (.int k) = some (.int (ns.idxOf k : Nat)) := by
  have e := intsOf_mapf id ns
  simp only [id, List.map_id'] at e
  have e : intsOf (ns.map .int) = some ns := by simpa using intsOf_mapf id ns
  unfold ordIxD
  rw [e]
  simp only [if_pos h]
@[simp] theorem ordB_ap (w : List Sh) (i : Nat) (f : AF) (ρ : Env) : ordB w i f ρ = runR (f (hidO w ρ)) ρ fun ds => if noListA ds = true then .nx (ρ.set i (some (ordD ds))) else .bad := nr rfl
@[simp] theorem ordN1_l (xs : List D) : ordN1 [.list xs] = some xs := nr rfl
theorem sortTD_i (ns : List Int) : sortTD [.tuple (ns.map .int)] = some (.list ((sortN ns).map .int)) := by
  have e : intsOf (ns.map .int) = some ns := by simpa using intsOf_mapf id ns
  unfold sortTD
  simp only [e, Option.map_some]
end DL

set_option maxHeartbeats 1000000
/-! PL6: dicts whose keys are tuples of ints, evaluated. -/
namespace DL
open PySem PySem.Spec L2
@[simp] theorem newT_ap (i : Nat) (ρ : Env) : newT i ρ = .nx (ρ.set i (some (tupDic []))) := nr rfl
@[simp] theorem tupD_d (ρ : Env) (kvs : TKV) (k : TKV → Out) : tupD ρ (tupDic kvs) k = k kvs := by unfold tupD; rw [tupOf_dic]
@[simp] theorem tupOf_d (kvs : TKV) : tupOf (tupDic kvs) = some kvs := tupOf_dic kvs
theorem keyI_t (ns : List Int) : keyI (.tuple (ns.map .int)) = some ns := intsOf_ints ns
@[simp] theorem putTS_ap (w : List Sh) (i : Nat) (fk fe : EF) (ρ : Env) : putTS w i fk fe ρ = atSlot ρ i fun d => tupD ρ d fun kvs => runR (fe (hidA w ρ)) ρ fun v => runR (fk (hidA w ρ)) ρ fun k => putTO ρ i kvs v k := nr rfl
@[simp] theorem talTS_ap (w : List Sh) (i j : Nat) (fe : EF) (ρ : Env) : talTS w i j fe ρ = atSlot ρ i fun d => tupD ρ d fun kvs => runR (vE j (hidA w ρ)) ρ fun k => talTK k fun ns => runR (fe (hidA w ρ)) ρ fun m => talTO ρ i kvs ns m := nr rfl
def getTO (fk fz : R D) : Option TKV → R D
  | some kvs => fk.bind fun k => fz.bind fun z => R.of (getTD kvs k z)
  | none => .bad
@[simp] theorem getTO_s (fk fz : R D) (kvs : TKV) : getTO fk fz (some kvs) = fk.bind fun k => fz.bind fun z => R.of (getTD kvs k z) := nr rfl
@[simp] theorem getTE_ap (i : Nat) (fk fz : EF) (ρ : Env) : getTE i fk fz ρ = (vqE i ρ).bind fun d => getTO (fk ρ) (fz ρ) (tupOf d) := by
  unfold getTE bE
  congr 1
  funext d
  show (match tupOf d with
    | some kvs => bE fk fun k => bE fz fun z => oE (getTD kvs k z)
    | none => fun _ => R.bad) ρ = _
  cases tupOf d <;> rfl
@[simp] theorem lenTE_ap (i : Nat) (ρ : Env) : lenTE i ρ = (vqE i ρ).bind fun d => R.of ((tupOf d).map fun kvs => .int (kvs.length : Nat)) := nr rfl
theorem putT_len (kvs : TKV) (k : List Int) (v : D) : (putT kvs k v).length ≤ kvs.length + 1 := by
  unfold putT
  split <;> simp
theorem getT_put (kvs : TKV) (k : List Int) (v : D) (j : List Int) : getT (putT kvs k v) j = if j = k then some v else getT kvs j := by
  unfold putT
  by_cases ha : (kvs.any fun p => decide (p.1 = k)) = true
  · rw [if_pos ha]
    induction kvs with
    | nil => cases ha
    | cons p r ih =>
      unfold getT at ih ⊢
      by_cases hp : p.1 = k
      · by_cases hj : j = k
        · rw [if_pos hj, List.map_cons, if_pos hp, List.find?_cons_of_pos (by simp [hp, hj])]
          rfl
        · rw [if_neg hj, List.map_cons, if_pos hp, List.find?_cons_of_neg (by simp [hp, Ne.symm hj]), List.find?_cons_of_neg (by simp [hp, Ne.symm hj])]
          clear ih ha
          induction r with
          | nil => rfl
          | cons q r ih2 =>
            rw [List.map_cons]
            by_cases hq : q.1 = k
            · rw [if_pos hq, List.find?_cons_of_neg (by simp [hq, Ne.symm hj]), List.find?_cons_of_neg (by simp [hq, Ne.symm hj])]
              exact ih2
            · rw [if_neg hq]
              by_cases hqj : q.1 = j
              · rw [List.find?_cons_of_pos (by simpa using hqj), List.find?_cons_of_pos (by simpa using hqj)]
              · rw [List.find?_cons_of_neg (by simpa using hqj), List.find?_cons_of_neg (by simpa using hqj)]
                exact ih2
      · have ha2 : (r.any fun p => decide (p.1 = k)) = true := by simpa [hp] using ha
        rw [List.map_cons, if_neg hp]
        by_cases hpj : p.1 = j
        · rw [List.find?_cons_of_pos (by simpa using hpj), List.find?_cons_of_pos (by simpa using hpj), if_neg (fun z => hp (hpj.trans z))]
        · rw [List.find?_cons_of_neg (by simpa using hpj), List.find?_cons_of_neg (by simpa using hpj)]
          exact ih ha2
  · rw [if_neg ha]
    unfold getT
    rw [List.find?_append]
    by_cases hj : j = k
    · have hn : kvs.find? (fun p => decide (p.1 = j)) = none := by
        rw [List.find?_eq_none]
        intro x hx z
        exact ha (List.any_eq_true.mpr ⟨x, hx, by rw [← hj]; exact z⟩)
      rw [if_pos hj, hn]
      simp [hj]
    · rw [if_neg hj]
      cases e : kvs.find? (fun p => decide (p.1 = j)) with
      | some q => rfl
      | none => simp [Ne.symm hj]
end DL

set_option maxHeartbeats 1000000
/-! PL7: zip of three, read. -/
namespace DL
theorem zip3D_t (xs ys zs : List D) : zip3D [.tuple xs, .tuple ys, .tuple zs] = some (zip3L xs ys zs) := rfl
theorem zip3_range (n : Nat) (f g h : Nat → D) : zip3L ((List.range n).map f) ((List.range n).map g) ((List.range n).map h) = (List.range n).map fun i => .tuple [f i, g i, h i] := by
  unfold zip3L
  apply List.ext_getElem
  · simp
  · intro i h1 h2
    simp
end DL

set_option maxHeartbeats 1000000
/-! PL8: mirrors with an object that changes, read. -/
namespace DL
open PySem PySem.Spec L2
open PyProof.Rows hiding St
def rmb {α β : Type} (r : RM α) (f : α → Env → RM β) : RM β := match r with
  | .ok x ρ1 => f x ρ1
  | .err c ρ1 => .err c ρ1
  | .bad => .bad
@[simp] theorem rmb_ok {α β : Type} (x : α) (ρ : Env) (f : α → Env → RM β) : rmb (.ok x ρ) f = f x ρ := nr rfl
@[simp] theorem rmb_err {α β : Type} (c : Str) (ρ : Env) (f : α → Env → RM β) : rmb (.err c ρ) f = .err c ρ := nr rfl
@[simp] theorem rmb_bad {α β : Type} (f : α → Env → RM β) : rmb .bad f = .bad := nr rfl
@[simp] theorem bP_ap {α β : Type} (a : Env → RM α) (f : α → Env → RM β) (ρ : Env) : bP a f ρ = rmb (a ρ) f := nr rfl
def oM {α : Type} (o : Option α) (ρ : Env) : RM α := match o with
  | some a => .ok a ρ
  | none => .bad
@[simp] theorem oM_s {α : Type} (a : α) (ρ : Env) : oM (some a) ρ = .ok a ρ := nr rfl
@[simp] theorem oP_ap {α : Type} (o : Option α) (ρ : Env) : oP o ρ = oM o ρ := nr rfl
def rm {α : Type} (r : R α) (ρ : Env) : RM α := match r with
  | .ok d => .ok d ρ
  | .err c => .err c ρ
  | .bad => .bad
@[simp] theorem rm_ok {α : Type} (d : α) (ρ : Env) : rm (.ok d) ρ = .ok d ρ := nr rfl
@[simp] theorem rm_err {α : Type} (c : Str) (ρ : Env) : rm (α := α) (.err c) ρ = .err c ρ := nr rfl
def rmN (r : R D) (ρ : Env) : RM D := match r with
  | .ok d => if noList d = true then .ok d ρ else .bad
  | .err c => .err c ρ
  | .bad => .bad
@[simp] theorem rmN_ok (d : D) (ρ : Env) : rmN (.ok d) ρ = if noList d = true then .ok d ρ else .bad := nr rfl
@[simp] theorem rmN_err (c : Str) (ρ : Env) : rmN (.err c) ρ = .err c ρ := nr rfl
@[simp] theorem emA_ap (w : List Nat) (f : EF) (ρ : Env) : emA w f ρ = rm (f (hidKA w ρ)) ρ := by unfold emA rm; cases f (hidKA w ρ) <;> rfl
@[simp] theorem emV_ap (w : List Nat) (f : EF) (ρ : Env) : emV w f ρ = rmN (f (hidKO w ρ)) ρ := nr rfl
@[simp] theorem tmV_ap (w : List Nat) (f : TF) (ρ : Env) : tmV w f ρ = rm (f (hidKO w ρ)) ρ := by unfold tmV rm; cases f (hidKO w ρ) <;> rfl
@[simp] theorem hidKA_n (w : List Nat) : hidKA w [] = [] := by cases w <;> rfl
@[simp] theorem hidKA_w (ρ : Env) : hidKA [] ρ = ρ := by cases ρ <;> rfl
@[simp] theorem hidKA_0 (w : List Nat) (d : Option D) (ρ : Env) : hidKA (0 :: w) (d :: ρ) = d :: hidKA w ρ := nr rfl
@[simp] theorem hidKA_1 (w : List Nat) (d : Option D) (ρ : Env) : hidKA (1 :: w) (d :: ρ) = none :: hidKA w ρ := nr rfl
@[simp] theorem hidKA_2 (w : List Nat) (d : Option D) (ρ : Env) : hidKA (2 :: w) (d :: ρ) = none :: hidKA w ρ := nr rfl
@[simp] theorem hidKO_n (w : List Nat) : hidKO w [] = [] := by cases w <;> rfl
@[simp] theorem hidKO_w (ρ : Env) : hidKO [] ρ = ρ := by cases ρ <;> rfl
@[simp] theorem hidKO_0 (w : List Nat) (d : Option D) (ρ : Env) : hidKO (0 :: w) (d :: ρ) = d :: hidKO w ρ := nr rfl
@[simp] theorem hidKO_1 (w : List Nat) (d : Option D) (ρ : Env) : hidKO (1 :: w) (d :: ρ) = d :: hidKO w ρ := nr rfl
@[simp] theorem hidKO_2 (w : List Nat) (d : Option D) (ρ : Env) : hidKO (2 :: w) (d :: ρ) = none :: hidKO w ρ := nr rfl
@[simp] theorem op2P_ap (g : D → D → Option D) (a b : EM) (ρ : Env) : op2P g a b ρ = rmb (a ρ) fun x ρ1 => rmb (b ρ1) fun y ρ2 => oM (g x y) ρ2 := nr rfl
@[simp] theorem nilP_ap (ρ : Env) : nilP ρ = .ok [] ρ := nr rfl
@[simp] theorem consP_ap (a : EM) (r : AM) (ρ : Env) : consP a r ρ = rmb (a ρ) fun x ρ1 => rmb (r ρ1) fun xs ρ2 => .ok (x :: xs) ρ2 := nr rfl
@[simp] theorem tupP_ap (a : AM) (ρ : Env) : tupP a ρ = rmb (a ρ) fun xs ρ1 => if xs.length ≤ 1000000 then .ok (.tuple xs) ρ1 else .bad := by
  show rmb (a ρ) _ = rmb (a ρ) _
  congr 1
  funext xs ρ1
  split <;> rfl
@[simp] theorem testP_ap (a : EM) (ρ : Env) : testP a ρ = rmb (a ρ) fun x ρ1 => oM (boolD x) ρ1 := nr rfl
@[simp] theorem orP_ap (a b : TM) (ρ : Env) : orP a b ρ = rmb (a ρ) fun x ρ1 => if x = true then .ok true ρ1 else b ρ1 := by
  show rmb (a ρ) _ = rmb (a ρ) _
  congr 1
  funext xs ρ1
  split <;> rfl
@[simp] theorem andP_ap (a b : TM) (ρ : Env) : andP a b ρ = rmb (a ρ) fun x ρ1 => if x = true then b ρ1 else .ok false ρ1 := by
  show rmb (a ρ) _ = rmb (a ρ) _
  congr 1
  funext xs ρ1
  split <;> rfl
@[simp] theorem notP_ap (a : TM) (ρ : Env) : notP a ρ = rmb (a ρ) fun x ρ1 => .ok (!x) ρ1 := nr rfl
@[simp] theorem ifeP_ap (t : TM) (a b : EM) (ρ : Env) : ifeP t a b ρ = rmb (t ρ) fun c ρ1 => if c = true then a ρ1 else b ρ1 := by
  show rmb (t ρ) _ = rmb (t ρ) _
  congr 1
  funext xs ρ1
  split <;> rfl
@[simp] theorem outX_ok {α : Type} (x : α) (ρ : Env) (k : α → Env → Out) : outX (.ok x ρ) k = k x ρ := nr rfl
@[simp] theorem outX_err {α : Type} (c : Str) (ρ : Env) (k : α → Env → Out) : outX (.err c ρ) k = .err c ρ := nr rfl
@[simp] theorem stS_ap (f : EM) (ρ : Env) : stS f ρ = outX (f ρ) fun _ ρ1 => .nx ρ1 := nr rfl
@[simp] theorem retP_ap (f : EM) (ρ : Env) : retP f ρ = outX (f ρ) fun d ρ1 => .rt d ρ1 := nr rfl
@[simp] theorem ifP_ap (t : TM) (a b : SF) (ρ : Env) : ifP t a b ρ = outX (t ρ) fun k ρ1 => if k = true then a ρ1 else b ρ1 := nr rfl
@[simp] theorem asgP_ap (i : Nat) (f : EM) (ρ : Env) : asgP i f ρ = outX (f ρ) fun d ρ1 => .nx (ρ1.set i (some d)) := nr rfl
/-- at the object in a slot -/
def atO {α : Type} (P : PC) (o : Option (Option D)) (k : D × D × List D × List D → RM α) : RM α := match o with
  | some (some d) => (match pntOf P d with
    | some q => k q
    | none => .bad)
  | _ => .bad
@[simp] theorem atO_p {α : Type} (P : PC) (T S : D) (ps gs : List D) (k : D × D × List D × List D → RM α) : atO P (some (some (pntD P T S ps gs))) k = k (T, S, ps, gs) := by
  show (match pntOf P (pntD P T S ps gs) with
    | some q => k q
    | none => .bad) = _
  rw [pntOf_pnt]
@[simp] theorem atP_ap {α : Type} (P : PC) (i : Nat) (k : D × D × List D × List D → Env → RM α) (ρ : Env) : atP P i k ρ = atO P ρ[i]? fun q => k q ρ := nr rfl
@[simp] theorem fld1M_ap (P : PC) (i : Nat) (ρ : Env) : fld1M P i ρ = atO P ρ[i]? fun q => .ok q.1 ρ := nr rfl
@[simp] theorem fld2M_ap (P : PC) (i : Nat) (ρ : Env) : fld2M P i ρ = atO P ρ[i]? fun q => .ok q.2.1 ρ := nr rfl
@[simp] theorem len3M_ap (P : PC) (i : Nat) (ρ : Env) : len3M P i ρ = atO P ρ[i]? fun q => if q.2.2.1.length < 1000000 then .ok (.int (q.2.2.1.length : Nat)) ρ else .bad := nr rfl
@[simp] theorem len4M_ap (P : PC) (i : Nat) (ρ : Env) : len4M P i ρ = atO P ρ[i]? fun q => if q.2.2.2.length < 1000000 then .ok (.int (q.2.2.2.length : Nat)) ρ else .bad := nr rfl
@[simp] theorem nil3M_ap (P : PC) (i : Nat) (ρ : Env) : nil3M P i ρ = atO P ρ[i]? fun q => oM (eqD (.list q.2.2.1) (.list [])) ρ := nr rfl
@[simp] theorem nil4M_ap (P : PC) (i : Nat) (ρ : Env) : nil4M P i ρ = atO P ρ[i]? fun q => oM (eqD (.list q.2.2.2) (.list [])) ρ := nr rfl
def lastO {α : Type} (o : Option D) (k : D → RM α) : RM α := match o with
  | some d => k d
  | none => .bad
@[simp] theorem lastO_s {α : Type} (d : D) (k : D → RM α) : lastO (some d) k = k d := nr rfl
@[simp] theorem putP_ap (P : PC) (i : Nat) (T S : D) (ps gs : List D) (ρ : Env) : putP P i (T, S, ps, gs) ρ = ρ.set i (some (pntD P T S ps gs)) := nr rfl
@[simp] theorem pop3M_ap (P : PC) (i : Nat) (ρ : Env) : pop3M P i ρ = atO P ρ[i]? fun q => lastO q.2.2.1.getLast? fun d => .ok d (putP P i (q.1, q.2.1, q.2.2.1.dropLast, q.2.2.2) ρ) := by
  unfold pop3M
  rw [atP_ap]
  rfl
@[simp] theorem pop4M_ap (P : PC) (i : Nat) (ρ : Env) : pop4M P i ρ = atO P ρ[i]? fun q => lastO q.2.2.2.getLast? fun d => .ok d (putP P i (q.1, q.2.1, q.2.2.1, q.2.2.2.dropLast) ρ) := by
  unfold pop4M
  rw [atP_ap]
  rfl
@[simp] theorem app3M_ap (P : PC) (i : Nat) (ρ : Env) : app3M P i ρ = atO P ρ[i]? fun q => if q.2.2.1.length < 1000000 then .ok .none (putP P i (q.1, q.2.1, q.2.2.1 ++ [q.2.1], q.2.2.2) ρ) else .bad := nr rfl
@[simp] theorem app4M_ap (P : PC) (i : Nat) (ρ : Env) : app4M P i ρ = atO P ρ[i]? fun q => if q.2.2.2.length < 1000000 then .ok .none (putP P i (q.1, q.2.1, q.2.2.1, q.2.2.2 ++ [q.2.1]) ρ) else .bad := nr rfl
@[simp] theorem new3M_ap (P : PC) (i : Nat) (ρ : Env) : new3M P i ρ = atO P ρ[i]? fun q => .ok .none (putP P i (q.1, q.2.1, [], q.2.2.2) ρ) := nr rfl
@[simp] theorem new4M_ap (P : PC) (i : Nat) (ρ : Env) : new4M P i ρ = atO P ρ[i]? fun q => .ok .none (putP P i (q.1, q.2.1, q.2.2.1, []) ρ) := nr rfl
@[simp] theorem set2S_ap (P : PC) (i : Nat) (fe : EM) (ρ : Env) : set2S P i fe ρ = outX (rmb (fe ρ) fun d ρ1 => atO P ρ1[i]? fun q => .ok PyData.none (putP P i (q.1, d, q.2.2.1, q.2.2.2) ρ1)) fun _ ρ1 => .nx ρ1 := nr rfl
def endP : Out → RP
  | .nx ρ => at0 ρ fun d => .ok .none d
  | .rt r ρ => at0 ρ fun d => .ok r d
  | .err c ρ => at0 ρ fun d => .err c d
  | .bk _ => .bad
  | .bad => .bad
@[simp] theorem endP_nx (d : D) (ρ : Env) : endP (.nx (some d :: ρ)) = .ok .none d := nr rfl
@[simp] theorem endP_rt (r d : D) (ρ : Env) : endP (.rt r (some d :: ρ)) = .ok r d := nr rfl
@[simp] theorem endP_err (c : Str) (d : D) (ρ : Env) : endP (.err c (some d :: ρ)) = .err c d := nr rfl
theorem runP_ap (m : Nat) (f : SF) (d0 : D) (ds : List D) : runP m f d0 ds = endP (f (some d0 :: (ds.map some ++ List.replicate (m - (ds.length + 1)) none))) := by
  unfold runP endP
  split <;> simp_all
def rmR (r : R D) (ρ : Env) : RM D := rm r ρ
@[simp] theorem ownP_ap (g : List D → R D) (fa : AM) (ρ : Env) : ownP g fa ρ = rmb (fa ρ) fun ds ρ1 => rm (g ds) ρ1 := by
  unfold ownP
  rw [bP_ap]
  congr 1
  funext ds ρ1
  unfold rm
  cases g ds <;> rfl
@[simp] theorem afterP_ok (i : Nat) (ρ : Env) (r d : D) : afterP i ρ (.ok r d) = .ok r (ρ.set i (some d)) := nr rfl
@[simp] theorem afterP_err (i : Nat) (ρ : Env) (c : Str) (d : D) : afterP i ρ (.err c d) = .err c (ρ.set i (some d)) := nr rfl
def callO (i : Nat) (ρ : Env) (g : D → List D → RP) (ds : List D) (o : Option (Option D)) : RM D := match o with
  | some (some d) => afterP i ρ (g d ds)
  | _ => .bad
@[simp] theorem callO_s (i : Nat) (ρ : Env) (g : D → List D → RP) (ds : List D) (d : D) : callO i ρ g ds (some (some d)) = afterP i ρ (g d ds) := nr rfl
@[simp] theorem callP_ap (P : PC) (i : Nat) (g : D → List D → RP) (fa : AM) (ρ : Env) : callP P i g fa ρ = atO P ρ[i]? fun _ => rmb (fa ρ) fun ds ρ1 => callO i ρ1 g ds ρ1[i]? := nr rfl
def mkO (ρ : Env) (i : Nat) (P : PC) (ds : List D) : Out := match ds with
  | [T, S] => .nx (ρ.set i (some (pntD P T S [] [])))
  | _ => .bad
@[simp] theorem mkO_2 (ρ : Env) (i : Nat) (P : PC) (T S : D) : mkO ρ i P [T, S] = .nx (ρ.set i (some (pntD P T S [] []))) := nr rfl
@[simp] theorem mkP_ap (w : List Sh) (i : Nat) (P : PC) (fa : AF) (ρ : Env) : mkP w i P fa ρ = runR (fa (hidA w ρ)) ρ fun ds => mkO ρ i P ds := nr rfl
def tryO (ie ik : Nat) (cs : List Str) (o : Out) : Out := match o with
  | .nx ρ1 => .nx ρ1
  | .err c ρ1 => if c ∈ cs then .nx (((ρ1.set ie none).set ik (some (excD c))).set ie none) else .bad
  | _ => .bad
@[simp] theorem tryO_nx (ie ik : Nat) (cs : List Str) (ρ : Env) : tryO ie ik cs (.nx ρ) = .nx ρ := nr rfl
@[simp] theorem tryO_err (ie ik : Nat) (cs : List Str) (c : Str) (ρ : Env) : tryO ie ik cs (.err c ρ) = if c ∈ cs then .nx (((ρ.set ie none).set ik (some (excD c))).set ie none) else .bad := nr rfl
@[simp] theorem tryP_ap (ie ik : Nat) (cs : List Str) (f : SF) (ρ : Env) : tryP ie ik cs f ρ = tryO ie ik cs (f ρ) := nr rfl
def lastS (o : Option D) (k : D → Out) : Out := match o with
  | some d => k d
  | none => .bad
@[simp] theorem lastS_s (d : D) (k : D → Out) : lastS (some d) k = k d := nr rfl
@[simp] theorem popLast_ap (w : List Sh) (i j : Nat) (ρ : Env) : popLast w i j ρ = lsAt ρ i fun ds => lsAt ρ j fun es => lastS es.getLast? fun d => if ds.length < 1000000 then .nx ((ρ.set j (some (.list es.dropLast))).set i (some (.list (ds ++ [d])))) else .bad := by
  unfold popLast
  congr 1
end DL

set_option maxHeartbeats 1000000
/-! PL9: told lambdas evaluated. -/
namespace DL
open PySem PySem.Spec L2
def outT (cs : List Str) (g : List D → R D) : R D → R D
  | .ok d => .ok d
  | .err c => toldR cs g c
  | .bad => .bad
@[simp] theorem outT_ok (cs : List Str) (g : List D → R D) (d : D) : outT cs g (.ok d) = .ok d := nr rfl
@[simp] theorem outT_err (cs : List Str) (g : List D → R D) (c : Str) : outT cs g (.err c) = toldR cs g c := nr rfl
@[simp] theorem toldE_ap (cs : List Str) (f : EF) (g : List D → R D) (ρ : Env) : toldE cs f g ρ = outT cs g (f ρ) := by
  unfold toldE outT
  cases f ρ <;> rfl
theorem vordE_ord (ds : List D) (ρ : Env) : vordE 0 (some (ordD ds) :: ρ) = .ok (PyData.tuple ds) := by
  show (match ordOf (ordD ds) with
    | some ds => cE (PyData.tuple ds)
    | none => fun _ => okD (ordD ds)) (some (ordD ds) :: ρ) = .ok (PyData.tuple ds)
  rw [ordOf_ord]
  rfl
@[simp] theorem ordT_ap (f : AF) (ρ : Env) : ordT f ρ = ((f ρ).bind fun xs => R.of (if xs.length ≤ 1000000 then some xs else none)).bind fun xs => .ok (ordD xs) := nr rfl
end DL

set_option maxHeartbeats 4000000
namespace LW
open PySem PySem.Spec L2 DL
open PyProof.Rows hiding St
def top (i : Nat) : Stmt := PySem.Challenge.pw_floorfits_k87_changes_refused.main.body.getD i (.Pass ⟨0, 0, 0, 0⟩)
abbrev s_look_order : Stmt := top 16
abbrev s_set_by : Stmt := top 17
abbrev s_l_class : Stmt := top 23
abbrev s_l_told : Stmt := top 24
abbrev s_floor_by : Stmt := top 18
abbrev s_places_of : Stmt := top 10
abbrev s_look_place : Stmt := top 11
abbrev s_tile_at : Stmt := top 12
abbrev s_with_tile : Stmt := top 13
abbrev s_replaced : Stmt := top 19
abbrev s_l_cell : Stmt := top 21
abbrev s_l_pick : Stmt := top 22
abbrev s_exchanged : Stmt := top 15
abbrev s_law : Stmt := top 25
structure Txt (P : Program) (w : World) (K : PySem.W.Frag) (mg : Str → Option Value) where
  look_order : FnI K mg "look_order" s_look_order ["tiles", "order"]
  set_by : FnI K mg "set_by" s_set_by ["tiles", "order"]
  l_class : FnI K mg "_law_class" s_l_class ["_law_kept"]
  l_told : FnI K mg "_law_told" s_l_told ["_law_deed"]
  floor_by : FnI K mg "floor_by" s_floor_by ["tiles", "floor", "order"]
  places_of : FnI K mg "places_of" s_places_of ["floor"]
  look_place : FnI K mg "look_place" s_look_place ["floor", "place"]
  tile_at : FnI K mg "tile_at" s_tile_at ["floor", "place"]
  with_tile : FnI K mg "with_tile" s_with_tile ["tiles", "floor", "place", "number"]
  replaced : FnI K mg "replaced" s_replaced ["tiles", "floor", "old", "new"]
  l_cell : FnI K mg "_law_cell" s_l_cell ["_law_script", "_law_k"]
  l_pick : FnI K mg "_law_pick" s_l_pick ["_law_script", "_law_k", "_law_many"]
  exchanged : FnI K mg "exchanged" s_exchanged ["tiles", "floor", "one", "other"]
  law : FnL K mg "law" s_law ["_law_script"]
  b_ValueError : mg "ValueError" = none
  b_all : mg "all" = none
  b_bool : mg "bool" = none
  b_int : mg "int" = none
  b_isinstance : mg "isinstance" = none
  b_len : mg "len" = none
  b_list : mg "list" = none
  b_range : mg "range" = none
  b_sorted : mg "sorted" = none
  b_tuple : mg "tuple" = none
  x_NoPlace : ExI K mg "NoPlace"
  x_NoTile : ExI K mg "NoTile"
  q_NoFill : CqI K mg "NoFill"
  q_NoName : CqI K mg "NoName"
  q_NoPlace : CqI K mg "NoPlace"
  q_NoText : CqI K mg "NoText"
  q_NoTile : CqI K mg "NoTile"
  q_Nothing : CqI K mg "Nothing"
  q_Unlike : CqI K mg "Unlike"
  p_FloorError : CbI K mg "FloorError"
  w_NoPlace : XcI K mg "NoPlace"
  w_NoTile : XcI K mg "NoTile"
  s_NoPlace_FloorError : PySem.W.subIn K (.ref w_NoPlace.C) (.ref p_FloorError.C) = some true
  s_NoPlace_NoFill : PySem.W.subIn K (.ref w_NoPlace.C) (.ref q_NoFill.C) = some false
  s_NoPlace_NoName : PySem.W.subIn K (.ref w_NoPlace.C) (.ref q_NoName.C) = some false
  s_NoPlace_NoPlace : PySem.W.subIn K (.ref w_NoPlace.C) (.ref q_NoPlace.C) = some true
  s_NoPlace_NoText : PySem.W.subIn K (.ref w_NoPlace.C) (.ref q_NoText.C) = some false
  s_NoPlace_NoTile : PySem.W.subIn K (.ref w_NoPlace.C) (.ref q_NoTile.C) = some false
  s_NoPlace_Nothing : PySem.W.subIn K (.ref w_NoPlace.C) (.ref q_Nothing.C) = some false
  s_NoPlace_Unlike : PySem.W.subIn K (.ref w_NoPlace.C) (.ref q_Unlike.C) = some false
  s_NoTile_FloorError : PySem.W.subIn K (.ref w_NoTile.C) (.ref p_FloorError.C) = some true
  s_NoTile_NoFill : PySem.W.subIn K (.ref w_NoTile.C) (.ref q_NoFill.C) = some false
  s_NoTile_NoName : PySem.W.subIn K (.ref w_NoTile.C) (.ref q_NoName.C) = some false
  s_NoTile_NoPlace : PySem.W.subIn K (.ref w_NoTile.C) (.ref q_NoPlace.C) = some false
  s_NoTile_NoText : PySem.W.subIn K (.ref w_NoTile.C) (.ref q_NoText.C) = some false
  s_NoTile_NoTile : PySem.W.subIn K (.ref w_NoTile.C) (.ref q_NoTile.C) = some true
  s_NoTile_Nothing : PySem.W.subIn K (.ref w_NoTile.C) (.ref q_Nothing.C) = some false
  s_NoTile_Unlike : PySem.W.subIn K (.ref w_NoTile.C) (.ref q_Unlike.C) = some false
  v_NoPlace : PySem.W.subIn K (.ref w_NoPlace.C) (.type "ValueError") = some true
  v_NoTile : PySem.W.subIn K (.ref w_NoTile.C) (.type "ValueError") = some true
def Txt.tabs {P : Program} {w : World} {K : PySem.W.Frag} {mg : Str → Option Value} (T : Txt P w K mg) : TabT := [(T.law.P, "law.<locals>.<lambda>")]
theorem Txt.mem_law {P : Program} {w : World} {K : PySem.W.Frag} {mg : Str → Option Value} (T : Txt P w K mg) : (T.law.P, ("law.<locals>.<lambda>" : Str)) ∈ T.tabs := by simp [Txt.tabs]
theorem Txt.hu_law {P : Program} {w : World} {K : PySem.W.Frag} {mg : Str → Option Value} (T : Txt P w K mg) : ∀ p ∈ T.tabs, p.1 = T.law.P → p.2 = "law.<locals>.<lambda>" := by simp [Txt.tabs]
structure TBs {P : Program} {w : World} {K : PySem.W.Frag} {mg : Str → Option Value} (T : Txt P w K mg) (base : Heap) : Prop where
  law : LamX.TabB base mg T.law.c T.law.P

def b_look_order : SF :=
 seqS (ifS [.fz, .fz, .fz] (orT (notT (testE (isiE isTupD (vordE 1)))) (notT (testE (callE allD (consA (lstE (compE (seqI (vordE 1)) (tgN 2) (cE true) (andE (isiE isIntD (vE 2)) (notE (isiE isBoolD (vE 2)))) [2])) (nilA))))))
  (raiseS "NoTile")
  (nxS))
 (seqS (ifS [.fz, .fz, .fz] (testE (op2E (neD) (callE sortTD (consA (vordE 1) (nilA))) (lstE (rng1E (callE lenD (consA (vE 0) (nilA)))))))
  (raiseS "NoTile")
  (nxS))
 (nxS))
def m_look_order : List D → R D := runD 3 b_look_order

def b_set_by : SF :=
 seqS (dropS [.fz, .fz, .fz] (ownE m_look_order (consA (vE 0) (consA (vqE 1) (nilA)))))
 (retS [.fz, .fz, .fz] (callE tupleD (consA (lstE (compE (seqI (vordE 1)) (tgN 2) (cE true) (op2E ixD (vE 0) (vE 2)) [2])) (nilA))))
def m_set_by : List D → R D := runD 3 b_set_by

def b_l_class : SF :=
 seqS (asgS [.fz, .fz] 1 (lstE (smallA (consA (exIsE [("NoPlace", false), ("NoTile", false)] (vqE 0)) (consA (exIsE [("NoPlace", false), ("NoTile", false)] (vqE 0)) (consA (exIsE [("NoPlace", true), ("NoTile", false)] (vqE 0)) (consA (exIsE [("NoPlace", false), ("NoTile", false)] (vqE 0)) (nilA))))))))
 (seqS (asgS [.fz, .fz] 1 (op2E addD (vE 1) (lstE (smallA (consA (exIsE [("NoPlace", false), ("NoTile", true)] (vqE 0)) (consA (exIsE [("NoPlace", false), ("NoTile", false)] (vqE 0)) (consA (exIsE [("NoPlace", false), ("NoTile", false)] (vqE 0)) (nilA))))))))
 (seqS (ifS [.fz, .fz] (orT (testE (op2E (neD) (lmE countD (vE 1) (cE (.bool true))) (cE (.int 1)))) (notT (testE (exIsE [("NoPlace", true), ("NoTile", true)] (vqE 0)))))
  (retS [.fz, .fz] (cE (.str "wrong")))
  (nxS))
 (retS [.fz, .fz] (op2E ixD (lstE (smallA (consA (cE (.str "no fill")) (consA (cE (.str "no name")) (consA (cE (.str "no place")) (consA (cE (.str "no text")) (consA (cE (.str "no tile")) (consA (cE (.str "nothing")) (consA (cE (.str "unlike")) (nilA)))))))))) (lmE indexD (vE 1) (cE (.bool true)))))))
def m_l_class : List D → R D := runD 2 b_l_class


def b_floor_by : SF :=
 seqS (dropS [.fz, .fz, .fz, .fz, .fz] (ownE m_look_order (consA (vE 0) (consA (vqE 2) (nilA)))))
 (retS [.fz, .fz, .fz, .fz, .fz] (callE tupleD (consA (lstE (compE (seqI (vE 1)) (tgN 3) (cE true) (callE tupleD (consA (lstE (compE (seqI (vE 3)) (tgN 4) (cE true) (ifE (testE (op2E (isD) (vE 4) (cE .none))) (cE .none) (ordIxE 2 (vE 4))) [4])) (nilA))) [3])) (nilA))))
def m_floor_by : List D → R D := runD 5 b_floor_by

def b_places_of : SF :=
 seqS (newS [.fz, .fz, .fz, .fz] 1 (smallA (nilA)))
 (seqS (forS [.fz, .ls, .fz, .fz] (rangeI range1D (consA (callE lenD (consA (vE 0) (nilA))) (nilA))) (tgN 2) (
  seqS (extS [.fz, .ls, .fz, .fz] 1 (compE (rangeI range1D (consA (callE lenD (consA (op2E ixD (vE 0) (cE (.int 0))) (nilA))) (nilA))) (tgN 3) (cE true) (tupE (consA (vE 2) (consA (vE 3) (nilA)))) [3]))
 (nxS)) [2])
 (retO 1))
def m_places_of : List D → R D := runD 4 b_places_of

def b_look_place : SF :=
 seqS (ifS [.fz, .fz] (testE (op2E (notInE) (vE 1) (ownE m_places_of (consA (vE 0) (nilA)))))
  (raiseS "NoPlace")
  (nxS))
 (nxS)
def m_look_place : List D → R D := runD 2 b_look_place

def b_tile_at : SF :=
 seqS (dropS [.fz, .fz] (ownE m_look_place (consA (vE 0) (consA (vE 1) (nilA)))))
 (retS [.fz, .fz] (op2E ixD (op2E ixD (vE 0) (op2E ixD (vE 1) (cE (.int 0)))) (op2E ixD (vE 1) (cE (.int 1)))))
def m_tile_at : List D → R D := runD 2 b_tile_at

def b_with_tile : SF :=
 seqS (dropS [.fz, .fz, .fz, .fz, .fz, .fz, .fz] (ownE m_look_place (consA (vE 1) (consA (vE 2) (nilA)))))
 (seqS (ifS [.fz, .fz, .fz, .fz, .fz, .fz, .fz] (andT (testE (op2E (notIsD) (vE 3) (cE .none))) (notT (testE (chE (leD) (ltD) (cE (.int 0)) (vE 3) (callE lenD (consA (vE 0) (nilA)))))))
  (raiseS "NoTile")
  (nxS))
 (seqS (tupS [.fz, .fz, .fz, .fz, .fz, .fz, .fz] (vE 2) (tgT [4, 5]))
 (seqS (asgS [.fz, .fz, .fz, .fz, .fz, .fz, .fz] 6 (op2E addD (op2E addD (sliceE (op2E ixD (vE 1) (vE 4)) (noO) (partO (vE 5))) (tupE (consA (vE 3) (nilA)))) (sliceE (op2E ixD (vE 1) (vE 4)) (partO (op2E addD (vE 5) (cE (.int 1)))) (noO))))
 (retS [.fz, .fz, .fz, .fz, .fz, .fz, .fz] (op2E addD (op2E addD (sliceE (vE 1) (noO) (partO (vE 4))) (tupE (consA (vE 6) (nilA)))) (sliceE (vE 1) (partO (op2E addD (vE 4) (cE (.int 1)))) (noO)))))))
def m_with_tile : List D → R D := runD 7 b_with_tile

def b_replaced : SF :=
 seqS (ifS [.fz, .fz, .fz, .fz, .fz, .fz] (andT (testE (op2E (notIsD) (vE 3) (cE .none))) (notT (testE (chE (leD) (ltD) (cE (.int 0)) (vE 3) (callE lenD (consA (vE 0) (nilA)))))))
  (raiseS "NoTile")
  (nxS))
 (seqS (asgS [.fz, .fz, .fz, .fz, .fz, .fz] 4 (vE 1))
 (seqS (forS [.fz, .fz, .fz, .fz, .fz, .fz] (seqI (ownE m_places_of (consA (vE 1) (nilA)))) (tgN 5) (
  seqS (ifS [.fz, .fz, .fz, .fz, .fz, .fz] (testE (op2E (eqD) (ownE m_tile_at (consA (vE 1) (consA (vE 5) (nilA)))) (vE 2)))
  (seqS (asgS [.fz, .fz, .fz, .fz, .fz, .fz] 4 (ownE m_with_tile (consA (vE 0) (consA (vE 4) (consA (vE 5) (consA (vE 3) (nilA)))))))
 (nxS))
  (nxS))
 (nxS)) [5])
 (retS [.fz, .fz, .fz, .fz, .fz, .fz] (vE 4))))
def m_replaced : List D → R D := runD 6 b_replaced

def b_l_cell : SF :=
 seqS (ifS [.fz, .fz] (testE (op2E (ltD) (vE 1) (callE lenD (consA (vE 0) (nilA)))))
  (retS [.fz, .fz] (op2E ixD (vE 0) (vE 1)))
  (nxS))
 (seqS (ifS [.fz, .fz] (testE (op2E (eqD) (vE 0) (lstE (smallA (nilA)))))
  (retS [.fz, .fz] (cE (.int 0)))
  (nxS))
 (retS [.fz, .fz] (op2E addD (op2E mulD (op2E ixD (vE 0) (op2E modD (vE 1) (callE lenD (consA (vE 0) (nilA))))) (cE (.int 31))) (vE 1))))
def m_l_cell : List D → R D := runD 2 b_l_cell

def b_l_pick : SF :=
 seqS (asgS [.fz, .fz, .fz, .fz] 3 (op2E modD (op2E mulD (op2E addD (ownE m_l_cell (consA (vE 0) (consA (vE 1) (nilA)))) (op2E mulD (cE (.int 6151)) (op2E addD (vE 1) (cE (.int 1))))) (cE (.int 40692))) (cE (.int 2147483399))))
 (retS [.fz, .fz, .fz, .fz] (op2E modD (op2E modD (op2E addD (op2E mulD (vE 3) (vE 3)) (op2E fdivD (vE 3) (cE (.int 31)))) (cE (.int 2147483629))) (vE 2)))
def m_l_pick : List D → R D := runD 4 b_l_pick

def b_exchanged : SF :=
 seqS (parS [.fz, .fz, .fz, .fz, .fz, .fz] (consA (ownE m_tile_at (consA (vE 1) (consA (vE 2) (nilA)))) (consA (ownE m_tile_at (consA (vE 1) (consA (vE 3) (nilA)))) (nilA))) 4 5)
 (retS [.fz, .fz, .fz, .fz, .fz, .fz] (ownE m_with_tile (consA (vE 0) (consA (ownE m_with_tile (consA (vE 0) (consA (vE 1) (consA (vE 2) (consA (vE 5) (nilA)))))) (consA (vE 3) (consA (vE 4) (nilA)))))))
def m_exchanged : List D → R D := runD 6 b_exchanged

def b_law_4 : SF :=
 seqS (ifS [.fz, .fz, .fz, .fz, .fz, .fz, .fz, .fz, .fz] (testE (op2E (neD) (ownE m_set_by (consA (vE 1) (consA (ordT (consA (cE (.int 2)) (consA (cE (.int 0)) (consA (cE (.int 1)) (nilA))))) (nilA)))) (tupE (consA (tupE (consA (cE (.int 2)) (consA (cE (.int 2)) (consA (cE (.int 2)) (consA (cE (.int 2)) (nilA)))))) (consA (tupE (consA (cE (.int 0)) (consA (cE (.int 1)) (consA (cE (.int 0)) (consA (cE (.int 1)) (nilA)))))) (consA (tupE (consA (cE (.int 1)) (consA (cE (.int 0)) (consA (cE (.int 1)) (consA (cE (.int 0)) (nilA)))))) (nilA)))))))
  (retS [.fz, .fz, .fz, .fz, .fz, .fz, .fz, .fz, .fz] (cE (.bool false)))
  (nxS))
 (retS [.fz, .fz, .fz, .fz, .fz, .fz, .fz, .fz, .fz] (andE (op2E (eqD) (ownE m_floor_by (consA (vE 1) (consA (vE 2) (consA (ordT (consA (cE (.int 2)) (consA (cE (.int 0)) (consA (cE (.int 1)) (nilA))))) (nilA))))) (tupE (consA (tupE (consA (cE (.int 1)) (consA (cE .none) (nilA)))) (consA (tupE (consA (cE (.int 0)) (consA (cE (.int 2)) (nilA)))) (nilA))))) (op2E (eqD) (ownE m_replaced (consA (vE 1) (consA (vE 2) (consA (cE (.int 1)) (consA (cE (.int 1)) (nilA)))))) (vE 2))))
def b_law_3 : SF :=
 seqS (forS [.fz, .fz, .fz, .fz, .fz, .fz, .fz, .fz, .fz] (rangeI range1D (consA (cE (.int 4)) (nilA))) (tgN 4) (
  seqS (asgS [.fz, .fz, .fz, .fz, .fz, .fz, .fz, .fz, .fz] 5 (op2E ixD (lstE (smallA (consA (tupE (consA (cE (.int 2)) (consA (cE (.int 0)) (nilA)))) (consA (tupE (consA (cE (.int 0)) (consA (cE (.int 2)) (nilA)))) (consA (tupE (consA (op1E negD (cE (.int 1))) (consA (cE (.int 0)) (nilA)))) (consA (tupE (consA (cE (.int 0)) (consA (op1E negD (cE (.int 1))) (nilA)))) (nilA))))))) (op2E modD (op2E addD (ownE m_l_pick (consA (vE 0) (consA (cE (.int 0)) (consA (cE (.int 4)) (nilA))))) (vE 4)) (cE (.int 4)))))
 (seqS (asgS [.fz, .fz, .fz, .fz, .fz, .fz, .fz, .fz, .fz] 6 (op2E ixD (vE 3) (op2E modD (op2E addD (ownE m_l_pick (consA (vE 0) (consA (cE (.int 1)) (consA (cE (.int 10)) (nilA))))) (op2E mulD (cE (.int 3)) (vE 4))) (cE (.int 10)))))
 (seqS (asgS [.fz, .fz, .fz, .fz, .fz, .fz, .fz, .fz, .fz] 7 (op2E ixD (lstE (smallA (consA (cE (.int 3)) (consA (op1E negD (cE (.int 1))) (consA (cE (.int 9)) (consA (cE (.int 16)) (nilA))))))) (op2E modD (op2E addD (ownE m_l_pick (consA (vE 0) (consA (cE (.int 2)) (consA (cE (.int 4)) (nilA))))) (vE 4)) (cE (.int 4)))))
 (seqS (newS [.fz, .fz, .fz, .fz, .fz, .fz, .fz, .fz, .fz] 8 (smallA (consA (toldE ["NoPlace", "NoTile"] (ownE m_exchanged (consA (vE 1) (consA (vE 2) (consA (vE 5) (consA (tupE (consA (cE (.int 0)) (consA (cE (.int 0)) (nilA)))) (nilA)))))) m_l_class) (nilA))))
 (seqS (appS [.fz, .fz, .fz, .fz, .fz, .fz, .fz, .fz, .ls] 8 (toldE ["NoPlace", "NoTile"] (ownE m_exchanged (consA (vE 1) (consA (vE 2) (consA (tupE (consA (cE (.int 0)) (consA (cE (.int 0)) (nilA)))) (consA (vE 5) (nilA)))))) m_l_class))
 (seqS (ifS [.fz, .fz, .fz, .fz, .fz, .fz, .fz, .fz, .ls] (testE (op2E (neD) (vE 8) (op2E mulD (lstE (smallA (consA (cE (.str "no place")) (nilA)))) (cE (.int 2)))))
  (retS [.fz, .fz, .fz, .fz, .fz, .fz, .fz, .fz, .ls] (cE (.bool false)))
  (nxS))
 (seqS (newS [.fz, .fz, .fz, .fz, .fz, .fz, .fz, .fz, .ls] 8 (smallA (consA (toldE ["NoPlace", "NoTile"] (ownE m_set_by (consA (vE 1) (consA (vE 6) (nilA)))) m_l_class) (nilA))))
 (seqS (appS [.fz, .fz, .fz, .fz, .fz, .fz, .fz, .fz, .ls] 8 (toldE ["NoPlace", "NoTile"] (ownE m_floor_by (consA (vE 1) (consA (vE 2) (consA (vE 6) (nilA))))) m_l_class))
 (seqS (appS [.fz, .fz, .fz, .fz, .fz, .fz, .fz, .fz, .ls] 8 (toldE ["NoPlace", "NoTile"] (ownE m_replaced (consA (vE 1) (consA (vE 2) (consA (cE (.int 0)) (consA (vE 7) (nilA)))))) m_l_class))
 (seqS (appS [.fz, .fz, .fz, .fz, .fz, .fz, .fz, .fz, .ls] 8 (toldE ["NoPlace", "NoTile"] (ownE m_replaced (consA (vE 1) (consA (vE 2) (consA (cE .none) (consA (vE 7) (nilA)))))) m_l_class))
 (seqS (appS [.fz, .fz, .fz, .fz, .fz, .fz, .fz, .fz, .ls] 8 (toldE ["NoPlace", "NoTile"] (ownE m_replaced (consA (vE 1) (consA (tupE (consA (tupE (consA (cE (.int 0)) (nilA))) (nilA))) (consA (cE (.int 1)) (consA (vE 7) (nilA)))))) m_l_class))
 (seqS (ifS [.fz, .fz, .fz, .fz, .fz, .fz, .fz, .fz, .ls] (testE (op2E (neD) (vE 8) (op2E mulD (lstE (smallA (consA (cE (.str "no tile")) (nilA)))) (cE (.int 5)))))
  (retS [.fz, .fz, .fz, .fz, .fz, .fz, .fz, .fz, .ls] (cE (.bool false)))
  (nxS))
 (nxS))))))))))))) [4, 5, 6, 7, 8])
 (b_law_4)
def b_law_2 : SF :=
 seqS (asgS [.fz, .fz, .fz, .fz, .fz, .fz, .fz, .fz, .fz] 3 (lstE (smallA (consA (cE .none) (consA (tupE (nilA)) (consA (tupE (consA (cE (.int 0)) (consA (cE (.int 1)) (nilA)))) (consA (tupE (consA (cE (.int 0)) (consA (cE (.int 1)) (consA (cE (.int 1)) (nilA))))) (consA (tupE (consA (cE (.int 0)) (consA (cE (.int 1)) (consA (cE (.int 3)) (nilA))))) (consA (tupE (consA (cE (.int 0)) (consA (cE (.int 1)) (consA (cE (.int 2)) (consA (cE (.int 2)) (nilA)))))) (consA (lstE (smallA (consA (cE (.int 0)) (consA (cE (.int 1)) (consA (cE (.int 2)) (nilA)))))) (consA (tupE (consA (cE (.int 0)) (consA (cE (.int 1)) (consA (cE (.str "2")) (nilA))))) (consA (tupE (consA (cE (.int 0)) (consA (cE (.bool true)) (consA (cE (.int 2)) (nilA))))) (consA (cE (.int 5)) (nilA))))))))))))))
 (b_law_3)
def b_law_1 : SF :=
 seqS (asgS [.fz, .fz, .fz, .fz, .fz, .fz, .fz, .fz, .fz] 2 (tupE (consA (tupE (consA (cE (.int 0)) (consA (cE .none) (nilA)))) (consA (tupE (consA (cE (.int 2)) (consA (cE (.int 1)) (nilA)))) (nilA)))))
 (b_law_2)
def b_law_0 : SF :=
 seqS (asgS [.fz, .fz, .fz, .fz, .fz, .fz, .fz, .fz, .fz] 1 (tupE (consA (tupE (consA (cE (.int 0)) (consA (cE (.int 1)) (consA (cE (.int 0)) (consA (cE (.int 1)) (nilA)))))) (consA (tupE (consA (cE (.int 1)) (consA (cE (.int 0)) (consA (cE (.int 1)) (consA (cE (.int 0)) (nilA)))))) (consA (tupE (consA (cE (.int 2)) (consA (cE (.int 2)) (consA (cE (.int 2)) (consA (cE (.int 2)) (nilA)))))) (nilA))))))
 (b_law_1)
def b_law : SF :=
 b_law_0
def m_law : List D → R D := runD 9 b_law

section
variable {P : Program} {w : World} {K : PySem.W.Frag} {mg : Str → Option Value} {base : Heap}
abbrev n_look_order : List Str := ["tiles", "order", "one"]
theorem sc_look_order : FnScope n_look_order ["tiles", "order"] (defScope s_look_order) := ⟨rfl, rfl, rfl, by decide +kernel, rfl, by decide +kernel, by decide +kernel⟩
theorem ok_look_order (T : Txt P w K mg) : FnOk P w K mg base (L2.CX P w) 1 T.look_order.f T.look_order.fd ["tiles", "order"] (spD K mg 2 m_look_order) := by
  refine fn_ok (N := n_look_order) (fb := b_look_order) (ws := [.fz, .fz, .fz]) T.look_order.F sc_look_order rfl rfl fun cdv A outer s H E hr => ⟨_, [.fz, .fz, .fz], (ds_cons (d_if (dw_pt (dw_or (dt_not (dt_val (kisi K kits_tup (by rfl) T.b_isinstance (by rfl) T.b_tuple (by decide +kernel) (dvo 1)))) (dw_or1 (dt_not (dt_val (de_callB (kall K) cg_all (by rfl) T.b_all (by decide +kernel) (da_cons (de_new (dn_lc (own := [("one", 2)]) rfl sc_look_order.nd (kseq K (dvo 1)) (blkOk_by (own := [("one", 2)]) (N := n_look_order) (sc := defScope s_look_order) (by decide +kernel)) (fun _ _ _ _ _ => (tgn 2 sc_look_order.nd)) (fun _ _ _ _ _ => dts_nil) (fun _ _ _ _ _ => (de_and (kisi K kits_int (by rfl) T.b_isinstance (by rfl) T.b_int (by decide +kernel) (dv 2)) (de_one (de_not (kisi K kits_bool (by rfl) T.b_isinstance (by rfl) T.b_bool (by decide +kernel) (dv 2)))))))) da_nil)))))))
  (ds_one (d_raise rfl (takes_of rfl rfl rfl rfl) (T.x_NoTile.mk' (by rfl)) (fun _ _ h => h _ T.x_NoTile.g)))
  ds_nil)
 (ds_cons (d_if (dt_cmp (kne K (r64 hr)) og_ne (de_callB (ksortT K) (cg_sortTI K) (by rfl) T.b_sorted (by decide +kernel) (da_cons (dvo 1) da_nil)) (de_new (dn_listRg (by rfl) T.b_list (by rfl) T.b_range (de_callB (klen K) cg_len (by rfl) T.b_len (by decide +kernel) (da_cons (dv 0) da_nil)))) (nomark _))
  (ds_one (d_raise rfl (takes_of rfl rfl rfl rfl) (T.x_NoTile.mk' (by rfl)) (fun _ _ h => h _ T.x_NoTile.g)))
  ds_nil)
 ds_nil))⟩

abbrev n_set_by : List Str := ["tiles", "order", "number"]
theorem sc_set_by : FnScope n_set_by ["tiles", "order"] (defScope s_set_by) := ⟨rfl, rfl, rfl, by decide +kernel, rfl, by decide +kernel, by decide +kernel⟩
theorem ok_set_by (T : Txt P w K mg) : FnOk P w K mg base (L2.CX P w) 2 T.set_by.f T.set_by.fd ["tiles", "order"] (spD K mg 2 m_set_by) := by
  refine fn_ok (N := n_set_by) (fb := b_set_by) (ws := [.fz, .fz, .fz]) T.set_by.F sc_set_by rfl rfl fun cdv A outer s H E hr => ⟨_, [.fz, .fz, .fz], (ds_cons (d_drop (kownq K mg (ok_look_order T) (hr.mono (by decide)) (by rfl) T.look_order.m T.look_order.F.kp T.look_order.b (passes_call (takes_of rfl rfl rfl rfl) (fun _ _ _ _ h => h)) (fun _ _ h => h) (daq_cons (deq_of (dv 0)) (daq_cons (dvq 1) daq_nil)) (args_lenS (args_lenS args_len0))))
 (ds_one (d_ret (de_callTy (ktup K) cg_tuple (by rfl) T.b_tuple (by decide +kernel) (da_cons (de_new (dn_lc (own := [("number", 2)]) rfl sc_set_by.nd (kseq K (dvo 1)) (blkOk_by (own := [("number", 2)]) (N := n_set_by) (sc := defScope s_set_by) (by decide +kernel)) (fun _ _ _ _ _ => (tgn 2 sc_set_by.nd)) (fun _ _ _ _ _ => dts_nil) (fun _ _ _ _ _ => (de_ix (kix K) og_ix (dv 0) (dv 2) (fun _ _ => rfl))))) da_nil)))))⟩

abbrev n_l_class : List Str := ["_law_kept", "_law_kinds"]
theorem sc_l_class : FnScope n_l_class ["_law_kept"] (defScope s_l_class) := ⟨rfl, rfl, rfl, by decide +kernel, rfl, by decide +kernel, by decide +kernel⟩
theorem ok_l_class (T : Txt P w K mg) : FnC P w K mg base (L2.CX P w) 1 T.l_class.f T.l_class.fd ["_law_kept"] (spD K mg 1 m_l_class) := by
  refine fn_okC (N := n_l_class) (fb := b_l_class) (ws := [.fz, .fz]) T.l_class.F sc_l_class rfl rfl fun cdv A outer s H E hr => ⟨_, [.fz, .fz], (ds_cons (s_asg 1 sc_l_class.nd (de_new (dn_lst (da_cons (kisX K mg T.q_NoFill (tbl_cons T.w_NoPlace (kit_two T.w_NoPlace T.q_NoFill T.s_NoPlace_NoFill) (tbl_cons T.w_NoTile (kit_two T.w_NoTile T.q_NoFill T.s_NoTile_NoFill) tbl_nil)) (by rfl) T.b_isinstance (by rfl) (dvq 0)) (da_cons (kisX K mg T.q_NoName (tbl_cons T.w_NoPlace (kit_two T.w_NoPlace T.q_NoName T.s_NoPlace_NoName) (tbl_cons T.w_NoTile (kit_two T.w_NoTile T.q_NoName T.s_NoTile_NoName) tbl_nil)) (by rfl) T.b_isinstance (by rfl) (dvq 0)) (da_cons (kisX K mg T.q_NoPlace (tbl_cons T.w_NoPlace (kit_two T.w_NoPlace T.q_NoPlace T.s_NoPlace_NoPlace) (tbl_cons T.w_NoTile (kit_two T.w_NoTile T.q_NoPlace T.s_NoTile_NoPlace) tbl_nil)) (by rfl) T.b_isinstance (by rfl) (dvq 0)) (da_cons (kisX K mg T.q_NoText (tbl_cons T.w_NoPlace (kit_two T.w_NoPlace T.q_NoText T.s_NoPlace_NoText) (tbl_cons T.w_NoTile (kit_two T.w_NoTile T.q_NoText T.s_NoTile_NoText) tbl_nil)) (by rfl) T.b_isinstance (by rfl) (dvq 0)) da_nil)))))))
 (ds_cons (s_asg 1 sc_l_class.nd (de_op (kadd K) og_add (dv 1) (de_new (dn_lst (da_cons (kisX K mg T.q_NoTile (tbl_cons T.w_NoPlace (kit_two T.w_NoPlace T.q_NoTile T.s_NoPlace_NoTile) (tbl_cons T.w_NoTile (kit_two T.w_NoTile T.q_NoTile T.s_NoTile_NoTile) tbl_nil)) (by rfl) T.b_isinstance (by rfl) (dvq 0)) (da_cons (kisX K mg T.q_Nothing (tbl_cons T.w_NoPlace (kit_two T.w_NoPlace T.q_Nothing T.s_NoPlace_Nothing) (tbl_cons T.w_NoTile (kit_two T.w_NoTile T.q_Nothing T.s_NoTile_Nothing) tbl_nil)) (by rfl) T.b_isinstance (by rfl) (dvq 0)) (da_cons (kisX K mg T.q_Unlike (tbl_cons T.w_NoPlace (kit_two T.w_NoPlace T.q_Unlike T.s_NoPlace_Unlike) (tbl_cons T.w_NoTile (kit_two T.w_NoTile T.q_Unlike T.s_NoTile_Unlike) tbl_nil)) (by rfl) T.b_isinstance (by rfl) (dvq 0)) da_nil)))))))
 (ds_cons (d_if (dw_pt (dw_or (dt_cmp (kne K (c64 hr)) og_ne (kcount K (c65 hr) (dv 1) de_bl) de_int (nomark _)) (dw_or1 (dt_not (dt_val (kisV K mg (tbl_cons T.w_NoPlace (kit_val T.w_NoPlace T.v_NoPlace) (tbl_cons T.w_NoTile (kit_val T.w_NoTile T.v_NoTile) tbl_nil)) (by rfl) T.b_isinstance (by rfl) T.b_ValueError (dvq 0)))))))
  (ds_one (d_ret de_str))
  ds_nil)
 (ds_one (d_ret (de_ix (kix K) og_ix (de_new (dn_lst (da_cons de_str (da_cons de_str (da_cons de_str (da_cons de_str (da_cons de_str (da_cons de_str (da_cons de_str da_nil))))))))) (kindex K (c65 hr) (dv 1) de_bl) (fun _ _ => rfl)))))))⟩

abbrev n_l_told : List Str := ["_law_deed", "e"]
theorem sc_l_told : FnScope n_l_told ["_law_deed"] (defScope s_l_told) := ⟨rfl, rfl, rfl, by decide +kernel, rfl, by decide +kernel, by decide +kernel⟩

abbrev n_floor_by : List Str := ["tiles", "floor", "order", "row", "one"]
theorem sc_floor_by : FnScope n_floor_by ["tiles", "floor", "order"] (defScope s_floor_by) := ⟨rfl, rfl, rfl, by decide +kernel, rfl, by decide +kernel, by decide +kernel⟩
theorem ok_floor_by (T : Txt P w K mg) : FnOk P w K mg base (L2.CX P w) 2 T.floor_by.f T.floor_by.fd ["tiles", "floor", "order"] (spD K mg 3 m_floor_by) := by
  refine fn_ok (N := n_floor_by) (fb := b_floor_by) (ws := [.fz, .fz, .fz, .fz, .fz]) T.floor_by.F sc_floor_by rfl rfl fun cdv A outer s H E hr => ⟨_, [.fz, .fz, .fz, .fz, .fz], (ds_cons (d_drop (kownq K mg (ok_look_order T) (hr.mono (by decide)) (by rfl) T.look_order.m T.look_order.F.kp T.look_order.b (passes_call (takes_of rfl rfl rfl rfl) (fun _ _ _ _ h => h)) (fun _ _ h => h) (daq_cons (deq_of (dv 0)) (daq_cons (dvq 2) daq_nil)) (args_lenS (args_lenS args_len0))))
 (ds_one (d_ret (de_callTy (ktup K) cg_tuple (by rfl) T.b_tuple (by decide +kernel) (da_cons (de_new (dn_lc (own := [("row", 3)]) rfl sc_floor_by.nd (kseq K (dv 1)) (blkOk_by (own := [("row", 3)]) (N := n_floor_by) (sc := defScope s_floor_by) (by decide +kernel)) (fun _ _ _ _ _ => (tgn 3 sc_floor_by.nd)) (fun _ _ _ _ _ => dts_nil) (fun _ _ _ _ _ => (de_callTy (ktup K) cg_tuple (by rfl) T.b_tuple (by decide +kernel) (da_cons (de_new (dn_lc (own := [("one", 4)]) rfl sc_floor_by.nd (kseq K (dv 3)) (blkOk_by (own := [("one", 4)]) (N := n_floor_by) (by rfl)) (fun _ _ _ _ _ => (tgn 4 sc_floor_by.nd)) (fun _ _ _ _ _ => dts_nil) (fun _ _ _ _ _ => (de_if (dt_cmp op_isA og_is (dv 4) de_non (nomark _)) de_non (kordix 2 (dv 4)))))) da_nil))))) da_nil)))))⟩

abbrev n_places_of : List Str := ["floor", "made", "row", "column"]
theorem sc_places_of : FnScope n_places_of ["floor"] (defScope s_places_of) := ⟨rfl, rfl, rfl, by decide +kernel, rfl, by decide +kernel, by decide +kernel⟩
theorem ok_places_of (T : Txt P w K mg) : FnOk P w K mg base (L2.CX P w) 1 T.places_of.f T.places_of.fd ["floor"] (spD K mg 1 m_places_of) := by
  refine fn_ok (N := n_places_of) (fb := b_places_of) (ws := [.fz, .fz, .fz, .fz]) T.places_of.F sc_places_of rfl rfl fun cdv A outer s H E hr => ⟨_, [.fz, .ls, .fz, .fz], (ds_cons (s_new 1 sc_places_of.nd (dn_lst da_nil))
 (ds_cons (d_for (ks := [2]) (passes_of rfl) rfl (di_range1 (by rfl) T.b_range (da_cons (de_callB (klen K) cg_len (by rfl) T.b_len (by decide +kernel) (da_cons (dv 0) da_nil)) da_nil)) (tgn 2 sc_places_of.nd) (allFz_ok rfl)
  (ds_cons (s_ext 1 (dn_lc (own := [("column", 3)]) rfl sc_places_of.nd (di_range1 (by rfl) T.b_range (da_cons (de_callB (klen K) cg_len (by rfl) T.b_len (by decide +kernel) (da_cons (de_ix (kix K) og_ix (dv 0) de_int (fun _ _ => rfl)) da_nil)) da_nil)) (blkOk_by (own := [("column", 3)]) (N := n_places_of) (sc := defScope s_places_of) (by decide +kernel)) (fun _ _ _ _ _ => (tgn 3 sc_places_of.nd)) (fun _ _ _ _ _ => dts_nil) (fun _ _ _ _ _ => (de_tup (da_cons (dv 2) (da_cons (dv 3) da_nil))))))
 ds_nil))
 (ds_one (s_retO 1))))⟩

abbrev n_look_place : List Str := ["floor", "place"]
theorem sc_look_place : FnScope n_look_place ["floor", "place"] (defScope s_look_place) := ⟨rfl, rfl, rfl, by decide +kernel, rfl, by decide +kernel, by decide +kernel⟩
theorem ok_look_place (T : Txt P w K mg) : FnOk P w K mg base (L2.CX P w) 2 T.look_place.f T.look_place.fd ["floor", "place"] (spD K mg 2 m_look_place) := by
  refine fn_ok (N := n_look_place) (fb := b_look_place) (ws := [.fz, .fz]) T.look_place.F sc_look_place rfl rfl fun cdv A outer s H E hr => ⟨_, [.fz, .fz], (ds_cons (d_if (dt_cmp (knin K (r65 hr)) og_notIn (dv 1) (kown K mg (ok_places_of T) (hr.mono (by decide)) (by rfl) T.places_of.m T.places_of.F.kp T.places_of.b (passes_call (takes_of rfl rfl rfl rfl) (fun _ _ _ _ h => h)) (fun _ _ h => h) (da_cons (dv 0) da_nil) (args_lenS args_len0)) (by rfl))
  (ds_one (d_raise rfl (takes_of rfl rfl rfl rfl) (T.x_NoPlace.mk' (by rfl)) (fun _ _ h => h _ T.x_NoPlace.g)))
  ds_nil)
 ds_nil)⟩

abbrev n_tile_at : List Str := ["floor", "place"]
theorem sc_tile_at : FnScope n_tile_at ["floor", "place"] (defScope s_tile_at) := ⟨rfl, rfl, rfl, by decide +kernel, rfl, by decide +kernel, by decide +kernel⟩
theorem ok_tile_at (T : Txt P w K mg) : FnOk P w K mg base (L2.CX P w) 3 T.tile_at.f T.tile_at.fd ["floor", "place"] (spD K mg 2 m_tile_at) := by
  refine fn_ok (N := n_tile_at) (fb := b_tile_at) (ws := [.fz, .fz]) T.tile_at.F sc_tile_at rfl rfl fun cdv A outer s H E hr => ⟨_, [.fz, .fz], (ds_cons (d_drop (kown K mg (ok_look_place T) (hr.mono (by decide)) (by rfl) T.look_place.m T.look_place.F.kp T.look_place.b (passes_call (takes_of rfl rfl rfl rfl) (fun _ _ _ _ h => h)) (fun _ _ h => h) (da_cons (dv 0) (da_cons (dv 1) da_nil)) (args_lenS (args_lenS args_len0))))
 (ds_one (d_ret (de_ix (kix K) og_ix (de_ix (kix K) og_ix (dv 0) (de_ix (kix K) og_ix (dv 1) de_int (fun _ _ => rfl)) (fun _ _ => rfl)) (de_ix (kix K) og_ix (dv 1) de_int (fun _ _ => rfl)) (fun _ _ => rfl)))))⟩

abbrev n_with_tile : List Str := ["tiles", "floor", "place", "number", "row", "column", "line"]
theorem sc_with_tile : FnScope n_with_tile ["tiles", "floor", "place", "number"] (defScope s_with_tile) := ⟨rfl, rfl, rfl, by decide +kernel, rfl, by decide +kernel, by decide +kernel⟩
theorem ok_with_tile (T : Txt P w K mg) : FnOk P w K mg base (L2.CX P w) 3 T.with_tile.f T.with_tile.fd ["tiles", "floor", "place", "number"] (spD K mg 4 m_with_tile) := by
  refine fn_ok (N := n_with_tile) (fb := b_with_tile) (ws := [.fz, .fz, .fz, .fz, .fz, .fz, .fz]) T.with_tile.F sc_with_tile rfl rfl fun cdv A outer s H E hr => ⟨_, [.fz, .fz, .fz, .fz, .fz, .fz, .fz], (ds_cons (d_drop (kown K mg (ok_look_place T) (hr.mono (by decide)) (by rfl) T.look_place.m T.look_place.F.kp T.look_place.b (passes_call (takes_of rfl rfl rfl rfl) (fun _ _ _ _ h => h)) (fun _ _ h => h) (da_cons (dv 1) (da_cons (dv 2) da_nil)) (args_lenS (args_lenS args_len0))))
 (ds_cons (d_if (dw_pt (dw_and (dt_cmp op_notA og_notIs (dv 3) de_non (nomark _)) (dw_and1 (dt_not (dt_chain op_le op_lt og_ints og_ints de_int (dv 3) (de_callB (klen K) cg_len (by rfl) T.b_len (by decide +kernel) (da_cons (dv 0) da_nil)))))))
  (ds_one (d_raise rfl (takes_of rfl rfl rfl rfl) (T.x_NoTile.mk' (by rfl)) (fun _ _ h => h _ T.x_NoTile.g)))
  ds_nil)
 (ds_cons (s_tup [4, 5] (dv 2) (ktg K [4, 5] rfl (pgs_cons (pgn 4 sc_with_tile.nd) (pgs_cons (pgn 5 sc_with_tile.nd) pgs_nil))))
 (ds_cons (s_asg 6 sc_with_tile.nd (de_op (kadd K) og_add (de_op (kadd K) og_add (ksl K (de_ix (kix K) og_ix (dv 1) (dv 4) (fun _ _ => rfl)) do_none (do_some (dv 5))) (de_tup (da_cons (dv 3) da_nil))) (ksl K (de_ix (kix K) og_ix (dv 1) (dv 4) (fun _ _ => rfl)) (do_some (de_op (kadd K) og_add (dv 5) de_int)) do_none)))
 (ds_one (d_ret (de_op (kadd K) og_add (de_op (kadd K) og_add (ksl K (dv 1) do_none (do_some (dv 4))) (de_tup (da_cons (dv 6) da_nil))) (ksl K (dv 1) (do_some (de_op (kadd K) og_add (dv 4) de_int)) do_none))))))))⟩

abbrev n_replaced : List Str := ["tiles", "floor", "old", "new", "made", "place"]
theorem sc_replaced : FnScope n_replaced ["tiles", "floor", "old", "new"] (defScope s_replaced) := ⟨rfl, rfl, rfl, by decide +kernel, rfl, by decide +kernel, by decide +kernel⟩
theorem ok_replaced (T : Txt P w K mg) : FnOk P w K mg base (L2.CX P w) 4 T.replaced.f T.replaced.fd ["tiles", "floor", "old", "new"] (spD K mg 4 m_replaced) := by
  refine fn_ok (N := n_replaced) (fb := b_replaced) (ws := [.fz, .fz, .fz, .fz, .fz, .fz]) T.replaced.F sc_replaced rfl rfl fun cdv A outer s H E hr => ⟨_, [.fz, .fz, .fz, .fz, .fz, .fz], (ds_cons (d_if (dw_pt (dw_and (dt_cmp op_notA og_notIs (dv 3) de_non (nomark _)) (dw_and1 (dt_not (dt_chain op_le op_lt og_ints og_ints de_int (dv 3) (de_callB (klen K) cg_len (by rfl) T.b_len (by decide +kernel) (da_cons (dv 0) da_nil)))))))
  (ds_one (d_raise rfl (takes_of rfl rfl rfl rfl) (T.x_NoTile.mk' (by rfl)) (fun _ _ h => h _ T.x_NoTile.g)))
  ds_nil)
 (ds_cons (s_asg 4 sc_replaced.nd (dv 1))
 (ds_cons (d_for (ks := [5]) (passes_of rfl) rfl (kseq K (kown K mg (ok_places_of T) (hr.mono (by decide)) (by rfl) T.places_of.m T.places_of.F.kp T.places_of.b (passes_call (takes_of rfl rfl rfl rfl) (fun _ _ _ _ h => h)) (fun _ _ h => h) (da_cons (dv 1) da_nil) (args_lenS args_len0))) (tgn 5 sc_replaced.nd) (allFz_ok rfl)
  (ds_cons (d_if (dt_cmp (keq K (r64 hr)) og_eq (kown K mg (ok_tile_at T) (hr.mono (by decide)) (by rfl) T.tile_at.m T.tile_at.F.kp T.tile_at.b (passes_call (takes_of rfl rfl rfl rfl) (fun _ _ _ _ h => h)) (fun _ _ h => h) (da_cons (dv 1) (da_cons (dv 5) da_nil)) (args_lenS (args_lenS args_len0))) (dv 2) (nomark _))
  (ds_cons (s_asg 4 sc_replaced.nd (kown K mg (ok_with_tile T) (hr.mono (by decide)) (by rfl) T.with_tile.m T.with_tile.F.kp T.with_tile.b (passes_call (takes_of rfl rfl rfl rfl) (fun _ _ _ _ h => h)) (fun _ _ h => h) (da_cons (dv 0) (da_cons (dv 4) (da_cons (dv 5) (da_cons (dv 3) da_nil)))) (args_lenS (args_lenS (args_lenS (args_lenS args_len0))))))
 ds_nil)
  ds_nil)
 ds_nil))
 (ds_one (d_ret (dv 4))))))⟩

abbrev n_l_cell : List Str := ["_law_script", "_law_k"]
theorem sc_l_cell : FnScope n_l_cell ["_law_script", "_law_k"] (defScope s_l_cell) := ⟨rfl, rfl, rfl, by decide +kernel, rfl, by decide +kernel, by decide +kernel⟩
theorem ok_l_cell (T : Txt P w K mg) : FnOk P w K mg base (L2.CX P w) 1 T.l_cell.f T.l_cell.fd ["_law_script", "_law_k"] (spD K mg 2 m_l_cell) := by
  refine fn_ok (N := n_l_cell) (fb := b_l_cell) (ws := [.fz, .fz]) T.l_cell.F sc_l_cell rfl rfl fun cdv A outer s H E hr => ⟨_, [.fz, .fz], (ds_cons (d_if (dt_cmp op_lt og_ints (dv 1) (de_callB (klen K) cg_len (by rfl) T.b_len (by decide +kernel) (da_cons (dv 0) da_nil)) (nomark _))
  (ds_one (d_ret (de_ix (kix K) og_ix (dv 0) (dv 1) (fun _ _ => rfl))))
  ds_nil)
 (ds_cons (d_if (dt_cmp (keq K (r64 hr)) og_eq (dv 0) (de_new (dn_lst da_nil)) (nomark _))
  (ds_one (d_ret de_int))
  ds_nil)
 (ds_one (d_ret (de_op (kadd K) og_add (de_op (kmul K) og_mul (de_ix (kix K) og_ix (dv 0) (de_op op_mod og_mod (dv 1) (de_callB (klen K) cg_len (by rfl) T.b_len (by decide +kernel) (da_cons (dv 0) da_nil))) (fun _ _ => rfl)) de_int) (dv 1))))))⟩

abbrev n_l_pick : List Str := ["_law_script", "_law_k", "_law_many", "_law_drawn"]
theorem sc_l_pick : FnScope n_l_pick ["_law_script", "_law_k", "_law_many"] (defScope s_l_pick) := ⟨rfl, rfl, rfl, by decide +kernel, rfl, by decide +kernel, by decide +kernel⟩
theorem ok_l_pick (T : Txt P w K mg) : FnOk P w K mg base (L2.CX P w) 2 T.l_pick.f T.l_pick.fd ["_law_script", "_law_k", "_law_many"] (spD K mg 3 m_l_pick) := by
  refine fn_ok (N := n_l_pick) (fb := b_l_pick) (ws := [.fz, .fz, .fz, .fz]) T.l_pick.F sc_l_pick rfl rfl fun cdv A outer s H E hr => ⟨_, [.fz, .fz, .fz, .fz], (ds_cons (s_asg 3 sc_l_pick.nd (de_op op_mod og_mod (de_op (kmul K) og_mul (de_op (kadd K) og_add (kown K mg (ok_l_cell T) (hr.mono (by decide)) (by rfl) T.l_cell.m T.l_cell.F.kp T.l_cell.b (passes_call (takes_of rfl rfl rfl rfl) (fun _ _ _ _ h => h)) (fun _ _ h => h) (da_cons (dv 0) (da_cons (dv 1) da_nil)) (args_lenS (args_lenS args_len0))) (de_op (kmul K) og_mul de_int (de_op (kadd K) og_add (dv 1) de_int))) de_int) de_int))
 (ds_one (d_ret (de_op op_mod og_mod (de_op op_mod og_mod (de_op (kadd K) og_add (de_op (kmul K) og_mul (dv 3) (dv 3)) (de_op op_fdiv og_fdiv (dv 3) de_int)) de_int) (dv 2)))))⟩

abbrev n_exchanged : List Str := ["tiles", "floor", "one", "other", "mine", "yours"]
theorem sc_exchanged : FnScope n_exchanged ["tiles", "floor", "one", "other"] (defScope s_exchanged) := ⟨rfl, rfl, rfl, by decide +kernel, rfl, by decide +kernel, by decide +kernel⟩
theorem ok_exchanged (T : Txt P w K mg) : FnOk P w K mg base (L2.CX P w) 4 T.exchanged.f T.exchanged.fd ["tiles", "floor", "one", "other"] (spD K mg 4 m_exchanged) := by
  refine fn_ok (N := n_exchanged) (fb := b_exchanged) (ws := [.fz, .fz, .fz, .fz, .fz, .fz]) T.exchanged.F sc_exchanged rfl rfl fun cdv A outer s H E hr => ⟨_, [.fz, .fz, .fz, .fz, .fz, .fz], (ds_cons (d_par (i := 4) (j := 5) rfl sc_exchanged.nd rfl rfl (by decide) rfl rfl (da_cons (kown K mg (ok_tile_at T) (hr.mono (by decide)) (by rfl) T.tile_at.m T.tile_at.F.kp T.tile_at.b (passes_call (takes_of rfl rfl rfl rfl) (fun _ _ _ _ h => h)) (fun _ _ h => h) (da_cons (dv 1) (da_cons (dv 2) da_nil)) (args_lenS (args_lenS args_len0))) (da_cons (kown K mg (ok_tile_at T) (hr.mono (by decide)) (by rfl) T.tile_at.m T.tile_at.F.kp T.tile_at.b (passes_call (takes_of rfl rfl rfl rfl) (fun _ _ _ _ h => h)) (fun _ _ h => h) (da_cons (dv 1) (da_cons (dv 3) da_nil)) (args_lenS (args_lenS args_len0))) da_nil)) (by rfl))
 (ds_one (d_ret (kown K mg (ok_with_tile T) (hr.mono (by decide)) (by rfl) T.with_tile.m T.with_tile.F.kp T.with_tile.b (passes_call (takes_of rfl rfl rfl rfl) (fun _ _ _ _ h => h)) (fun _ _ h => h) (da_cons (dv 0) (da_cons (kown K mg (ok_with_tile T) (hr.mono (by decide)) (by rfl) T.with_tile.m T.with_tile.F.kp T.with_tile.b (passes_call (takes_of rfl rfl rfl rfl) (fun _ _ _ _ h => h)) (fun _ _ h => h) (da_cons (dv 0) (da_cons (dv 1) (da_cons (dv 2) (da_cons (dv 5) da_nil)))) (args_lenS (args_lenS (args_lenS (args_lenS args_len0))))) (da_cons (dv 3) (da_cons (dv 4) da_nil)))) (args_lenS (args_lenS (args_lenS (args_lenS args_len0))))))))⟩

def bf_law : SF :=
 seqS (asgS [.fz, .fz, .fz, .fz, .fz, .fz, .fz, .fz, .fz] 1 (tupE (consA (tupE (consA (cE (.int 0)) (consA (cE (.int 1)) (consA (cE (.int 0)) (consA (cE (.int 1)) (nilA)))))) (consA (tupE (consA (cE (.int 1)) (consA (cE (.int 0)) (consA (cE (.int 1)) (consA (cE (.int 0)) (nilA)))))) (consA (tupE (consA (cE (.int 2)) (consA (cE (.int 2)) (consA (cE (.int 2)) (consA (cE (.int 2)) (nilA)))))) (nilA))))))
 (seqS (asgS [.fz, .fz, .fz, .fz, .fz, .fz, .fz, .fz, .fz] 2 (tupE (consA (tupE (consA (cE (.int 0)) (consA (cE .none) (nilA)))) (consA (tupE (consA (cE (.int 2)) (consA (cE (.int 1)) (nilA)))) (nilA)))))
 (seqS (asgS [.fz, .fz, .fz, .fz, .fz, .fz, .fz, .fz, .fz] 3 (lstE (smallA (consA (cE .none) (consA (tupE (nilA)) (consA (tupE (consA (cE (.int 0)) (consA (cE (.int 1)) (nilA)))) (consA (tupE (consA (cE (.int 0)) (consA (cE (.int 1)) (consA (cE (.int 1)) (nilA))))) (consA (tupE (consA (cE (.int 0)) (consA (cE (.int 1)) (consA (cE (.int 3)) (nilA))))) (consA (tupE (consA (cE (.int 0)) (consA (cE (.int 1)) (consA (cE (.int 2)) (consA (cE (.int 2)) (nilA)))))) (consA (lstE (smallA (consA (cE (.int 0)) (consA (cE (.int 1)) (consA (cE (.int 2)) (nilA)))))) (consA (tupE (consA (cE (.int 0)) (consA (cE (.int 1)) (consA (cE (.str "2")) (nilA))))) (consA (tupE (consA (cE (.int 0)) (consA (cE (.bool true)) (consA (cE (.int 2)) (nilA))))) (consA (cE (.int 5)) (nilA))))))))))))))
 (seqS (forS [.fz, .fz, .fz, .fz, .fz, .fz, .fz, .fz, .fz] (rangeI range1D (consA (cE (.int 4)) (nilA))) (tgN 4) (
  seqS (asgS [.fz, .fz, .fz, .fz, .fz, .fz, .fz, .fz, .fz] 5 (op2E ixD (lstE (smallA (consA (tupE (consA (cE (.int 2)) (consA (cE (.int 0)) (nilA)))) (consA (tupE (consA (cE (.int 0)) (consA (cE (.int 2)) (nilA)))) (consA (tupE (consA (op1E negD (cE (.int 1))) (consA (cE (.int 0)) (nilA)))) (consA (tupE (consA (cE (.int 0)) (consA (op1E negD (cE (.int 1))) (nilA)))) (nilA))))))) (op2E modD (op2E addD (ownE m_l_pick (consA (vE 0) (consA (cE (.int 0)) (consA (cE (.int 4)) (nilA))))) (vE 4)) (cE (.int 4)))))
 (seqS (asgS [.fz, .fz, .fz, .fz, .fz, .fz, .fz, .fz, .fz] 6 (op2E ixD (vE 3) (op2E modD (op2E addD (ownE m_l_pick (consA (vE 0) (consA (cE (.int 1)) (consA (cE (.int 10)) (nilA))))) (op2E mulD (cE (.int 3)) (vE 4))) (cE (.int 10)))))
 (seqS (asgS [.fz, .fz, .fz, .fz, .fz, .fz, .fz, .fz, .fz] 7 (op2E ixD (lstE (smallA (consA (cE (.int 3)) (consA (op1E negD (cE (.int 1))) (consA (cE (.int 9)) (consA (cE (.int 16)) (nilA))))))) (op2E modD (op2E addD (ownE m_l_pick (consA (vE 0) (consA (cE (.int 2)) (consA (cE (.int 4)) (nilA))))) (vE 4)) (cE (.int 4)))))
 (seqS (newS [.fz, .fz, .fz, .fz, .fz, .fz, .fz, .fz, .fz] 8 (smallA (consA (toldE ["NoPlace", "NoTile"] (ownE m_exchanged (consA (vE 1) (consA (vE 2) (consA (vE 5) (consA (tupE (consA (cE (.int 0)) (consA (cE (.int 0)) (nilA)))) (nilA)))))) m_l_class) (nilA))))
 (seqS (appS [.fz, .fz, .fz, .fz, .fz, .fz, .fz, .fz, .ls] 8 (toldE ["NoPlace", "NoTile"] (ownE m_exchanged (consA (vE 1) (consA (vE 2) (consA (tupE (consA (cE (.int 0)) (consA (cE (.int 0)) (nilA)))) (consA (vE 5) (nilA)))))) m_l_class))
 (seqS (ifS [.fz, .fz, .fz, .fz, .fz, .fz, .fz, .fz, .ls] (testE (op2E (neD) (vE 8) (op2E mulD (lstE (smallA (consA (cE (.str "no place")) (nilA)))) (cE (.int 2)))))
  (retS [.fz, .fz, .fz, .fz, .fz, .fz, .fz, .fz, .ls] (cE (.bool false)))
  (nxS))
 (seqS (newS [.fz, .fz, .fz, .fz, .fz, .fz, .fz, .fz, .ls] 8 (smallA (consA (toldE ["NoPlace", "NoTile"] (ownE m_set_by (consA (vE 1) (consA (vE 6) (nilA)))) m_l_class) (nilA))))
 (seqS (appS [.fz, .fz, .fz, .fz, .fz, .fz, .fz, .fz, .ls] 8 (toldE ["NoPlace", "NoTile"] (ownE m_floor_by (consA (vE 1) (consA (vE 2) (consA (vE 6) (nilA))))) m_l_class))
 (seqS (appS [.fz, .fz, .fz, .fz, .fz, .fz, .fz, .fz, .ls] 8 (toldE ["NoPlace", "NoTile"] (ownE m_replaced (consA (vE 1) (consA (vE 2) (consA (cE (.int 0)) (consA (vE 7) (nilA)))))) m_l_class))
 (seqS (appS [.fz, .fz, .fz, .fz, .fz, .fz, .fz, .fz, .ls] 8 (toldE ["NoPlace", "NoTile"] (ownE m_replaced (consA (vE 1) (consA (vE 2) (consA (cE .none) (consA (vE 7) (nilA)))))) m_l_class))
 (seqS (appS [.fz, .fz, .fz, .fz, .fz, .fz, .fz, .fz, .ls] 8 (toldE ["NoPlace", "NoTile"] (ownE m_replaced (consA (vE 1) (consA (tupE (consA (tupE (consA (cE (.int 0)) (nilA))) (nilA))) (consA (cE (.int 1)) (consA (vE 7) (nilA)))))) m_l_class))
 (seqS (ifS [.fz, .fz, .fz, .fz, .fz, .fz, .fz, .fz, .ls] (testE (op2E (neD) (vE 8) (op2E mulD (lstE (smallA (consA (cE (.str "no tile")) (nilA)))) (cE (.int 5)))))
  (retS [.fz, .fz, .fz, .fz, .fz, .fz, .fz, .fz, .ls] (cE (.bool false)))
  (nxS))
 (nxS))))))))))))) [4, 5, 6, 7, 8])
 (seqS (ifS [.fz, .fz, .fz, .fz, .fz, .fz, .fz, .fz, .fz] (testE (op2E (neD) (ownE m_set_by (consA (vE 1) (consA (ordT (consA (cE (.int 2)) (consA (cE (.int 0)) (consA (cE (.int 1)) (nilA))))) (nilA)))) (tupE (consA (tupE (consA (cE (.int 2)) (consA (cE (.int 2)) (consA (cE (.int 2)) (consA (cE (.int 2)) (nilA)))))) (consA (tupE (consA (cE (.int 0)) (consA (cE (.int 1)) (consA (cE (.int 0)) (consA (cE (.int 1)) (nilA)))))) (consA (tupE (consA (cE (.int 1)) (consA (cE (.int 0)) (consA (cE (.int 1)) (consA (cE (.int 0)) (nilA)))))) (nilA)))))))
  (retS [.fz, .fz, .fz, .fz, .fz, .fz, .fz, .fz, .fz] (cE (.bool false)))
  (nxS))
 (retS [.fz, .fz, .fz, .fz, .fz, .fz, .fz, .fz, .fz] (andE (op2E (eqD) (ownE m_floor_by (consA (vE 1) (consA (vE 2) (consA (ordT (consA (cE (.int 2)) (consA (cE (.int 0)) (consA (cE (.int 1)) (nilA))))) (nilA))))) (tupE (consA (tupE (consA (cE (.int 1)) (consA (cE .none) (nilA)))) (consA (tupE (consA (cE (.int 0)) (consA (cE (.int 2)) (nilA)))) (nilA))))) (op2E (eqD) (ownE m_replaced (consA (vE 1) (consA (vE 2) (consA (cE (.int 1)) (consA (cE (.int 1)) (nilA)))))) (vE 2))))))))
theorem bf_eq : b_law = bf_law := by
  unfold b_law
  unfold b_law_0
  unfold b_law_1
  unfold b_law_2
  unfold b_law_3
  unfold b_law_4
  rfl
abbrev n_law : List Str := ["_law_script", "_law_tiles", "_law_floor", "_law_odd", "_law_k", "_law_place", "_law_order", "_law_number", "_law_told_here"]
theorem sc_law : FnScope n_law ["_law_script"] (defScope s_law) := ⟨rfl, rfl, rfl, by decide +kernel, rfl, by decide +kernel, by decide +kernel⟩
theorem ok_law (T : Txt P w K mg) (TB : TBs T base) : FnOk P w K mg base (L2.CX P w) 7 T.law.f T.law.fd ["_law_script"] (spT T.tabs K mg 1 m_law) := by
  unfold m_law
  rw [bf_eq]
  refine fn_okT (N := n_law) (fb := bf_law) (ws := [.fz, .fz, .fz, .fz, .fz, .fz, .fz, .fz, .fz]) T.law.F sc_law rfl rfl fun hM A outer s H E hr => ⟨_, [.fz, .fz, .fz, .fz, .fz, .fz, .fz, .fz, .fz], (ds_cons (s_asg 1 sc_law.nd (de_tup (da_cons (de_tup (da_cons de_int (da_cons de_int (da_cons de_int (da_cons de_int da_nil))))) (da_cons (de_tup (da_cons de_int (da_cons de_int (da_cons de_int (da_cons de_int da_nil))))) (da_cons (de_tup (da_cons de_int (da_cons de_int (da_cons de_int (da_cons de_int da_nil))))) da_nil)))))
 (ds_cons (s_asg 2 sc_law.nd (de_tup (da_cons (de_tup (da_cons de_int (da_cons de_non da_nil))) (da_cons (de_tup (da_cons de_int (da_cons de_int da_nil))) da_nil))))
 (ds_cons (s_asg 3 sc_law.nd (de_new (dn_lst (da_cons de_non (da_cons (de_tup da_nil) (da_cons (de_tup (da_cons de_int (da_cons de_int da_nil))) (da_cons (de_tup (da_cons de_int (da_cons de_int (da_cons de_int da_nil)))) (da_cons (de_tup (da_cons de_int (da_cons de_int (da_cons de_int da_nil)))) (da_cons (de_tup (da_cons de_int (da_cons de_int (da_cons de_int (da_cons de_int da_nil))))) (da_cons (de_new (dn_lst (da_cons de_int (da_cons de_int (da_cons de_int da_nil))))) (da_cons (de_tup (da_cons de_int (da_cons de_int (da_cons de_str da_nil)))) (da_cons (de_tup (da_cons de_int (da_cons de_bl (da_cons de_int da_nil)))) (da_cons de_int da_nil)))))))))))))
 (ds_cons (d_for (ks := [4, 5, 6, 7, 8]) (passes_of rfl) rfl (di_range1 (by rfl) T.b_range (da_cons de_int da_nil)) (tgn 4 sc_law.nd) (allFz_ok rfl)
  (ds_cons (s_asg 5 sc_law.nd (de_ix (kix K) og_ix (de_new (dn_lst (da_cons (de_tup (da_cons de_int (da_cons de_int da_nil))) (da_cons (de_tup (da_cons de_int (da_cons de_int da_nil))) (da_cons (de_tup (da_cons (de_neg de_int) (da_cons de_int da_nil))) (da_cons (de_tup (da_cons de_int (da_cons (de_neg de_int) da_nil))) da_nil)))))) (de_op op_mod og_mod (de_op (kadd K) og_add (kown K mg (ok_l_pick T) (hr.mono (by decide)) (by rfl) T.l_pick.m T.l_pick.F.kp T.l_pick.b (passes_call (takes_of rfl rfl rfl rfl) (fun _ _ _ _ h => h)) (fun _ _ h => h) (da_cons (dv 0) (da_cons de_int (da_cons de_int da_nil))) (args_lenS (args_lenS (args_lenS args_len0)))) (dv 4)) de_int) (fun _ _ => rfl)))
 (ds_cons (s_asg 6 sc_law.nd (de_ix (kix K) og_ix (dv 3) (de_op op_mod og_mod (de_op (kadd K) og_add (kown K mg (ok_l_pick T) (hr.mono (by decide)) (by rfl) T.l_pick.m T.l_pick.F.kp T.l_pick.b (passes_call (takes_of rfl rfl rfl rfl) (fun _ _ _ _ h => h)) (fun _ _ h => h) (da_cons (dv 0) (da_cons de_int (da_cons de_int da_nil))) (args_lenS (args_lenS (args_lenS args_len0)))) (de_op (kmul K) og_mul de_int (dv 4))) de_int) (fun _ _ => rfl)))
 (ds_cons (s_asg 7 sc_law.nd (de_ix (kix K) og_ix (de_new (dn_lst (da_cons de_int (da_cons (de_neg de_int) (da_cons de_int (da_cons de_int da_nil)))))) (de_op op_mod og_mod (de_op (kadd K) og_add (kown K mg (ok_l_pick T) (hr.mono (by decide)) (by rfl) T.l_pick.m T.l_pick.F.kp T.l_pick.b (passes_call (takes_of rfl rfl rfl rfl) (fun _ _ _ _ h => h)) (fun _ _ h => h) (da_cons (dv 0) (da_cons de_int (da_cons de_int da_nil))) (args_lenS (args_lenS (args_lenS args_len0)))) (dv 4)) de_int) (fun _ _ => rfl)))
 (ds_cons (s_new 8 sc_law.nd (dn_lst (da_cons (kTold K 4 1 (Ng := n_l_told) (sc := defScope s_law) hM T.mem_law T.hu_law T.l_told sc_l_told T.l_class ((ok_l_class T).mono (by decide)) T.p_FloorError (cauK_cons T.p_FloorError T.w_NoPlace T.s_NoPlace_FloorError (cauK_cons T.p_FloorError T.w_NoTile T.s_NoTile_FloorError cauK_nil)) TB.law (hr.mono (by decide)) (by decide +kernel) (fun A outer s H E f1 c1 hr => ⟨_, (kown K mg (ok_exchanged T) (hr.mono (by decide)) (by rfl) T.exchanged.m T.exchanged.F.kp T.exchanged.b (passes_call (takes_of rfl rfl rfl rfl) (fun _ _ _ _ h => h)) (fun _ _ h => h) (da_cons (dv 1) (da_cons (dv 2) (da_cons (dv 5) (da_cons (de_tup (da_cons de_int (da_cons de_int da_nil))) da_nil)))) (args_lenS (args_lenS (args_lenS (args_lenS args_len0)))))⟩)) da_nil)))
 (ds_cons (s_app 8 (kTold K 4 1 (Ng := n_l_told) (sc := defScope s_law) hM T.mem_law T.hu_law T.l_told sc_l_told T.l_class ((ok_l_class T).mono (by decide)) T.p_FloorError (cauK_cons T.p_FloorError T.w_NoPlace T.s_NoPlace_FloorError (cauK_cons T.p_FloorError T.w_NoTile T.s_NoTile_FloorError cauK_nil)) TB.law (hr.mono (by decide)) (by decide +kernel) (fun A outer s H E f1 c1 hr => ⟨_, (kown K mg (ok_exchanged T) (hr.mono (by decide)) (by rfl) T.exchanged.m T.exchanged.F.kp T.exchanged.b (passes_call (takes_of rfl rfl rfl rfl) (fun _ _ _ _ h => h)) (fun _ _ h => h) (da_cons (dv 1) (da_cons (dv 2) (da_cons (de_tup (da_cons de_int (da_cons de_int da_nil))) (da_cons (dv 5) da_nil)))) (args_lenS (args_lenS (args_lenS (args_lenS args_len0)))))⟩)))
 (ds_cons (d_if (dt_cmp (kne K (r64 hr)) og_ne (dv 8) (de_op (kmul K) og_mul (de_new (dn_lst (da_cons de_str da_nil))) de_int) (nomark _))
  (ds_one (d_ret de_bl))
  ds_nil)
 (ds_cons (s_new 8 sc_law.nd (dn_lst (da_cons (kTold K 4 1 (Ng := n_l_told) (sc := defScope s_law) hM T.mem_law T.hu_law T.l_told sc_l_told T.l_class ((ok_l_class T).mono (by decide)) T.p_FloorError (cauK_cons T.p_FloorError T.w_NoPlace T.s_NoPlace_FloorError (cauK_cons T.p_FloorError T.w_NoTile T.s_NoTile_FloorError cauK_nil)) TB.law (hr.mono (by decide)) (by decide +kernel) (fun A outer s H E f1 c1 hr => ⟨_, (kown K mg (ok_set_by T) (hr.mono (by decide)) (by rfl) T.set_by.m T.set_by.F.kp T.set_by.b (passes_call (takes_of rfl rfl rfl rfl) (fun _ _ _ _ h => h)) (fun _ _ h => h) (da_cons (dv 1) (da_cons (dv 6) da_nil)) (args_lenS (args_lenS args_len0)))⟩)) da_nil)))
 (ds_cons (s_app 8 (kTold K 4 1 (Ng := n_l_told) (sc := defScope s_law) hM T.mem_law T.hu_law T.l_told sc_l_told T.l_class ((ok_l_class T).mono (by decide)) T.p_FloorError (cauK_cons T.p_FloorError T.w_NoPlace T.s_NoPlace_FloorError (cauK_cons T.p_FloorError T.w_NoTile T.s_NoTile_FloorError cauK_nil)) TB.law (hr.mono (by decide)) (by decide +kernel) (fun A outer s H E f1 c1 hr => ⟨_, (kown K mg (ok_floor_by T) (hr.mono (by decide)) (by rfl) T.floor_by.m T.floor_by.F.kp T.floor_by.b (passes_call (takes_of rfl rfl rfl rfl) (fun _ _ _ _ h => h)) (fun _ _ h => h) (da_cons (dv 1) (da_cons (dv 2) (da_cons (dv 6) da_nil))) (args_lenS (args_lenS (args_lenS args_len0))))⟩)))
 (ds_cons (s_app 8 (kTold K 4 1 (Ng := n_l_told) (sc := defScope s_law) hM T.mem_law T.hu_law T.l_told sc_l_told T.l_class ((ok_l_class T).mono (by decide)) T.p_FloorError (cauK_cons T.p_FloorError T.w_NoPlace T.s_NoPlace_FloorError (cauK_cons T.p_FloorError T.w_NoTile T.s_NoTile_FloorError cauK_nil)) TB.law (hr.mono (by decide)) (by decide +kernel) (fun A outer s H E f1 c1 hr => ⟨_, (kown K mg (ok_replaced T) (hr.mono (by decide)) (by rfl) T.replaced.m T.replaced.F.kp T.replaced.b (passes_call (takes_of rfl rfl rfl rfl) (fun _ _ _ _ h => h)) (fun _ _ h => h) (da_cons (dv 1) (da_cons (dv 2) (da_cons de_int (da_cons (dv 7) da_nil)))) (args_lenS (args_lenS (args_lenS (args_lenS args_len0)))))⟩)))
 (ds_cons (s_app 8 (kTold K 4 1 (Ng := n_l_told) (sc := defScope s_law) hM T.mem_law T.hu_law T.l_told sc_l_told T.l_class ((ok_l_class T).mono (by decide)) T.p_FloorError (cauK_cons T.p_FloorError T.w_NoPlace T.s_NoPlace_FloorError (cauK_cons T.p_FloorError T.w_NoTile T.s_NoTile_FloorError cauK_nil)) TB.law (hr.mono (by decide)) (by decide +kernel) (fun A outer s H E f1 c1 hr => ⟨_, (kown K mg (ok_replaced T) (hr.mono (by decide)) (by rfl) T.replaced.m T.replaced.F.kp T.replaced.b (passes_call (takes_of rfl rfl rfl rfl) (fun _ _ _ _ h => h)) (fun _ _ h => h) (da_cons (dv 1) (da_cons (dv 2) (da_cons de_non (da_cons (dv 7) da_nil)))) (args_lenS (args_lenS (args_lenS (args_lenS args_len0)))))⟩)))
 (ds_cons (s_app 8 (kTold K 4 1 (Ng := n_l_told) (sc := defScope s_law) hM T.mem_law T.hu_law T.l_told sc_l_told T.l_class ((ok_l_class T).mono (by decide)) T.p_FloorError (cauK_cons T.p_FloorError T.w_NoPlace T.s_NoPlace_FloorError (cauK_cons T.p_FloorError T.w_NoTile T.s_NoTile_FloorError cauK_nil)) TB.law (hr.mono (by decide)) (by decide +kernel) (fun A outer s H E f1 c1 hr => ⟨_, (kown K mg (ok_replaced T) (hr.mono (by decide)) (by rfl) T.replaced.m T.replaced.F.kp T.replaced.b (passes_call (takes_of rfl rfl rfl rfl) (fun _ _ _ _ h => h)) (fun _ _ h => h) (da_cons (dv 1) (da_cons (de_tup (da_cons (de_tup (da_cons de_int da_nil)) da_nil)) (da_cons de_int (da_cons (dv 7) da_nil)))) (args_lenS (args_lenS (args_lenS (args_lenS args_len0)))))⟩)))
 (ds_cons (d_if (dt_cmp (kne K (r64 hr)) og_ne (dv 8) (de_op (kmul K) og_mul (de_new (dn_lst (da_cons de_str da_nil))) de_int) (nomark _))
  (ds_one (d_ret de_bl))
  ds_nil)
 (ds_frz 8 rfl ds_nil))))))))))))))
 (ds_cons (d_if (dt_cmp (kne K (r64 hr)) og_ne (kownq K mg (ok_set_by T) (hr.mono (by decide)) (by rfl) T.set_by.m T.set_by.F.kp T.set_by.b (passes_call (takes_of rfl rfl rfl rfl) (fun _ _ _ _ h => h)) (fun _ _ h => h) (daq_cons (deq_of (dv 1)) (daq_cons (deq_ordT (da_cons de_int (da_cons de_int (da_cons de_int da_nil)))) daq_nil)) (args_lenS (args_lenS args_len0))) (de_tup (da_cons (de_tup (da_cons de_int (da_cons de_int (da_cons de_int (da_cons de_int da_nil))))) (da_cons (de_tup (da_cons de_int (da_cons de_int (da_cons de_int (da_cons de_int da_nil))))) (da_cons (de_tup (da_cons de_int (da_cons de_int (da_cons de_int (da_cons de_int da_nil))))) da_nil)))) (nomark _))
  (ds_one (d_ret de_bl))
  ds_nil)
 (ds_one (d_ret (de_and (de_cmp (keq K (r64 hr)) og_eq (kownq K mg (ok_floor_by T) (hr.mono (by decide)) (by rfl) T.floor_by.m T.floor_by.F.kp T.floor_by.b (passes_call (takes_of rfl rfl rfl rfl) (fun _ _ _ _ h => h)) (fun _ _ h => h) (daq_cons (deq_of (dv 1)) (daq_cons (deq_of (dv 2)) (daq_cons (deq_ordT (da_cons de_int (da_cons de_int (da_cons de_int da_nil)))) daq_nil))) (args_lenS (args_lenS (args_lenS args_len0)))) (de_tup (da_cons (de_tup (da_cons de_int (da_cons de_non da_nil))) (da_cons (de_tup (da_cons de_int (da_cons de_int da_nil))) da_nil))) (nomark _)) (de_one (de_cmp (keq K (r64 hr)) og_eq (kown K mg (ok_replaced T) (hr.mono (by decide)) (by rfl) T.replaced.m T.replaced.F.kp T.replaced.b (passes_call (takes_of rfl rfl rfl rfl) (fun _ _ _ _ h => h)) (fun _ _ h => h) (da_cons (dv 1) (da_cons (dv 2) (da_cons de_int (da_cons de_int da_nil)))) (args_lenS (args_lenS (args_lenS (args_lenS args_len0))))) (dv 2) (nomark _)))))))))))⟩

end
end LW
namespace LW
open PySem PySem.Spec L2 DL
/-! the drawn numbers -/
abbrev scr (ns : List Int) : D := .list (ns.map .int)
def cellV (ns : List Int) (k : Int) : Int := if k < ns.length then ns.getD k.toNat 0 else if ns = [] then 0 else ns.getD (k % ns.length).toNat 0 * 31 + k
def drawnV (ns : List Int) (k : Int) : Int := (cellV ns k + 6151 * (k + 1)) * 40692 % 2147483399
def pickV (ns : List Int) (k many : Int) : Nat := ((drawnV ns k * drawnV ns k + drawnV ns k / 31) % 2147483629 % many).toNat
theorem scr_cl (ns : List Int) : cl 20 (scr ns) = true := by simp [List.all_map]
theorem get_ns (ns : List Int) (k : Nat) (h : k < ns.length) : (ns.map PyData.int)[k]? = some (PyData.int (ns.getD k 0)) := by
  simp [List.getElem?_map, List.getD_eq_getElem?_getD, h]
theorem cell_ok (ns : List Int) (k : Int) (h : 0 ≤ k) : m_l_cell [scr ns, .int k] = .ok (.int (cellV ns k)) := by
  unfold m_l_cell b_l_cell
  simp only [runD_ap]
  simp [-List.map_map]
  by_cases h1 : k < ns.length
  · rw [if_pos h1]
    rw [at_pos _ h, get_ns _ _ (by omega)]
    simp [cellV, h1]
  · rw [if_neg h1]
    rw [eqD_nil (scr_cl ns)]
    by_cases h2 : ns = []
    · subst h2
      simp [cellV]
      try omega
    · have hl : 0 < ns.length := List.length_pos_iff.mpr h2
      have hm := Int.emod_nonneg k (show (ns.length : Int) ≠ 0 by omega)
      have hm2 := Int.emod_lt_of_pos k (show 0 < (ns.length : Int) by omega)
      simp [h2, hl]
      rw [at_pos _ hm, get_ns _ _ (by omega)]
      simp [cellV, h1, h2]
theorem pick_ok (ns : List Int) (k many : Int) (h : 0 ≤ k) (hm : 0 < many) : m_l_pick [scr ns, .int k, .int many] = .ok (.int (pickV ns k many : Nat)) := by
  unfold m_l_pick b_l_pick
  simp only [runD_ap]
  simp [-List.map_map]
  rw [cell_ok ns k h]
  have hd1 := Int.emod_nonneg ((cellV ns k + 6151 * (k + 1)) * 40692) (show (2147483399 : Int) ≠ 0 by omega)
  have hd2 := Int.emod_lt_of_pos ((cellV ns k + 6151 * (k + 1)) * 40692) (show (0 : Int) < 2147483399 by omega)
  have hp := Int.emod_nonneg ((drawnV ns k * drawnV ns k + drawnV ns k / 31) % 2147483629) (show many ≠ 0 by omega)
  simp
  rw [if_pos ⟨by omega, by omega⟩]
  simp [hm]
  unfold pickV
  rw [Int.toNat_of_nonneg hp]
  rfl
theorem pick_lt (ns : List Int) (k many : Int) (hm : 0 < many) : (pickV ns k many : Int) < many := by
  have hp := Int.emod_nonneg ((drawnV ns k * drawnV ns k + drawnV ns k / 31) % 2147483629) (show many ≠ 0 by omega)
  have := Int.emod_lt_of_pos ((drawnV ns k * drawnV ns k + drawnV ns k / 31) % 2147483629) hm
  unfold pickV
  rw [Int.toNat_of_nonneg hp]
  exact this

/-! k87 -/
def tl7 : D := .tuple [.tuple [.int 0, .int 1, .int 0, .int 1], .tuple [.int 1, .int 0, .int 1, .int 0], .tuple [.int 2, .int 2, .int 2, .int 2]]
def fl7 : D := .tuple [.tuple [.int 0, .none], .tuple [.int 2, .int 1]]
def pl7 : List D := [.tuple [.int 2, .int 0], .tuple [.int 0, .int 2], .tuple [.int (-1), .int 0], .tuple [.int 0, .int (-1)]]
def od7 : List D := [.none, .tuple [], .tuple [.int 0, .int 1], .tuple [.int 0, .int 1, .int 1], .tuple [.int 0, .int 1, .int 3], .tuple [.int 0, .int 1, .int 2, .int 2], .list [.int 0, .int 1, .int 2], .tuple [.int 0, .int 1, .str "2"], .tuple [.int 0, .bool true, .int 2], .int 5]
def nm7 : List D := [.int 3, .int (-1), .int 9, .int 16]
def is (a : Int) : List Int → List Int
  | [] => [a]
  | b :: l => if a ≤ b then a :: b :: l else b :: is a l
def isort : List Int → List Int
  | [] => []
  | a :: l => is a (isort l)
theorem is_perm (a : Int) : ∀ l, (is a l).Perm (a :: l)
  | [] => .refl _
  | b :: l => by
    unfold is
    split
    · exact .refl _
    · exact ((is_perm a l).cons b).trans (.swap a b l)
theorem is_mem (a x : Int) (l : List Int) (h : x ∈ is a l) : x = a ∨ x ∈ l := by
  have := (is_perm a l).mem_iff.mp h
  simpa using this
theorem is_ord (a : Int) : ∀ l : List Int, l.Pairwise (· ≤ ·) → (is a l).Pairwise (· ≤ ·)
  | [], _ => by simp [is]
  | b :: l, h => by
    obtain ⟨h1, h2⟩ := List.pairwise_cons.mp h
    unfold is
    split
    · rename_i hab
      refine List.pairwise_cons.mpr ⟨fun x hx => ?_, h⟩
      rcases List.mem_cons.mp hx with e | e
      · omega
      · have := h1 x e; omega
    · rename_i hab
      refine List.pairwise_cons.mpr ⟨fun x hx => ?_, is_ord a l h2⟩
      rcases is_mem a x l hx with e | e
      · omega
      · exact h1 x e
theorem isort_perm : ∀ l, (isort l).Perm l
  | [] => .refl _
  | a :: l => (is_perm a _).trans ((isort_perm l).cons a)
theorem isort_ord : ∀ l, (isort l).Pairwise (· ≤ ·)
  | [] => .nil
  | a :: l => is_ord a _ (isort_ord l)
theorem sortN_is (ns : List Int) : sortN ns = isort ns := (sortN_of (isort_perm ns) (isort_ord ns)).symm
def sortTI : List D → Option D
  | [.tuple xs] => (intsOf xs).map fun ns => .list ((isort ns).map .int)
  | _ => none
theorem sortT_is : sortTD = sortTI := by
  funext ds
  unfold sortTD sortTI
  split <;> simp_all [sortN_is]
def cs7 : List Str := ["NoPlace", "NoTile"]
theorem ex_a : ∀ P ∈ pl7, outT cs7 m_l_class (m_exchanged [tl7, fl7, P, .tuple [.int 0, .int 0]]) = .ok (.str "no place") := by
  intro P hP
  unfold pl7 at hP
  simp only [List.mem_cons, List.not_mem_nil, or_false] at hP
  rcases hP with rfl | rfl | rfl | rfl <;> kernel_rfl
theorem ex_b : ∀ P ∈ pl7, outT cs7 m_l_class (m_exchanged [tl7, fl7, .tuple [.int 0, .int 0], P]) = .ok (.str "no place") := by
  intro P hP
  unfold pl7 at hP
  simp only [List.mem_cons, List.not_mem_nil, or_false] at hP
  rcases hP with rfl | rfl | rfl | rfl <;> kernel_rfl
theorem set_b : ∀ P ∈ od7, outT cs7 m_l_class (m_set_by [tl7, P]) = .ok (.str "no tile") := by
  intro P hP
  unfold m_set_by b_set_by m_look_order b_look_order
  rw [sortT_is]
  unfold od7 at hP
  simp only [List.mem_cons, List.not_mem_nil, or_false] at hP
  rcases hP with rfl | rfl | rfl | rfl | rfl | rfl | rfl | rfl | rfl | rfl <;> kernel_rfl
theorem flo_b : ∀ P ∈ od7, outT cs7 m_l_class (m_floor_by [tl7, fl7, P]) = .ok (.str "no tile") := by
  intro P hP
  unfold m_floor_by b_floor_by m_look_order b_look_order
  rw [sortT_is]
  unfold od7 at hP
  simp only [List.mem_cons, List.not_mem_nil, or_false] at hP
  rcases hP with rfl | rfl | rfl | rfl | rfl | rfl | rfl | rfl | rfl | rfl <;> kernel_rfl
theorem rep_a : ∀ P ∈ nm7, outT cs7 m_l_class (m_replaced [tl7, fl7, .int 0, P]) = .ok (.str "no tile") := by
  intro P hP
  unfold nm7 at hP
  simp only [List.mem_cons, List.not_mem_nil, or_false] at hP
  rcases hP with rfl | rfl | rfl | rfl <;> kernel_rfl
theorem rep_b : ∀ P ∈ nm7, outT cs7 m_l_class (m_replaced [tl7, fl7, .none, P]) = .ok (.str "no tile") := by
  intro P hP
  unfold nm7 at hP
  simp only [List.mem_cons, List.not_mem_nil, or_false] at hP
  rcases hP with rfl | rfl | rfl | rfl <;> kernel_rfl
theorem rep_c : ∀ P ∈ nm7, outT cs7 m_l_class (m_replaced [tl7, .tuple [.tuple [.int 0]], .int 1, P]) = .ok (.str "no tile") := by
  intro P hP
  unfold nm7 at hP
  simp only [List.mem_cons, List.not_mem_nil, or_false] at hP
  rcases hP with rfl | rfl | rfl | rfl <;> kernel_rfl
theorem set_g : m_set_by [tl7, ordD [.int 2, .int 0, .int 1]] = .ok (.tuple [.tuple [.int 2, .int 2, .int 2, .int 2], .tuple [.int 0, .int 1, .int 0, .int 1], .tuple [.int 1, .int 0, .int 1, .int 0]]) := by
  unfold m_set_by b_set_by m_look_order b_look_order
  rw [sortT_is]
  kernel_rfl
theorem flo_g : m_floor_by [tl7, fl7, ordD [.int 2, .int 0, .int 1]] = .ok (.tuple [.tuple [.int 1, .none], .tuple [.int 0, .int 2]]) := by
  unfold m_floor_by b_floor_by m_look_order b_look_order
  rw [sortT_is]
  kernel_rfl
theorem rep_g : m_replaced [tl7, fl7, .int 1, .int 1] = .ok fl7 := by kernel_rfl
theorem ix_mem {xs : List D} {m : Int} (h0 : 0 ≤ m) (h1 : m < xs.length) : ∃ d ∈ xs, atI xs m = some d := by
  have hk : m.toNat < xs.length := by omega
  refine ⟨xs[m.toNat], List.getElem_mem hk, ?_⟩
  rw [at_pos _ h0]
  simp [hk]
theorem mem_pl7 {P : D} (h : P ∈ pl7) : noList P = true ∧ okD P = .ok P := by
  unfold pl7 at h
  simp only [List.mem_cons, List.not_mem_nil, or_false] at h
  rcases h with rfl | rfl | rfl | rfl <;> exact ⟨rfl, rfl⟩
theorem mem_od7 {P : D} (h : P ∈ od7) : okD P = .ok P := by
  unfold od7 at h
  simp only [List.mem_cons, List.not_mem_nil, or_false] at h
  rcases h with rfl | rfl | rfl | rfl | rfl | rfl | rfl | rfl | rfl | rfl <;> rfl
theorem mem_nm7 {P : D} (h : P ∈ nm7) : okD P = .ok P := by
  unfold nm7 at h
  simp only [List.mem_cons, List.not_mem_nil, or_false] at h
  rcases h with rfl | rfl | rfl | rfl <;> rfl
theorem ne2 : neD (.list [.str "no place", .str "no place"]) (.list [.str "no place", .str "no place"]) = some (.bool false) := by kernel_rfl
theorem ne5 : neD (.list [.str "no tile", .str "no tile", .str "no tile", .str "no tile", .str "no tile"]) (.list [.str "no tile", .str "no tile", .str "no tile", .str "no tile", .str "no tile"]) = some (.bool false) := by kernel_rfl
theorem law_true (ns : List Int) : m_law [scr ns] = .ok (.bool true) := by
  have hr : range1D [PyData.int 4] = some ((List.range 4).map fun k => PyData.int (k : Nat)) := by kernel_rfl
  have h1 := ex_a; have h2 := ex_b; have h3 := set_b; have h4 := flo_b; have h5 := rep_a; have h6 := rep_b; have h7 := rep_c; have g1 := set_g; have g2 := flo_g; have g3 := rep_g
  unfold tl7 fl7 at h1 h2 h4 h5 h6 g2 g3
  unfold cs7 at h1 h2 h4 h5 h6
  unfold tl7 cs7 at h3 h7
  unfold tl7 at g1
  have e1 : neD (.tuple [.tuple [.int 2, .int 2, .int 2, .int 2], .tuple [.int 0, .int 1, .int 0, .int 1], .tuple [.int 1, .int 0, .int 1, .int 0]]) (.tuple [.tuple [.int 2, .int 2, .int 2, .int 2], .tuple [.int 0, .int 1, .int 0, .int 1], .tuple [.int 1, .int 0, .int 1, .int 0]]) = some (.bool false) := by kernel_rfl
  have e2 : eqD (.tuple [.tuple [.int 1, .none], .tuple [.int 0, .int 2]]) (.tuple [.tuple [.int 1, .none], .tuple [.int 0, .int 2]]) = some (.bool true) := by kernel_rfl
  have e3 : eqD (.tuple [.tuple [.int 0, .none], .tuple [.int 2, .int 1]]) (.tuple [.tuple [.int 0, .none], .tuple [.int 2, .int 1]]) = some (.bool true) := by kernel_rfl
  unfold m_law b_law b_law_0 b_law_1 b_law_2
  simp only [runD_ap]
  simp [-List.map_map]
  unfold b_law_3
  simp [-List.map_map, hr]
  rw [for_id (fun k : Nat => PyData.int (k : Nat)) (List.range 4) (by rfl) ?_]
  · simp
    unfold b_law_4
    simp [g1, g2, g3, e1, e2, e3]
  · intro k hk
    have hk := List.mem_range.mp hk
    have p0 := pick_ok ns 0 4 (by omega) (by omega)
    have p1 := pick_ok ns 1 10 (by omega) (by omega)
    have p2 := pick_ok ns 2 4 (by omega) (by omega)
    obtain ⟨P, mP, iP⟩ := ix_mem (xs := pl7) (m := ((pickV ns 0 4 : Int) + k) % 4) (by omega) (by simp only [pl7, List.length_cons, List.length_nil]; omega)
    obtain ⟨O, mO, iO⟩ := ix_mem (xs := od7) (m := ((pickV ns 1 10 : Int) + 3 * k) % 10) (by omega) (by simp only [od7, List.length_cons, List.length_nil]; omega)
    obtain ⟨N, mN, iN⟩ := ix_mem (xs := nm7) (m := ((pickV ns 2 4 : Int) + k) % 4) (by omega) (by simp only [nm7, List.length_cons, List.length_nil]; omega)
    have a1 := h1 P mP
    have a2 := h2 P mP
    have a3 := h3 O mO
    have a4 := h4 O mO
    have a5 := h5 N mN
    have a6 := h6 N mN
    have a7 := h7 N mN
    have oP := (mem_pl7 mP).2
    have oO := mem_od7 mO
    have oN := mem_nm7 mN
    unfold pl7 at iP
    unfold od7 at iO
    unfold nm7 at iN
    have vqO : ∀ ρ : DL.Env, vqE 0 (some O :: ρ) = .ok O := fun _ => rfl
    simp [turnL, -List.map_map, p0, p1, p2, iP, iO, iN, oP, oO, oN, a1, a2, a3, a4, a5, a6, a7, ne2, ne5]

open PyProof.Rows hiding St
/-! ### the end -/
theorem dpAll_intsZ (K : PySem.W.Frag) (H : Hp) : ∀ ns : List Int, DL.DpAll K H (ns.map V.int) (ns.map .int)
  | [] => .nil
  | n :: ns => .cons (.int n) (dpAll_intsZ K H ns)
theorem spT_start {K : PySem.W.Frag} {mg : Str → Option Value} (T : TabT) (H : Hp) (a : Addr) (ns : List Int) (hl : ns.length ≤ 63) (hT : ∀ p ∈ T, H p.1 = some (.tbl #[])) (hS : SqL K H a (ns.map V.int)) : spT T K mg 1 m_law [.ref a] H (fun v _ => v = .bl true) fun _ _ _ => False := by
  have nT : ∀ b o, H b = some o → (∀ ps, o ≠ .tbl ps) → b ∉ T.map (·.1) := fun b o e n z => by
    obtain ⟨p, hp, rfl⟩ := List.mem_map.mp z
    rw [hT p hp] at e
    exact n _ (Option.some.inj e).symm
  refine ⟨rfl, tabM T, fun b => if b ∈ T.map (·.1) then none else H b, [scr ns], rfl, @Wf.mk (tabM T) _ _ (fun b o e => ?_) (fun b hb => ?_), @dqAll_of (tabM T) _ _ _ _ (.cons (.lst ?_ (dpAll_intsZ K _ ns)) .nil), ?_⟩
  · by_cases hb : b ∈ T.map (·.1)
    · rw [if_pos hb] at e; cases e
    · rw [if_neg hb] at e; exact e
  · have hb2 : b ∈ T.map (·.1) := hb
    refine ⟨if_pos hb2, .tbl #[], ?_, fun p hp ep => ⟨#[], rfl, True.intro, fun pos cv z => ?_⟩⟩
    · obtain ⟨p, hp, rfl⟩ := List.mem_map.mp hb2
      exact hT p hp
    · have z2 : codeAmong pos [] = some cv := z
      simp [codeAmong] at z2
  · rcases hS with (h | ⟨o, h⟩) | h
    · exact .inl (.inl ((if_neg (nT _ _ h fun ps z => nomatch z)).trans h))
    · exact .inl (.inr ⟨o, (if_neg (nT _ _ h fun ps z => nomatch z)).trans h⟩)
    · exact .inr h
  · rw [law_true ns]
    intro F2 H2 _ v dv
    cases dv
    rfl
theorem all_mk {l : PySem.W.OpenLaw} {w : World} {K : PySem.W.Frag} {h : Heap} {mg : Str → Option Value} {fa : Addr} (X : K.In h) (G : h.Ns mainGlobals mg) (hfa : mg "law" = some (.ref fa))
    {f0 : Addr} {od0 an0 : Option Addr} {sl0 : Array (Option Value)} {oc0 kV0 dc0 pm0 cd0 ct0 : Value}
    (a0 : PySem.W.nsIn K mainGlobals "look_order" = some (some (.ref f0))) (l0 : K.lookup f0 = some ⟨oc0, od0, .func (PySem.W.fnOf "look_order" "look_order" (defArgs s_look_order) (defBody s_look_order) (defScope s_look_order) .none kV0 dc0 pm0 an0 cd0 ct0), sl0⟩) (c0 : PySem.W.codeIn K cd0 "look_order" = true) (k0 : PySem.W.keepIn K (.ref f0) = true)
    {f1 : Addr} {od1 an1 : Option Addr} {sl1 : Array (Option Value)} {oc1 kV1 dc1 pm1 cd1 ct1 : Value}
    (a1 : PySem.W.nsIn K mainGlobals "set_by" = some (some (.ref f1))) (l1 : K.lookup f1 = some ⟨oc1, od1, .func (PySem.W.fnOf "set_by" "set_by" (defArgs s_set_by) (defBody s_set_by) (defScope s_set_by) .none kV1 dc1 pm1 an1 cd1 ct1), sl1⟩) (c1 : PySem.W.codeIn K cd1 "set_by" = true) (k1 : PySem.W.keepIn K (.ref f1) = true)
    {f2 : Addr} {od2 an2 : Option Addr} {sl2 : Array (Option Value)} {oc2 kV2 dc2 pm2 cd2 ct2 : Value}
    (a2 : PySem.W.nsIn K mainGlobals "_law_class" = some (some (.ref f2))) (l2 : K.lookup f2 = some ⟨oc2, od2, .func (PySem.W.fnOf "_law_class" "_law_class" (defArgs s_l_class) (defBody s_l_class) (defScope s_l_class) .none kV2 dc2 pm2 an2 cd2 ct2), sl2⟩) (c2 : PySem.W.codeIn K cd2 "_law_class" = true) (k2 : PySem.W.keepIn K (.ref f2) = true)
    {f3 : Addr} {od3 an3 : Option Addr} {sl3 : Array (Option Value)} {oc3 kV3 dc3 pm3 cd3 ct3 : Value}
    (a3 : PySem.W.nsIn K mainGlobals "_law_told" = some (some (.ref f3))) (l3 : K.lookup f3 = some ⟨oc3, od3, .func (PySem.W.fnOf "_law_told" "_law_told" (defArgs s_l_told) (defBody s_l_told) (defScope s_l_told) .none kV3 dc3 pm3 an3 cd3 ct3), sl3⟩) (c3 : PySem.W.codeIn K cd3 "_law_told" = true) (k3 : PySem.W.keepIn K (.ref f3) = true)
    {f4 : Addr} {od4 an4 : Option Addr} {sl4 : Array (Option Value)} {oc4 kV4 dc4 pm4 cd4 ct4 : Value}
    (a4 : PySem.W.nsIn K mainGlobals "floor_by" = some (some (.ref f4))) (l4 : K.lookup f4 = some ⟨oc4, od4, .func (PySem.W.fnOf "floor_by" "floor_by" (defArgs s_floor_by) (defBody s_floor_by) (defScope s_floor_by) .none kV4 dc4 pm4 an4 cd4 ct4), sl4⟩) (c4 : PySem.W.codeIn K cd4 "floor_by" = true) (k4 : PySem.W.keepIn K (.ref f4) = true)
    {f5 : Addr} {od5 an5 : Option Addr} {sl5 : Array (Option Value)} {oc5 kV5 dc5 pm5 cd5 ct5 : Value}
    (a5 : PySem.W.nsIn K mainGlobals "places_of" = some (some (.ref f5))) (l5 : K.lookup f5 = some ⟨oc5, od5, .func (PySem.W.fnOf "places_of" "places_of" (defArgs s_places_of) (defBody s_places_of) (defScope s_places_of) .none kV5 dc5 pm5 an5 cd5 ct5), sl5⟩) (c5 : PySem.W.codeIn K cd5 "places_of" = true) (k5 : PySem.W.keepIn K (.ref f5) = true)
    {f6 : Addr} {od6 an6 : Option Addr} {sl6 : Array (Option Value)} {oc6 kV6 dc6 pm6 cd6 ct6 : Value}
    (a6 : PySem.W.nsIn K mainGlobals "look_place" = some (some (.ref f6))) (l6 : K.lookup f6 = some ⟨oc6, od6, .func (PySem.W.fnOf "look_place" "look_place" (defArgs s_look_place) (defBody s_look_place) (defScope s_look_place) .none kV6 dc6 pm6 an6 cd6 ct6), sl6⟩) (c6 : PySem.W.codeIn K cd6 "look_place" = true) (k6 : PySem.W.keepIn K (.ref f6) = true)
    {f7 : Addr} {od7 an7 : Option Addr} {sl7 : Array (Option Value)} {oc7 kV7 dc7 pm7 cd7 ct7 : Value}
    (a7 : PySem.W.nsIn K mainGlobals "tile_at" = some (some (.ref f7))) (l7 : K.lookup f7 = some ⟨oc7, od7, .func (PySem.W.fnOf "tile_at" "tile_at" (defArgs s_tile_at) (defBody s_tile_at) (defScope s_tile_at) .none kV7 dc7 pm7 an7 cd7 ct7), sl7⟩) (c7 : PySem.W.codeIn K cd7 "tile_at" = true) (k7 : PySem.W.keepIn K (.ref f7) = true)
    {f8 : Addr} {od8 an8 : Option Addr} {sl8 : Array (Option Value)} {oc8 kV8 dc8 pm8 cd8 ct8 : Value}
    (a8 : PySem.W.nsIn K mainGlobals "with_tile" = some (some (.ref f8))) (l8 : K.lookup f8 = some ⟨oc8, od8, .func (PySem.W.fnOf "with_tile" "with_tile" (defArgs s_with_tile) (defBody s_with_tile) (defScope s_with_tile) .none kV8 dc8 pm8 an8 cd8 ct8), sl8⟩) (c8 : PySem.W.codeIn K cd8 "with_tile" = true) (k8 : PySem.W.keepIn K (.ref f8) = true)
    {f9 : Addr} {od9 an9 : Option Addr} {sl9 : Array (Option Value)} {oc9 kV9 dc9 pm9 cd9 ct9 : Value}
    (a9 : PySem.W.nsIn K mainGlobals "replaced" = some (some (.ref f9))) (l9 : K.lookup f9 = some ⟨oc9, od9, .func (PySem.W.fnOf "replaced" "replaced" (defArgs s_replaced) (defBody s_replaced) (defScope s_replaced) .none kV9 dc9 pm9 an9 cd9 ct9), sl9⟩) (c9 : PySem.W.codeIn K cd9 "replaced" = true) (k9 : PySem.W.keepIn K (.ref f9) = true)
    {f10 : Addr} {od10 an10 : Option Addr} {sl10 : Array (Option Value)} {oc10 kV10 dc10 pm10 cd10 ct10 : Value}
    (a10 : PySem.W.nsIn K mainGlobals "_law_cell" = some (some (.ref f10))) (l10 : K.lookup f10 = some ⟨oc10, od10, .func (PySem.W.fnOf "_law_cell" "_law_cell" (defArgs s_l_cell) (defBody s_l_cell) (defScope s_l_cell) .none kV10 dc10 pm10 an10 cd10 ct10), sl10⟩) (c10 : PySem.W.codeIn K cd10 "_law_cell" = true) (k10 : PySem.W.keepIn K (.ref f10) = true)
    {f11 : Addr} {od11 an11 : Option Addr} {sl11 : Array (Option Value)} {oc11 kV11 dc11 pm11 cd11 ct11 : Value}
    (a11 : PySem.W.nsIn K mainGlobals "_law_pick" = some (some (.ref f11))) (l11 : K.lookup f11 = some ⟨oc11, od11, .func (PySem.W.fnOf "_law_pick" "_law_pick" (defArgs s_l_pick) (defBody s_l_pick) (defScope s_l_pick) .none kV11 dc11 pm11 an11 cd11 ct11), sl11⟩) (c11 : PySem.W.codeIn K cd11 "_law_pick" = true) (k11 : PySem.W.keepIn K (.ref f11) = true)
    {f12 : Addr} {od12 an12 : Option Addr} {sl12 : Array (Option Value)} {oc12 kV12 dc12 pm12 cd12 ct12 : Value}
    (a12 : PySem.W.nsIn K mainGlobals "exchanged" = some (some (.ref f12))) (l12 : K.lookup f12 = some ⟨oc12, od12, .func (PySem.W.fnOf "exchanged" "exchanged" (defArgs s_exchanged) (defBody s_exchanged) (defScope s_exchanged) .none kV12 dc12 pm12 an12 cd12 ct12), sl12⟩) (c12 : PySem.W.codeIn K cd12 "exchanged" = true) (k12 : PySem.W.keepIn K (.ref f12) = true)
    {f13 : Addr} {od13 an13 : Option Addr} {sl13 : Array (Option Value)} {oc13 kV13 dc13 pm13 ct13 : Value} {co13 tp13 : Addr} {cdd13 : Option Addr} {cvs13 : Array Value} {csl13 : Array (Option Value)}
    (a13 : PySem.W.nsIn K mainGlobals "law" = some (some (.ref f13))) (l13 : K.lookup f13 = some ⟨oc13, od13, .func (PySem.W.fnOf "law" "law" (defArgs s_law) (defBody s_law) (defScope s_law) .none kV13 dc13 pm13 an13 (.ref co13) ct13), sl13⟩) (c13 : PySem.W.codeIn K (.ref co13) "law" = true) (k13 : PySem.W.keepIn K (.ref f13) = true) (tb13 : K.lookup co13 = some ⟨.type "code", cdd13, .fields cvs13, csl13⟩) (tv13 : cvs13[11]? = some (.ref tp13)) (hd13 : hdB cvs13 co13 tp13 = true) (hn13 : K.lookup tp13 = none) (ht13 : h.get? tp13 = some (PySem.W.tabObj #[]))
    (z_ValueError : PySem.W.nsIn K mainGlobals "ValueError" = some none)
    (z_all : PySem.W.nsIn K mainGlobals "all" = some none)
    (z_bool : PySem.W.nsIn K mainGlobals "bool" = some none)
    (z_int : PySem.W.nsIn K mainGlobals "int" = some none)
    (z_isinstance : PySem.W.nsIn K mainGlobals "isinstance" = some none)
    (z_len : PySem.W.nsIn K mainGlobals "len" = some none)
    (z_list : PySem.W.nsIn K mainGlobals "list" = some none)
    (z_range : PySem.W.nsIn K mainGlobals "range" = some none)
    (z_sorted : PySem.W.nsIn K mainGlobals "sorted" = some none)
    (z_tuple : PySem.W.nsIn K mainGlobals "tuple" = some none)
    {C_FloorError : Addr}
    (xg_FloorError : PySem.W.nsIn K mainGlobals "FloorError" = some (some (.ref C_FloorError)))
    (xb_FloorError : PySem.W.subIn K (.ref C_FloorError) (.type "BaseException") = some true)
    (xt_FloorError : PySem.W.typeIn K (.ref C_FloorError) = some (.type "type"))
    (xi_FloorError : PySem.W.isClsIn K C_FloorError = true)
    (xs_FloorError : PySem.W.subIn K (.ref C_FloorError) (.ref C_FloorError) = some true)
    (xd_FloorError : PySem.W.hasDictIn K C_FloorError = true)
    {C_NoFill : Addr}
    (xg_NoFill : PySem.W.nsIn K mainGlobals "NoFill" = some (some (.ref C_NoFill)))
    (xt_NoFill : PySem.W.typeIn K (.ref C_NoFill) = some (.type "type"))
    (xi_NoFill : PySem.W.isClsIn K C_NoFill = true)
    (xs_NoFill : PySem.W.subIn K (.ref C_NoFill) (.ref C_NoFill) = some true)
    {C_NoName : Addr}
    (xg_NoName : PySem.W.nsIn K mainGlobals "NoName" = some (some (.ref C_NoName)))
    (xt_NoName : PySem.W.typeIn K (.ref C_NoName) = some (.type "type"))
    (xi_NoName : PySem.W.isClsIn K C_NoName = true)
    (xs_NoName : PySem.W.subIn K (.ref C_NoName) (.ref C_NoName) = some true)
    {C_NoPlace : Addr}
    (xg_NoPlace : PySem.W.nsIn K mainGlobals "NoPlace" = some (some (.ref C_NoPlace)))
    (xq_NoPlace : PySem.W.excIn K C_NoPlace [.type "ValueError", .type "Exception", .type "BaseException", .type "object"] "ValueError.__new__" = true)
    (xk_NoPlace : PySem.W.keepIn K (.ref C_NoPlace) = true)
    (xb_NoPlace : PySem.W.subIn K (.ref C_NoPlace) (.type "BaseException") = some true)
    (xt_NoPlace : PySem.W.typeIn K (.ref C_NoPlace) = some (.type "type"))
    (xi_NoPlace : PySem.W.isClsIn K C_NoPlace = true)
    (xs_NoPlace : PySem.W.subIn K (.ref C_NoPlace) (.ref C_NoPlace) = some true)
    (xd_NoPlace : PySem.W.hasDictIn K C_NoPlace = true)
    (eg_NoPlace : PySem.W.findIn K (.ref C_NoPlace) "__getattribute__" = some (some (.builtin "BaseException.__getattribute__")))
    (ek_NoPlace : PySem.W.findIn K (.ref C_NoPlace) "__getattr__" = some none)
    (ea_NoPlace : PySem.W.findIn K (.ref C_NoPlace) "__class__" = some (some (.builtin "object.__class__")))
    (em_NoPlace : PySem.W.mroIn K C_NoPlace (.type "object") = some true)
    {C_NoText : Addr}
    (xg_NoText : PySem.W.nsIn K mainGlobals "NoText" = some (some (.ref C_NoText)))
    (xt_NoText : PySem.W.typeIn K (.ref C_NoText) = some (.type "type"))
    (xi_NoText : PySem.W.isClsIn K C_NoText = true)
    (xs_NoText : PySem.W.subIn K (.ref C_NoText) (.ref C_NoText) = some true)
    {C_NoTile : Addr}
    (xg_NoTile : PySem.W.nsIn K mainGlobals "NoTile" = some (some (.ref C_NoTile)))
    (xq_NoTile : PySem.W.excIn K C_NoTile [.type "ValueError", .type "Exception", .type "BaseException", .type "object"] "ValueError.__new__" = true)
    (xk_NoTile : PySem.W.keepIn K (.ref C_NoTile) = true)
    (xb_NoTile : PySem.W.subIn K (.ref C_NoTile) (.type "BaseException") = some true)
    (xt_NoTile : PySem.W.typeIn K (.ref C_NoTile) = some (.type "type"))
    (xi_NoTile : PySem.W.isClsIn K C_NoTile = true)
    (xs_NoTile : PySem.W.subIn K (.ref C_NoTile) (.ref C_NoTile) = some true)
    (xd_NoTile : PySem.W.hasDictIn K C_NoTile = true)
    (eg_NoTile : PySem.W.findIn K (.ref C_NoTile) "__getattribute__" = some (some (.builtin "BaseException.__getattribute__")))
    (ek_NoTile : PySem.W.findIn K (.ref C_NoTile) "__getattr__" = some none)
    (ea_NoTile : PySem.W.findIn K (.ref C_NoTile) "__class__" = some (some (.builtin "object.__class__")))
    (em_NoTile : PySem.W.mroIn K C_NoTile (.type "object") = some true)
    {C_Nothing : Addr}
    (xg_Nothing : PySem.W.nsIn K mainGlobals "Nothing" = some (some (.ref C_Nothing)))
    (xt_Nothing : PySem.W.typeIn K (.ref C_Nothing) = some (.type "type"))
    (xi_Nothing : PySem.W.isClsIn K C_Nothing = true)
    (xs_Nothing : PySem.W.subIn K (.ref C_Nothing) (.ref C_Nothing) = some true)
    {C_Unlike : Addr}
    (xg_Unlike : PySem.W.nsIn K mainGlobals "Unlike" = some (some (.ref C_Unlike)))
    (xt_Unlike : PySem.W.typeIn K (.ref C_Unlike) = some (.type "type"))
    (xi_Unlike : PySem.W.isClsIn K C_Unlike = true)
    (xs_Unlike : PySem.W.subIn K (.ref C_Unlike) (.ref C_Unlike) = some true)
    (eN : PySem.W.specialIn K (.builtin "object.__class__") "__get__" = some (some (.builtin "getset_descriptor.__get__")))
    (eT : PySem.W.takesIn K (.builtin "object.__class__") = some true)
    (ps_NoPlace_FloorError : PySem.W.subIn K (.ref C_NoPlace) (.ref C_FloorError) = some true)
    (ps_NoPlace_NoFill : PySem.W.subIn K (.ref C_NoPlace) (.ref C_NoFill) = some false)
    (ps_NoPlace_NoName : PySem.W.subIn K (.ref C_NoPlace) (.ref C_NoName) = some false)
    (ps_NoPlace_NoPlace : PySem.W.subIn K (.ref C_NoPlace) (.ref C_NoPlace) = some true)
    (ps_NoPlace_NoText : PySem.W.subIn K (.ref C_NoPlace) (.ref C_NoText) = some false)
    (ps_NoPlace_NoTile : PySem.W.subIn K (.ref C_NoPlace) (.ref C_NoTile) = some false)
    (ps_NoPlace_Nothing : PySem.W.subIn K (.ref C_NoPlace) (.ref C_Nothing) = some false)
    (ps_NoPlace_Unlike : PySem.W.subIn K (.ref C_NoPlace) (.ref C_Unlike) = some false)
    (ps_NoTile_FloorError : PySem.W.subIn K (.ref C_NoTile) (.ref C_FloorError) = some true)
    (ps_NoTile_NoFill : PySem.W.subIn K (.ref C_NoTile) (.ref C_NoFill) = some false)
    (ps_NoTile_NoName : PySem.W.subIn K (.ref C_NoTile) (.ref C_NoName) = some false)
    (ps_NoTile_NoPlace : PySem.W.subIn K (.ref C_NoTile) (.ref C_NoPlace) = some false)
    (ps_NoTile_NoText : PySem.W.subIn K (.ref C_NoTile) (.ref C_NoText) = some false)
    (ps_NoTile_NoTile : PySem.W.subIn K (.ref C_NoTile) (.ref C_NoTile) = some true)
    (ps_NoTile_Nothing : PySem.W.subIn K (.ref C_NoTile) (.ref C_Nothing) = some false)
    (ps_NoTile_Unlike : PySem.W.subIn K (.ref C_NoTile) (.ref C_Unlike) = some false)
    (pv_NoPlace : PySem.W.subIn K (.ref C_NoPlace) (.type "ValueError") = some true)
    (pv_NoTile : PySem.W.subIn K (.ref C_NoTile) (.type "ValueError") = some true)
    : LamX.LawAtS l w K (L2.CX l.prog w) 7 63 "_law_script" mg fa h := by
  have e := hfa.symm.trans (PySem.W.mg_of X G a13)
  cases e
  have F0 := fun_mk (st := s_look_order) l0 c0 k0
  have B0 := F0.binds (ps := ["tiles", "order"]) fun _ _ _ _ _ _ us hl => match us, hl with | [_, _], _ => rfl
  have F1 := fun_mk (st := s_set_by) l1 c1 k1
  have B1 := F1.binds (ps := ["tiles", "order"]) fun _ _ _ _ _ _ us hl => match us, hl with | [_, _], _ => rfl
  have F2 := fun_mk (st := s_l_class) l2 c2 k2
  have B2 := F2.binds (ps := ["_law_kept"]) fun _ _ _ _ _ _ us hl => match us, hl with | [_], _ => rfl
  have F3 := fun_mk (st := s_l_told) l3 c3 k3
  have B3 := F3.binds (ps := ["_law_deed"]) fun _ _ _ _ _ _ us hl => match us, hl with | [_], _ => rfl
  have F4 := fun_mk (st := s_floor_by) l4 c4 k4
  have B4 := F4.binds (ps := ["tiles", "floor", "order"]) fun _ _ _ _ _ _ us hl => match us, hl with | [_, _, _], _ => rfl
  have F5 := fun_mk (st := s_places_of) l5 c5 k5
  have B5 := F5.binds (ps := ["floor"]) fun _ _ _ _ _ _ us hl => match us, hl with | [_], _ => rfl
  have F6 := fun_mk (st := s_look_place) l6 c6 k6
  have B6 := F6.binds (ps := ["floor", "place"]) fun _ _ _ _ _ _ us hl => match us, hl with | [_, _], _ => rfl
  have F7 := fun_mk (st := s_tile_at) l7 c7 k7
  have B7 := F7.binds (ps := ["floor", "place"]) fun _ _ _ _ _ _ us hl => match us, hl with | [_, _], _ => rfl
  have F8 := fun_mk (st := s_with_tile) l8 c8 k8
  have B8 := F8.binds (ps := ["tiles", "floor", "place", "number"]) fun _ _ _ _ _ _ us hl => match us, hl with | [_, _, _, _], _ => rfl
  have F9 := fun_mk (st := s_replaced) l9 c9 k9
  have B9 := F9.binds (ps := ["tiles", "floor", "old", "new"]) fun _ _ _ _ _ _ us hl => match us, hl with | [_, _, _, _], _ => rfl
  have F10 := fun_mk (st := s_l_cell) l10 c10 k10
  have B10 := F10.binds (ps := ["_law_script", "_law_k"]) fun _ _ _ _ _ _ us hl => match us, hl with | [_, _], _ => rfl
  have F11 := fun_mk (st := s_l_pick) l11 c11 k11
  have B11 := F11.binds (ps := ["_law_script", "_law_k", "_law_many"]) fun _ _ _ _ _ _ us hl => match us, hl with | [_, _, _], _ => rfl
  have F12 := fun_mk (st := s_exchanged) l12 c12 k12
  have B12 := F12.binds (ps := ["tiles", "floor", "one", "other"]) fun _ _ _ _ _ _ us hl => match us, hl with | [_, _, _, _], _ => rfl
  have F13 := funL_mk (st := s_law) l13 c13 k13
  have B13 := F13.fun.binds (ps := ["_law_script"]) fun _ _ _ _ _ _ us hl => match us, hl with | [_], _ => rfl
  let T : Txt l.prog w K mg := {
    look_order := ⟨f0, _, F0, PySem.W.mg_of X G a0, B0⟩
    set_by := ⟨f1, _, F1, PySem.W.mg_of X G a1, B1⟩
    l_class := ⟨f2, _, F2, PySem.W.mg_of X G a2, B2⟩
    l_told := ⟨f3, _, F3, PySem.W.mg_of X G a3, B3⟩
    floor_by := ⟨f4, _, F4, PySem.W.mg_of X G a4, B4⟩
    places_of := ⟨f5, _, F5, PySem.W.mg_of X G a5, B5⟩
    look_place := ⟨f6, _, F6, PySem.W.mg_of X G a6, B6⟩
    tile_at := ⟨f7, _, F7, PySem.W.mg_of X G a7, B7⟩
    with_tile := ⟨f8, _, F8, PySem.W.mg_of X G a8, B8⟩
    replaced := ⟨f9, _, F9, PySem.W.mg_of X G a9, B9⟩
    l_cell := ⟨f10, _, F10, PySem.W.mg_of X G a10, B10⟩
    l_pick := ⟨f11, _, F11, PySem.W.mg_of X G a11, B11⟩
    exchanged := ⟨f12, _, F12, PySem.W.mg_of X G a12, B12⟩
    law := ⟨fa, _, co13, tp13, F13, PySem.W.mg_of X G a13, B13⟩
    b_ValueError := PySem.W.mg_none_of X G z_ValueError
    b_all := PySem.W.mg_none_of X G z_all
    b_bool := PySem.W.mg_none_of X G z_bool
    b_int := PySem.W.mg_none_of X G z_int
    b_isinstance := PySem.W.mg_none_of X G z_isinstance
    b_len := PySem.W.mg_none_of X G z_len
    b_list := PySem.W.mg_none_of X G z_list
    b_range := PySem.W.mg_none_of X G z_range
    b_sorted := PySem.W.mg_none_of X G z_sorted
    b_tuple := PySem.W.mg_none_of X G z_tuple
    x_NoPlace := ⟨C_NoPlace, PySem.W.mg_of X G xg_NoPlace, xq_NoPlace, xk_NoPlace, xb_NoPlace, xt_NoPlace⟩
    x_NoTile := ⟨C_NoTile, PySem.W.mg_of X G xg_NoTile, xq_NoTile, xk_NoTile, xb_NoTile, xt_NoTile⟩
    q_NoFill := ⟨C_NoFill, xg_NoFill, PySem.W.mg_of X G xg_NoFill, xi_NoFill, xt_NoFill, xs_NoFill⟩
    q_NoName := ⟨C_NoName, xg_NoName, PySem.W.mg_of X G xg_NoName, xi_NoName, xt_NoName, xs_NoName⟩
    q_NoPlace := ⟨C_NoPlace, xg_NoPlace, PySem.W.mg_of X G xg_NoPlace, xi_NoPlace, xt_NoPlace, xs_NoPlace⟩
    q_NoText := ⟨C_NoText, xg_NoText, PySem.W.mg_of X G xg_NoText, xi_NoText, xt_NoText, xs_NoText⟩
    q_NoTile := ⟨C_NoTile, xg_NoTile, PySem.W.mg_of X G xg_NoTile, xi_NoTile, xt_NoTile, xs_NoTile⟩
    q_Nothing := ⟨C_Nothing, xg_Nothing, PySem.W.mg_of X G xg_Nothing, xi_Nothing, xt_Nothing, xs_Nothing⟩
    q_Unlike := ⟨C_Unlike, xg_Unlike, PySem.W.mg_of X G xg_Unlike, xi_Unlike, xt_Unlike, xs_Unlike⟩
    p_FloorError := ⟨⟨C_FloorError, xg_FloorError, PySem.W.mg_of X G xg_FloorError, xi_FloorError, xt_FloorError, xs_FloorError⟩, xb_FloorError, xd_FloorError⟩
    w_NoPlace := ⟨⟨C_NoPlace, xg_NoPlace, PySem.W.mg_of X G xg_NoPlace, xi_NoPlace, xt_NoPlace, xs_NoPlace⟩, ⟨eg_NoPlace, ek_NoPlace, xb_NoPlace, xd_NoPlace, ea_NoPlace, eN, eT, em_NoPlace⟩⟩
    w_NoTile := ⟨⟨C_NoTile, xg_NoTile, PySem.W.mg_of X G xg_NoTile, xi_NoTile, xt_NoTile, xs_NoTile⟩, ⟨eg_NoTile, ek_NoTile, xb_NoTile, xd_NoTile, ea_NoTile, eN, eT, em_NoTile⟩⟩
    s_NoPlace_FloorError := ps_NoPlace_FloorError
    s_NoPlace_NoFill := ps_NoPlace_NoFill
    s_NoPlace_NoName := ps_NoPlace_NoName
    s_NoPlace_NoPlace := ps_NoPlace_NoPlace
    s_NoPlace_NoText := ps_NoPlace_NoText
    s_NoPlace_NoTile := ps_NoPlace_NoTile
    s_NoPlace_Nothing := ps_NoPlace_Nothing
    s_NoPlace_Unlike := ps_NoPlace_Unlike
    s_NoTile_FloorError := ps_NoTile_FloorError
    s_NoTile_NoFill := ps_NoTile_NoFill
    s_NoTile_NoName := ps_NoTile_NoName
    s_NoTile_NoPlace := ps_NoTile_NoPlace
    s_NoTile_NoText := ps_NoTile_NoText
    s_NoTile_NoTile := ps_NoTile_NoTile
    s_NoTile_Nothing := ps_NoTile_Nothing
    s_NoTile_Unlike := ps_NoTile_Unlike
    v_NoPlace := pv_NoPlace
    v_NoTile := pv_NoTile
  }
  refine ⟨_, [(co13, tp13)], spT T.tabs K mg 1 m_law, fun p hp => ?_, fun p hp => ?_, fun p hp => ?_, fun s v => .of_eq rfl, fun H a ns hl _ hc hS => spT_start T.tabs H a ns hl (fun p hp => ?_) hS, fun base _ _ TB => ok_law T ⟨TB (co13, tp13) (by simp)⟩⟩
  · simp only [List.mem_cons, List.not_mem_nil, or_false] at hp
    rcases hp with rfl
    · exact ht13
  · simp only [List.mem_cons, List.not_mem_nil, or_false] at hp
    rcases hp with rfl
    · exact hn13
  · simp only [List.mem_cons, List.not_mem_nil, or_false] at hp
    rcases hp with rfl
    · exact PySem.W.codeHd_of_K X (hdB_in tb13 hd13)
  · simp only [Txt.tabs, List.mem_cons, List.not_mem_nil, or_false] at hp
    rcases hp with rfl
    · exact hc (co13, tp13) (by simp)
theorem walk {l : PySem.W.OpenLaw} {p : Program} {loose : List Str} {XP : (Str → Option Value) → Heap → Prop} {YP : World → Heap → Prop} {d : DefRec} {K : Params → PySem.W.Frag} (hn : l.most = some 63)
    (hdf : d.params.defaults = []) (hY : ∀ (w : World) (h : Heap), YP w h → (K w.params).In h)
    (F : ∀ (w : World) (mg : Str → Option Value) (fa : Addr) (h : Heap), YP w h → (K w.params).In h → h.Ns mainGlobals mg → mg d.name = some (.ref fa) → LamX.LawAtS l w (K w.params) (L2.CX l.prog w) 7 63 "_law_script" mg fa h) :
    PySem.W.WalkO p loose XP YP l.row.toRowW d [] (fun f vs => PySem.call f vs) := by
  refine LamX.walk_ofTs (n := 63) (k := 7) (x := "_law_script") (CX := fun w => L2.CX l.prog w) hn (by decide) hdf ⟨rfl, by decide, by decide⟩ hY F ?_
  intro w H s e s' z
  obtain ⟨a, B, H', cls, d', _, _, _, _, _, _, _, z⟩ := z
  exact z
end LW

open PySem PySem.W PyProof.Rows in
set_option maxRecDepth 100000 in
set_option maxHeartbeats 0 in
theorem PySem.Challenge.cw_floorfits_k87_changes_refused_holds : PySem.Challenge.rw_floorfits_k87_changes_refused.Holds := by
  w_on; o_law; k_head; (case hw => w_witness2)
  k_fill
  refine LW.walk (l := PySem.Challenge.rw_floorfits_k87_changes_refused) rfl rfl (fun w h Y => PySem.W.km_in_of Y) ?F
  case F =>
    intro w mg fa h Y KX G hmg
    have hT8 := PySem.W.km_tabs_of Y
    refine' LW.all_mk KX G hmg ?a0 ?l0 ?c0 ?k0 ?a1 ?l1 ?c1 ?k1 ?a2 ?l2 ?c2 ?k2 ?a3 ?l3 ?c3 ?k3 ?a4 ?l4 ?c4 ?k4 ?a5 ?l5 ?c5 ?k5 ?a6 ?l6 ?c6 ?k6 ?a7 ?l7 ?c7 ?k7 ?a8 ?l8 ?c8 ?k8 ?a9 ?l9 ?c9 ?k9 ?a10 ?l10 ?c10 ?k10 ?a11 ?l11 ?c11 ?k11 ?a12 ?l12 ?c12 ?k12 ?a13 ?l13 ?c13 ?k13 ?tb13 ?tv13 ?hd13 ?hn13 ?ht13 ?z_ValueError ?z_all ?z_bool ?z_int ?z_isinstance ?z_len ?z_list ?z_range ?z_sorted ?z_tuple ?xg_FloorError ?xb_FloorError ?xt_FloorError ?xi_FloorError ?xs_FloorError ?xd_FloorError ?xg_NoFill ?xt_NoFill ?xi_NoFill ?xs_NoFill ?xg_NoName ?xt_NoName ?xi_NoName ?xs_NoName ?xg_NoPlace ?xq_NoPlace ?xk_NoPlace ?xb_NoPlace ?xt_NoPlace ?xi_NoPlace ?xs_NoPlace ?xd_NoPlace ?eg_NoPlace ?ek_NoPlace ?ea_NoPlace ?em_NoPlace ?xg_NoText ?xt_NoText ?xi_NoText ?xs_NoText ?xg_NoTile ?xq_NoTile ?xk_NoTile ?xb_NoTile ?xt_NoTile ?xi_NoTile ?xs_NoTile ?xd_NoTile ?eg_NoTile ?ek_NoTile ?ea_NoTile ?em_NoTile ?xg_Nothing ?xt_Nothing ?xi_Nothing ?xs_Nothing ?xg_Unlike ?xt_Unlike ?xi_Unlike ?xs_Unlike ?eN ?eT ?ps_NoPlace_FloorError ?ps_NoPlace_NoFill ?ps_NoPlace_NoName ?ps_NoPlace_NoPlace ?ps_NoPlace_NoText ?ps_NoPlace_NoTile ?ps_NoPlace_Nothing ?ps_NoPlace_Unlike ?ps_NoTile_FloorError ?ps_NoTile_NoFill ?ps_NoTile_NoName ?ps_NoTile_NoPlace ?ps_NoTile_NoText ?ps_NoTile_NoTile ?ps_NoTile_Nothing ?ps_NoTile_Unlike ?pv_NoPlace ?pv_NoTile
    (case a0 => k_is)
    (case l0 => k_is)
    (case c0 => k_is)
    (case k0 => k_is)
    (case a1 => k_is)
    (case l1 => k_is)
    (case c1 => k_is)
    (case k1 => k_is)
    (case a2 => k_is)
    (case l2 => k_is)
    (case c2 => k_is)
    (case k2 => k_is)
    (case a3 => k_is)
    (case l3 => k_is)
    (case c3 => k_is)
    (case k3 => k_is)
    (case a4 => k_is)
    (case l4 => k_is)
    (case c4 => k_is)
    (case k4 => k_is)
    (case a5 => k_is)
    (case l5 => k_is)
    (case c5 => k_is)
    (case k5 => k_is)
    (case a6 => k_is)
    (case l6 => k_is)
    (case c6 => k_is)
    (case k6 => k_is)
    (case a7 => k_is)
    (case l7 => k_is)
    (case c7 => k_is)
    (case k7 => k_is)
    (case a8 => k_is)
    (case l8 => k_is)
    (case c8 => k_is)
    (case k8 => k_is)
    (case a9 => k_is)
    (case l9 => k_is)
    (case c9 => k_is)
    (case k9 => k_is)
    (case a10 => k_is)
    (case l10 => k_is)
    (case c10 => k_is)
    (case k10 => k_is)
    (case a11 => k_is)
    (case l11 => k_is)
    (case c11 => k_is)
    (case k11 => k_is)
    (case a12 => k_is)
    (case l12 => k_is)
    (case c12 => k_is)
    (case k12 => k_is)
    (case a13 => k_is)
    (case l13 => k_is)
    (case c13 => k_is)
    (case k13 => k_is)
    (case tb13 => k_is)
    (case tv13 => rfl)
    (case hd13 => rfl)
    (case hn13 => kernel_rfl)
    (case ht13 => exact hT8 _ (by decide))
    (case z_ValueError => k_is)
    (case z_all => k_is)
    (case z_bool => k_is)
    (case z_int => k_is)
    (case z_isinstance => k_is)
    (case z_len => k_is)
    (case z_list => k_is)
    (case z_range => k_is)
    (case z_sorted => k_is)
    (case z_tuple => k_is)
    (case xg_FloorError => k_is)
    (case xb_FloorError => k_is)
    (case xt_FloorError => k_is)
    (case xi_FloorError => k_is)
    (case xs_FloorError => k_is)
    (case xd_FloorError => k_is)
    (case xg_NoFill => k_is)
    (case xt_NoFill => k_is)
    (case xi_NoFill => k_is)
    (case xs_NoFill => k_is)
    (case xg_NoName => k_is)
    (case xt_NoName => k_is)
    (case xi_NoName => k_is)
    (case xs_NoName => k_is)
    (case xg_NoPlace => k_is)
    (case xq_NoPlace => k_exc)
    (case xk_NoPlace => k_is)
    (case xb_NoPlace => k_is)
    (case xt_NoPlace => k_is)
    (case xi_NoPlace => k_is)
    (case xs_NoPlace => k_is)
    (case xd_NoPlace => k_is)
    (case eg_NoPlace => k_is)
    (case ek_NoPlace => k_is)
    (case ea_NoPlace => k_is)
    (case em_NoPlace => k_is)
    (case xg_NoText => k_is)
    (case xt_NoText => k_is)
    (case xi_NoText => k_is)
    (case xs_NoText => k_is)
    (case xg_NoTile => k_is)
    (case xq_NoTile => k_exc)
    (case xk_NoTile => k_is)
    (case xb_NoTile => k_is)
    (case xt_NoTile => k_is)
    (case xi_NoTile => k_is)
    (case xs_NoTile => k_is)
    (case xd_NoTile => k_is)
    (case eg_NoTile => k_is)
    (case ek_NoTile => k_is)
    (case ea_NoTile => k_is)
    (case em_NoTile => k_is)
    (case xg_Nothing => k_is)
    (case xt_Nothing => k_is)
    (case xi_Nothing => k_is)
    (case xs_Nothing => k_is)
    (case xg_Unlike => k_is)
    (case xt_Unlike => k_is)
    (case xi_Unlike => k_is)
    (case xs_Unlike => k_is)
    (case eN => k_is)
    (case eT => k_is)
    (case ps_NoPlace_FloorError => k_is)
    (case ps_NoPlace_NoFill => k_is)
    (case ps_NoPlace_NoName => k_is)
    (case ps_NoPlace_NoPlace => k_is)
    (case ps_NoPlace_NoText => k_is)
    (case ps_NoPlace_NoTile => k_is)
    (case ps_NoPlace_Nothing => k_is)
    (case ps_NoPlace_Unlike => k_is)
    (case ps_NoTile_FloorError => k_is)
    (case ps_NoTile_NoFill => k_is)
    (case ps_NoTile_NoName => k_is)
    (case ps_NoTile_NoPlace => k_is)
    (case ps_NoTile_NoText => k_is)
    (case ps_NoTile_NoTile => k_is)
    (case ps_NoTile_Nothing => k_is)
    (case ps_NoTile_Unlike => k_is)
    (case pv_NoPlace => k_is)
    (case pv_NoTile => k_is)

