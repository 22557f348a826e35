import PyProof.Rows.All
import Wide.All
import OpenK.AllK
import Wide.FinOn
import HandS.ForMost
import HandS.ForExc
import HandS.Flow
import HandS.Deep
import HandS.TupAny
import HandS.TupMul
import HandS.Style
import HandS.Zip
import HandS.IsInst
import PyProof.P3In
import PyProof.ListOps
import PyProof.Rows.ListMulArg
import KE.GoesMore
import HandS.ExcOwn
import HandS.Dict
import HandS.DictTup
import HandS.SortRule
import HandS.ListItems
import HandS.Conv
import HandS.ExcValue
import HandS.ExcIs
import KE.KeyNested
import PyProof.DictRoadsH
import HandS.CallRecv
import HandS.SortInts
import HandS.SortRule
import HandS.TupSets
import KE.KDictDisplayH
import HandS.ClsMeth
import KE.DataMinMax
import KE.KIndexOf
import HandS.TupLen
import PySem.Challenge.RW_floorfits_k30_whole_mended
set_option Elab.async false
set_option linter.all false
set_option maxRecDepth 100000
/-! DL0: the data layer: values as PyData, slots as data, owned objects. -/
namespace DL
open PySem L2

abbrev D := PyData
abbrev Env := List (Option D)
inductive R (α : Type) where
  | ok (a : α)
  | err (c : Str)
  | bad
def R.bind {α β : Type} (r : R α) (g : α → R β) : R β := match r with
  | .ok a => g a
  | .err c => .err c
  | .bad => .bad
theorem R.bind_ok {α β : Type} (a : α) (g : α → R β) : (R.ok a).bind g = g a := rfl
theorem R.bind_err {α β : Type} (c : Str) (g : α → R β) : (R.err c : R α).bind g = .err c := rfl
theorem R.bind_bad {α β : Type} (g : α → R β) : (R.bad : R α).bind g = .bad := rfl
def R.of {α : Type} (o : Option α) : R α := match o with
  | some a => .ok a
  | none => .bad
theorem R.of_some {α : Type} (a : α) : R.of (some a) = .ok a := rfl

/-! ### heaps -/
theorem same_refl (H : Hp) : Same H H := fun _ _ h => h
theorem same_trans {A B C : Hp} (h : Same A B) (k : Same B C) : Same A C := fun a o e => k a o (h a o e)
theorem same_seqL {K : PySem.W.Frag} {H H' : Hp} {a : Addr} {xs : List V} (e : Same H H') (h : SqL K H a xs) : SqL K H' a xs := by
  rcases h with (h | ⟨o, h⟩) | h
  · exact .inl (.inl (e a _ h))
  · exact .inl (.inr ⟨o, e a _ h⟩)
  · exact .inr h
theorem same_seqT {K : PySem.W.Frag} {H H' : Hp} {a : Addr} {xs : List V} (e : Same H H') (h : SqT K H a xs) : SqT K H' a xs := by
  rcases h with (h | ⟨o, h⟩) | h
  · exact .inl (.inl (e a _ h))
  · exact .inl (.inr ⟨o, e a _ h⟩)
  · exact .inr h
mutual
theorem dp_mono {K : PySem.W.Frag} {F F' : Hp} (s : Same F F') : ∀ (d : PyData) (v : V), Dp K F v d → Dp K F' v d
  | .none, _, h => by cases h; exact .non
  | .bool b, _, h => by cases h; exact .bl b
  | .int i, _, h => by cases h; exact .int i
  | .str x, _, h => by cases h; exact .str x
  | .list ds, _, h => by
    cases h with
    | lst h1 h2 => exact .lst (same_seqL s h1) (dpAll_mono s ds _ h2)
  | .tuple ds, _, h => by
    cases h with
    | tup h1 h2 => exact .tup (same_seqT s h1) (dpAll_mono s ds _ h2)
  | .dict _, _, h => by cases h
theorem dpAll_mono {K : PySem.W.Frag} {F F' : Hp} (s : Same F F') : ∀ (ds : List PyData) (vs : List V), DpAll K F vs ds → DpAll K F' vs ds
  | [], _, h => by cases h; exact .nil
  | d :: ds, _, h => by
    cases h with
    | cons h1 h2 => exact .cons (dp_mono s d _ h1) (dpAll_mono s ds _ h2)
end
theorem dpAll_len {K : PySem.W.Frag} {F : Hp} : ∀ {ds : List PyData} {vs : List V}, DpAll K F vs ds → vs.length = ds.length
  | [], _, h => by cases h; rfl
  | d :: ds, _, h => by
    cases h with
    | cons h1 h2 => simp [dpAll_len h2]
theorem dpAll_get {K : PySem.W.Frag} {F : Hp} : ∀ {ds : List PyData} {vs : List V} {i : Nat} {d : D}, DpAll K F vs ds → ds[i]? = some d → ∃ v, vs[i]? = some v ∧ Dp K F v d
  | [], _, _, _, h, e => by simp at e
  | d :: ds, _, i, x, h, e => by
    cases h with
    | cons h1 h2 =>
      cases i with
      | zero => simp at e; subst e; exact ⟨_, rfl, h1⟩
      | succ i => exact dpAll_get (i := i) h2 (by simpa using e)
theorem dpAll_get' {K : PySem.W.Frag} {F : Hp} : ∀ {ds : List PyData} {vs : List V} {i : Nat} {v : V}, DpAll K F vs ds → vs[i]? = some v → ∃ d, ds[i]? = some d ∧ Dp K F v d
  | [], _, _, _, h, e => by cases h; simp at e
  | d :: ds, _, i, x, h, e => by
    cases h with
    | cons h1 h2 =>
      cases i with
      | zero => simp at e; subst e; exact ⟨_, rfl, h1⟩
      | succ i => exact dpAll_get' (i := i) h2 (by simpa using e)
theorem dpAll_app {K : PySem.W.Frag} {F : Hp} : ∀ {ds es : List PyData} {vs ws : List V}, DpAll K F vs ds → DpAll K F ws es → DpAll K F (vs ++ ws) (ds ++ es)
  | [], _, _, _, h, k => by cases h; exact k
  | d :: ds, _, _, _, h, k => by
    cases h with
    | cons h1 h2 => exact .cons h1 (dpAll_app h2 k)
theorem dpAll_take {K : PySem.W.Frag} {F : Hp} : ∀ {ds : List PyData} {vs : List V} (n : Nat), DpAll K F vs ds → DpAll K F (vs.take n) (ds.take n)
  | _, _, 0, _ => by simpa using DpAll.nil
  | [], _, n + 1, h => by cases h; exact .nil
  | d :: ds, _, n + 1, h => by
    cases h with
    | cons h1 h2 => exact .cons h1 (dpAll_take n h2)
theorem dpAll_drop {K : PySem.W.Frag} {F : Hp} : ∀ {ds : List PyData} {vs : List V} (n : Nat), DpAll K F vs ds → DpAll K F (vs.drop n) (ds.drop n)
  | _, _, 0, h => by simpa using h
  | [], _, n + 1, h => by cases h; exact .nil
  | d :: ds, _, n + 1, h => by
    cases h with
    | cons h1 h2 => exact dpAll_drop n h2
theorem dpAll_set {K : PySem.W.Frag} {F : Hp} : ∀ {ds : List PyData} {vs : List V} (n : Nat) {v : V} {d : D}, DpAll K F vs ds → Dp K F v d → DpAll K F (vs.set n v) (ds.set n d)
  | [], _, n, _, _, h, _ => by cases h; exact .nil
  | d :: ds, _, 0, _, _, h, k => by
    cases h with
    | cons h1 h2 => exact .cons k h2
  | d :: ds, _, n + 1, _, _, h, k => by
    cases h with
    | cons h1 h2 => exact .cons h1 (dpAll_set n h2 k)
theorem dpAll_rep {K : PySem.W.Frag} {F : Hp} {ds : List PyData} {vs : List V} (h : DpAll K F vs ds) : ∀ k : Nat, DpAll K F (List.replicate k vs).flatten (List.replicate k ds).flatten
  | 0 => .nil
  | k + 1 => by
    rw [List.replicate_succ, List.replicate_succ, List.flatten_cons, List.flatten_cons]
    exact dpAll_app h (dpAll_rep h k)
theorem dpAll_rev {K : PySem.W.Frag} {F : Hp} : ∀ {ds : List PyData} {vs : List V}, DpAll K F vs ds → DpAll K F vs.reverse ds.reverse
  | [], _, h => by cases h; exact .nil
  | d :: ds, _, h => by
    cases h with
    | cons h1 h2 => simp only [List.reverse_cons]; exact dpAll_app (dpAll_rev h2) (.cons h1 .nil)
theorem dpAll_ints {K : PySem.W.Frag} {F : Hp} : ∀ {ns : List Int} {vs : List V}, DpAll K F vs (ns.map PyData.int) → vs = ns.map V.int
  | [], _, h => by cases h; rfl
  | n :: ns, _, h => by
    cases h with
    | cons h1 h2 => cases h1; rw [dpAll_ints h2]; rfl
theorem dpAll_intsI {K : PySem.W.Frag} {F : Hp} : ∀ (ns : List Int), DpAll K F (ns.map V.int) (ns.map PyData.int)
  | [] => .nil
  | n :: ns => .cons (.int n) (dpAll_intsI ns)
theorem dpAll_bls {K : PySem.W.Frag} {F : Hp} : ∀ {ns : List Bool} {vs : List V}, DpAll K F vs (ns.map PyData.bool) → vs = ns.map V.bl
  | [], _, h => by cases h; rfl
  | n :: ns, _, h => by
    cases h with
    | cons h1 h2 => cases h1; rw [dpAll_bls h2]; rfl

def okD : D → R D
  | .dict _ => .bad
  | d => .ok d
/-- a dict of whole numbers -/
def IntDic (kvs : List (Int × Int)) : D := .dict (kvs.map fun p => (.int p.1, .int p.2))
def kvO (kvs : List (Int × Int)) : HO := .dK (kvs.map fun p => (Sum.inl p.1, V.int p.2))
/-- cells that may change (memo dicts), objects that are known -/
class Mem where
  is : Addr → Prop
  good : Hp → Addr → HO → Prop
  mono : ∀ {F F' : Hp} {a : Addr} {o : HO}, good F a o → Same F F' → good F' a o
  drop : ∀ {F W : Hp} {a : Addr} {o : HO}, (∀ a, F a = W a ∨ ∃ xs, W a = some (.lst xs)) → good W a o → good F a o
  lk : D → Addr → Prop
@[reducible] def Mem.triv : Mem := ⟨fun _ => False, fun _ _ _ => True, fun _ _ => trivial, fun _ _ => trivial, fun _ _ => False⟩
section
variable [Mem]
def SameM (H H' : Hp) : Prop := ∀ a o, ¬ Mem.is a → H a = some o → H' a = some o
theorem sameM_of {H H' : Hp} (s : Same H H') : SameM H H' := fun a o _ e => s a o e
theorem sameM_trans {A B C : Hp} (h : SameM A B) (k : SameM B C) : SameM A C := fun a o n e => k a o n (h a o n e)
structure Wf (F H : Hp) : Prop where
  s : Same F H
  m : ∀ a, Mem.is a → F a = none ∧ ∃ o, H a = some o ∧ Mem.good F a o
theorem Wf.no {F H : Hp} (w : Wf F H) {p : Addr} (h : H p = none) : ¬ Mem.is p := fun z => by
  obtain ⟨_, o, e, _⟩ := w.m p z
  rw [h] at e
  cases e
/-- F frozen within H grows to F' within H' -/
structure Grow (F H F' H' : Hp) : Prop where
  ff : Same F F'
  hh : SameM H H'
  fh : Wf F' H'
  nw : ∀ a, F' a ≠ none → H a ≠ none → F a ≠ none
theorem Grow.refl {F H : Hp} (s : Wf F H) : Grow F H F H := ⟨same_refl _, fun _ _ _ h => h, s, fun _ h _ => h⟩
theorem same_ne {A B : Hp} (s : Same A B) {a : Addr} (h : A a ≠ none) : B a ≠ none := by
  cases e : A a with
  | none => exact absurd e h
  | some o => rw [s a o e]; simp
theorem sameM_ne {A F B : Hp} (s : SameM A B) (w : Wf F B) {a : Addr} (h : A a ≠ none) : B a ≠ none := by
  by_cases z : Mem.is a
  · obtain ⟨_, o, e, _⟩ := w.m a z
    rw [e]; simp
  · cases e : A a with
    | none => exact absurd e h
    | some o => rw [s a o z e]; simp
theorem Grow.trans {F H F1 H1 F2 H2 : Hp} (g : Grow F H F1 H1) (k : Grow F1 H1 F2 H2) : Grow F H F2 H2 :=
  ⟨same_trans g.ff k.ff, sameM_trans g.hh k.hh, k.fh, fun a h1 h2 => g.nw a (k.nw a h1 (sameM_ne g.hh g.fh h2)) h2⟩
theorem same_upd {F : Hp} {p : Addr} {o : HO} (h : F p = none) : Same F (upd F p o) := fun a u e => by rw [upd_ne (ne_of_none e h)]; exact e
theorem none_of_same {F H : Hp} (s : Same F H) {p : Addr} (h : H p = none) : F p = none := by
  cases e : F p with
  | none => rfl
  | some o => rw [s p o e] at h; cases h
theorem none_of_sameM {F G H : Hp} (s : SameM G H) (w : Wf F H) {p : Addr} (h : H p = none) : G p = none := by
  cases e : G p with
  | none => rfl
  | some o => rw [s p o (w.no h) e] at h; cases h
theorem Wf.upd {F H : Hp} (s : Wf F H) {p : Addr} {o : HO} (h : H p = none) : Wf F (upd H p o) :=
  ⟨same_trans s.s (same_upd h), fun a z => by
    obtain ⟨e1, u, e2, e3⟩ := s.m a z
    exact ⟨e1, u, by rw [upd_ne (ne_of_none e2 h)]; exact e2, e3⟩⟩
theorem Grow.new {F H : Hp} (s : Wf F H) {p : Addr} {o : HO} (h : H p = none) : Grow F H (L2.upd F p o) (L2.upd H p o) where
  ff := same_upd (none_of_same s.s h)
  hh := sameM_of (same_upd h)
  fh := ⟨fun a u e => by
    by_cases ha : a = p
    · subst ha; rw [upd_same] at e ⊢; exact e
    · rw [upd_ne ha] at e ⊢; exact s.s a u e, fun a z => by
    obtain ⟨e1, u, e2, e3⟩ := s.m a z
    have na : a ≠ p := ne_of_none e2 h
    exact ⟨by rw [upd_ne na]; exact e1, u, by rw [upd_ne na]; exact e2, Mem.mono e3 (same_upd (none_of_same s.s h))⟩⟩
  nw := fun a h1 h2 => by
    by_cases ha : a = p
    · subst ha; exact absurd h h2
    · rw [upd_ne ha] at h1; exact h1
end
/-! ### what a run of data asks: expressions that only grow the heap -/
/-- an exception of a class of the program's own, held as a value -/
def excD (c : Str) : D := .dict [(.str "exc", .str c)]
/-- an exception object of the class cls at a, raised or not -/
def CxO (cls : Value) (a : Addr) : HO := .ext fun h => ∃ (oe : Obj) (vs : Array Value), h.get? a = some oe ∧ Zc cls none oe ∧ oe.data = .fields vs
theorem cxO_ok {P : Program} {w : World} {H : Hp} {h : Heap} {a : Addr} {cls : Value} {oe : Obj} {vs : Array Value} (e : h.get? a = some oe) (z : Zc cls none oe) (d : oe.data = .fields vs) : ObjOk P w H h a (CxO cls a) :=
  ⟨⟨oe, vs, e, z, d⟩, ⟨oe, e⟩, fun _ _ ⟨o, v, q, r⟩ k => ⟨o, v, k o q, r⟩⟩
def ExQ (K : PySem.W.Frag) (F : Hp) (v : V) (c : Str) : Prop := ∃ (a C : Addr), v = .ref a ∧ PySem.W.nsIn K mainGlobals c = some (some (.ref C)) ∧ F a = some (CxO (.ref C) a)
/-- an object of a class of the program's own: its class, some of its fields -/
def objD (c : Str) (kvs : List (Str × D)) : D := .dict ((.str "obj", .str c) :: kvs.map fun p => (.str p.1, p.2))
structure ObF (K : PySem.W.Frag) (F : Hp) (a : Addr) (c : Str) (fs : List (Str × V)) : Prop where
  at_ : ∃ C dx, PySem.W.nsIn K mainGlobals c = some (some (.ref C)) ∧ F a = some (.ins C dx fs) ∧ F dx = some (.own a)
theorem ObF.mono {K : PySem.W.Frag} {F F' : Hp} {a : Addr} {c : Str} {fs : List (Str × V)} (h : ObF K F a c fs) (s : Same F F') : ObF K F' a c fs :=
  let ⟨C, dx, e1, e2, e3⟩ := h.at_
  ⟨⟨C, dx, e1, s a _ e2, s dx _ e3⟩⟩
variable [Mem]
/-- an object, its fields as FQ says -/
def ObG (FQ : PySem.W.Frag → Hp → V → D → Prop) (K : PySem.W.Frag) (F : Hp) (v : V) (d : D) : Prop := ∃ (a : Addr) (fs : List (Str × V)) (c : Str) (kvs : List (Str × D)), v = .ref a ∧ d = objD c kvs ∧ (∃ kad, fs.lookup ("known" : Str) = some (V.ref kad) ∧ Mem.lk d kad) ∧ ObF K F a c fs ∧ (∀ p ∈ kvs, ∃ u, fs.lookup p.1 = some u ∧ FQ K F u p.2) ∧ ∀ f : Str, f ≠ ("known" : Str) → f ∉ kvs.map (·.1) → fs.lookup f = none
theorem obg_mono {FQ : PySem.W.Frag → Hp → V → D → Prop} (hm : ∀ (K : PySem.W.Frag) (F F' : Hp) (d : D) (v : V), Same F F' → FQ K F v d → FQ K F' v d) {K : PySem.W.Frag} {F F' : Hp} (s : Same F F') {d : D} {v : V} (h : ObG FQ K F v d) : ObG FQ K F' v d :=
  let ⟨a, fs, c, kvs, e1, e2, e3, e4, e5, e6⟩ := h
  ⟨a, fs, c, kvs, e1, e2, e3, e4.mono s, fun p hp => let ⟨u, q1, q2⟩ := e5 p hp; ⟨u, q1, hm _ _ _ _ _ s q2⟩, e6⟩
/-- a field's value: data, or an object whose fields are data -/
def FQ (K : PySem.W.Frag) (F : Hp) (v : V) (d : D) : Prop := Dp K F v d ∨ ObG Dp K F v d
theorem fq_mono {K : PySem.W.Frag} {F F' : Hp} {d : D} {v : V} (s : Same F F') (h : FQ K F v d) : FQ K F' v d := by
  rcases h with h | h
  · exact .inl (dp_mono s _ _ h)
  · exact .inr (obg_mono (FQ := Dp) (fun K F F' d v s h => dp_mono s d v h) s h)
def ObQ (K : PySem.W.Frag) (F : Hp) (v : V) (d : D) : Prop := ObG FQ K F v d
theorem obq_mono {K : PySem.W.Frag} {F F' : Hp} (s : Same F F') {d : D} {v : V} (h : ObQ K F v d) : ObQ K F' v d := obg_mono (FQ := FQ) (fun K F F' d v s h => fq_mono s h) s h
/-- a tuple whose object is known: no instance dict -/
def ordD (ds : List D) : D := .dict [(.str "ord", .tuple ds)]
def OrdQ (K : PySem.W.Frag) (F : Hp) (v : V) (d : D) : Prop := ∃ (ds : List D) (a : Addr) (o : Obj) (xs : List V), d = ordD ds ∧ v = .ref a ∧ F a = some (.frz o (.tup xs)) ∧ o.dict = none ∧ DpAll K F xs ds
theorem ordq_mono {K : PySem.W.Frag} {F F' : Hp} (s : Same F F') {d : D} {v : V} (h : OrdQ K F v d) : OrdQ K F' v d :=
  let ⟨ds, a, o, xs, e1, e2, e3, e4, e5⟩ := h
  ⟨ds, a, o, xs, e1, e2, s a _ e3, e4, dpAll_mono s _ _ e5⟩
theorem ord_ne {s : Str} (h : decide (s = "ord") = false) {x : D} {ds : List D} {l : List (D × D)} : PyData.dict ((.str s, x) :: l) ≠ ordD ds := fun e => by
  unfold ordD at e
  injection e with e
  injection e with e _
  have e1 : (PyData.str s : D) = .str "ord" := congrArg Prod.fst e
  injection e1 with e1
  exact of_decide_eq_false h e1
theorem ord_int {kvs : List (Int × Int)} {ds : List D} : IntDic kvs ≠ ordD ds := fun e => by
  cases kvs with
  | nil => cases e
  | cons p l => simp [IntDic, ordD] at e
/-! a dict whose keys are tuples of ints -/
abbrev NXs := List (NestedKey × Addr × Value)
def NRaw (P : Program) (w : World) (k : Addr) (xs : NXs) (h : Heap) : Prop := (k == sysModules) = false ∧ xs.length ≤ sizeLine ∧ ∃ o es ep, h.get? k = some o ∧ o.ExactDict ∧ o.data = .dict es ep ∧ es.toList = xs.map (entryOfKey (nestedKind P w)) ∧ (xs.map (·.1)).Nodup
def nk (ns : List Int) : NestedKey := .tup (ns.map .num)
def dX (k : Addr) (xs : NXs) : HO := .ext fun h => ∀ (P : Program) (w : World), NRaw P w k xs h
/-- a key, where it stands -/
def NKey (K : PySem.W.Frag) (H : Hp) (k : NestedKey) (b : Addr) : Prop := Dp K H (.ref b) k.data ∧ k.depth ≤ 8
theorem NKey.mono {K : PySem.W.Frag} {H H' : Hp} {k : NestedKey} {b : Addr} (h : NKey K H k b) (s : Same H H') : NKey K H' k b := ⟨dp_mono s _ _ h.1, h.2⟩
def vOf : D → Option V
  | .int i => some (.int i)
  | .bool b => some (.bl b)
  | _ => none
def TupM (K : PySem.W.Frag) (F : Hp) : List (List Int × D) → NXs → Prop
  | [], [] => True
  | p :: ps, x :: xs => (x.1 = nk p.1 ∧ NKey K F x.1 x.2.1 ∧ ∃ v, vOf p.2 = some v ∧ RelV v x.2.2) ∧ TupM K F ps xs
  | _, _ => False
theorem TupM.mono {K : PySem.W.Frag} {F F' : Hp} (s : Same F F') : ∀ {ps : List (List Int × D)} {xs : NXs}, TupM K F ps xs → TupM K F' ps xs
  | [], [], h => h
  | _ :: _, _ :: _, h => ⟨⟨h.1.1, h.1.2.1.mono s, h.1.2.2⟩, TupM.mono s h.2⟩
  | [], _ :: _, h => h.elim
  | _ :: _, [], h => h.elim
def tupDic (kvs : List (List Int × D)) : D := .dict ((.str "tup", .none) :: kvs.map fun p => (.tuple (p.1.map .int), p.2))
def TupQ (K : PySem.W.Frag) (F : Hp) (v : V) (d : D) : Prop := ∃ (a : Addr) (kvs : List (List Int × D)) (xs : NXs), v = .ref a ∧ d = tupDic kvs ∧ F a = some (dX a xs) ∧ TupM K F kvs xs
theorem tupq_mono {K : PySem.W.Frag} {F F' : Hp} (s : Same F F') {d : D} {v : V} (h : TupQ K F v d) : TupQ K F' v d :=
  let ⟨a, kvs, xs, e1, e2, e3, e4⟩ := h
  ⟨a, kvs, xs, e1, e2, s a _ e3, e4.mono s⟩
theorem tup_ne {s : Str} (h : decide (s = "tup") = false) {x : D} {kvs : List (List Int × D)} {l : List (D × D)} : PyData.dict ((.str s, x) :: l) ≠ tupDic kvs := fun e => by
  unfold tupDic at e
  injection e with e
  injection e with e _
  have e1 : (PyData.str s : D) = .str "tup" := congrArg Prod.fst e
  injection e1 with e1
  exact of_decide_eq_false h e1
theorem tup_int {kvs : List (Int × Int)} {l : List (List Int × D)} : IntDic kvs ≠ tupDic l := fun e => by
  cases kvs with
  | nil => cases e
  | cons p r => simp [IntDic, tupDic] at e
def DQ (K : PySem.W.Frag) (F : Hp) (v : V) (d : D) : Prop := Dp K F v d ∨ (∃ (a : Addr) (kvs : List (Int × Int)), v = .ref a ∧ d = IntDic kvs ∧ F a = some (kvO kvs)) ∨ (∃ c, d = excD c ∧ ExQ K F v c) ∨ ObQ K F v d ∨ OrdQ K F v d ∨ TupQ K F v d
theorem dq_mono {K : PySem.W.Frag} {F F' : Hp} (s : Same F F') {d : D} {v : V} (h : DQ K F v d) : DQ K F' v d := by
  rcases h with h | ⟨a, kvs, e1, e2, e3⟩ | ⟨c, e, a, C, e1, e2, e3⟩ | h | h | h
  · exact .inl (dp_mono s d v h)
  · exact .inr (.inl ⟨a, kvs, e1, e2, s a _ e3⟩)
  · exact .inr (.inr (.inl ⟨c, e, a, C, e1, e2, s a _ e3⟩))
  · exact .inr (.inr (.inr (.inl (obq_mono s h))))
  · exact .inr (.inr (.inr (.inr (.inl (ordq_mono s h)))))
  · exact .inr (.inr (.inr (.inr (.inr (tupq_mono s h)))))
theorem okD_dp {K : PySem.W.Frag} {F : Hp} {v : V} {d : D} (h : Dp K F v d) : okD d = .ok d := by cases h <;> rfl
theorem dq_dp {K : PySem.W.Frag} {F : Hp} {v : V} {d e : D} (h : DQ K F v d) (k : okD d = .ok e) : Dp K F v d ∧ e = d := by
  rcases h with h | ⟨a, kvs, e1, rfl, e3⟩ | ⟨c, rfl, e⟩ | h | h | h
  · rw [okD_dp h] at k; cases k; exact ⟨h, rfl⟩
  · cases k
  · cases k
  · obtain ⟨_, _, _, _, _, rfl, _⟩ := h
    cases k
  · obtain ⟨_, _, _, _, rfl, _⟩ := h
    cases k
  · obtain ⟨_, _, _, _, rfl, _⟩ := h
    cases k
theorem dq_int {K : PySem.W.Frag} {F : Hp} {v : V} {kvs : List (Int × Int)} (h : DQ K F v (IntDic kvs)) : ∃ a, v = .ref a ∧ F a = some (kvO kvs) := by
  rcases h with h | ⟨a, l, e1, e2, e3⟩ | ⟨c, e, _⟩ | h | h | h
  · cases h
  · have e4 : l = kvs := by
      have e5 : (kvs.map fun p => (PyData.int p.1, PyData.int p.2)) = l.map fun p => (PyData.int p.1, PyData.int p.2) := by
        unfold IntDic at e2
        injection e2
      have key : ∀ (a b : List (Int × Int)), (a.map fun p => (PyData.int p.1, PyData.int p.2)) = (b.map fun p => (PyData.int p.1, PyData.int p.2)) → a = b := fun a => by
        induction a with
        | nil => intro b h; cases b with
          | nil => rfl
          | cons x b => cases h
        | cons x a ih =>
          intro b h
          cases b with
          | nil => cases h
          | cons y b =>
            simp only [List.map_cons, List.cons.injEq, Prod.mk.injEq, PyData.int.injEq] at h
            rw [ih b h.2]
            obtain ⟨x1, x2⟩ := x
            obtain ⟨y1, y2⟩ := y
            simp only at h
            rw [h.1.1, h.1.2]
      exact (key _ _ e5).symm
    subst e4
    exact ⟨a, e1, e3⟩
  · cases kvs with
    | nil => cases e
    | cons p l => simp [IntDic, excD] at e
  · obtain ⟨_, _, c, l, _, e, _⟩ := h
    cases kvs with
    | nil => cases e
    | cons p kvs => simp [IntDic, objD] at e
  · obtain ⟨_, _, _, _, e, _⟩ := h
    exact absurd e ord_int
  · obtain ⟨_, _, _, _, e, _⟩ := h
    exact absurd e tup_int
structure EnvR (K : PySem.W.Frag) (F : Hp) (σ : St) (ρ : Env) : Prop where
  sl : ∀ (i : Nat) (d : D), ρ[i]? = some (some d) → ∃ v, σ[i]? = some (some v) ∧ DQ K F v d
  len : ρ.length = σ.length
theorem EnvR.mono {K : PySem.W.Frag} {F F' : Hp} {σ : St} {ρ : Env} (h : EnvR K F σ ρ) (s : Same F F') : EnvR K F' σ ρ :=
  ⟨fun i d e => let ⟨v, e1, e2⟩ := h.sl i d e; ⟨v, e1, dq_mono s e2⟩, h.len⟩
/-- what is wanted of an exception: its class, the heap -/
abbrev ErT := Str → Hp → Prop
def Post {α : Type} (F H : Hp) (Er : ErT) (r : R α) (P : Hp → Hp → α → Prop) : Prop := match r with
  | .ok a => ∀ F' H', Grow F H F' H' → P F' H' a
  | .err c => ∀ F' H', Grow F H F' H' → Er c H'
  | .bad => False
section
variable {α β : Type} {F H F1 H1 : Hp} {Er : ErT}
theorem Post.imp {r : R α} {P P' : Hp → Hp → α → Prop} (h : Post F H Er r P) (k : ∀ F' H' a, Grow F H F' H' → P F' H' a → P' F' H' a) : Post F H Er r P' := by
  cases r with
  | ok p => exact fun F' H' g => k F' H' p g (h F' H' g)
  | err c => exact h
  | bad => exact h
theorem Post.mono {r : R α} {P : Hp → Hp → α → Prop} (h : Post F H Er r P) (g : Grow F H F1 H1) : Post F1 H1 Er r P := by
  cases r with
  | ok p => exact fun F' H' g' => h F' H' (g.trans g')
  | err c => exact fun F' H' g' => h F' H' (g.trans g')
  | bad => exact h
theorem Post.bind {r : R α} {g : α → R β} {P : Hp → Hp → β → Prop} (h : Post F H Er (r.bind g) P) : Post F H Er r (fun F1 H1 a => Post F1 H1 Er (g a) P) := by
  cases r with
  | ok p => exact fun F' H' g' => Post.mono h g'
  | err c => exact h
  | bad => exact h
theorem Post.done {a : α} {P : Hp → Hp → α → Prop} (h : Post F H Er (.ok a) P) (g : Grow F H F1 H1) : P F1 H1 a := h F1 H1 g
theorem Post.now {a : α} {P : Hp → Hp → α → Prop} (h : Post F H Er (.ok a) P) (s : Wf F H) : P F H a := h F H (.refl s)
end
abbrev EF := Env → R D
abbrev TF := Env → R Bool
abbrev AF := Env → R (List D)
abbrev OF := Env → R (Option Int)
def DRd (K : PySem.W.Frag) (Er : ErT) (te : TE) (f : EF) : Prop := ∀ F H σ ρ Q, Wf F H → EnvR K F σ ρ → Post F H Er (f ρ) (fun F' H' d => ∀ v, Dp K F' v d → Q v H') → te σ H Q
def DRt (K : PySem.W.Frag) (Er : ErT) (tt : TT) (f : TF) : Prop := ∀ F H σ ρ Q, Wf F H → EnvR K F σ ρ → Post F H Er (f ρ) (fun _ H' b => Q b H') → tt σ H Q
def DRa (K : PySem.W.Frag) (Er : ErT) (ta : TA) (f : AF) : Prop := ∀ F H σ ρ Q, Wf F H → EnvR K F σ ρ → Post F H Er (f ρ) (fun F' H' ds => ∀ vs, DpAll K F' vs ds → Q vs H') → ta σ H Q
def DRo (K : PySem.W.Frag) (Er : ErT) (to : TO) (f : OF) : Prop := ∀ F H σ ρ Q, Wf F H → EnvR K F σ ρ → Post F H Er (f ρ) (fun _ H' o => Q o H') → to σ H Q
/-- a new list: at p, known to the heap alone -/
def DRn (K : PySem.W.Frag) (Er : ErT) (te : TE) (f : AF) : Prop := ∀ F H σ ρ Q, Wf F H → EnvR K F σ ρ →
  Post F H Er (f ρ) (fun F' H' ds => ∀ p vs, H' p = none → DpAll K F' vs ds → Q (.ref p) (upd H' p (.lst vs))) → te σ H Q
structure DE (X : Cx) (Er : ErT) (e : Expr) (te : TE) (f : EF) : Prop where
  pe : PE X e te
  rd : DRd X.K Er te f
structure DT (X : Cx) (Er : ErT) (e : Expr) (te : TT) (f : TF) : Prop where
  pe : PT X e te
  rd : DRt X.K Er te f
structure DW (X : Cx) (Er : ErT) (e : Expr) (te : TT) (f : TF) : Prop where
  pe : PW X e te
  rd : DRt X.K Er te f
structure DA (X : Cx) (Er : ErT) (es : List Expr) (te : TA) (f : AF) : Prop where
  pe : PA X es te
  rd : DRa X.K Er te f
structure DO (X : Cx) (Er : ErT) (e : Option Expr) (te : TO) (f : OF) : Prop where
  pe : PO X e te
  rd : DRo X.K Er te f
structure DN (X : Cx) (Er : ErT) (e : Expr) (te : TE) (f : AF) : Prop where
  pe : PE X e te
  rd : DRn X.K Er te f

/-- arguments: data, or odd things (dicts, exceptions, objects) -/
def DQAll (K : PySem.W.Frag) (F : Hp) : List V → List D → Prop
  | [], [] => True
  | v :: vs, d :: ds => DQ K F v d ∧ DQAll K F vs ds
  | _, _ => False
theorem dqAll_of {K : PySem.W.Frag} {F : Hp} : ∀ {ds : List D} {vs : List V}, DpAll K F vs ds → DQAll K F vs ds
  | [], _, h => by cases h; trivial
  | d :: ds, _, h => by
    cases h with
    | cons h1 h2 => exact ⟨.inl h1, dqAll_of h2⟩
theorem dqAll_len {K : PySem.W.Frag} {F : Hp} : ∀ {ds : List D} {vs : List V}, DQAll K F vs ds → vs.length = ds.length
  | [], [], _ => rfl
  | [], _ :: _, h => h.elim
  | _ :: _, [], h => h.elim
  | d :: ds, v :: vs, h => by simp [dqAll_len h.2]
theorem dqAll_get {K : PySem.W.Frag} {F : Hp} : ∀ {ds : List D} {vs : List V} {i : Nat} {d : D}, DQAll K F vs ds → ds[i]? = some d → ∃ v, vs[i]? = some v ∧ DQ K F v d
  | [], _, _, _, _, e => by simp at e
  | _ :: _, [], _, _, h, _ => h.elim
  | d :: ds, v :: vs, i, x, h, e => by
    cases i with
    | zero => simp at e; subst e; exact ⟨_, rfl, h.1⟩
    | succ i => exact dqAll_get (i := i) h.2 (by simpa using e)
theorem dqAll_mono {K : PySem.W.Frag} {F F' : Hp} (s : Same F F') : ∀ {ds : List D} {vs : List V}, DQAll K F vs ds → DQAll K F' vs ds
  | [], [], _ => trivial
  | [], _ :: _, h => h.elim
  | _ :: _, [], h => h.elim
  | d :: ds, v :: vs, h => ⟨dq_mono s h.1, dqAll_mono s h.2⟩
def DRe (K : PySem.W.Frag) (Er : ErT) (te : TE) (f : EF) : Prop := ∀ F H σ ρ Q, Wf F H → EnvR K F σ ρ → Post F H Er (f ρ) (fun F' H' d => ∀ v, DQ K F' v d → Q v H') → te σ H Q
def DRq (K : PySem.W.Frag) (Er : ErT) (ta : TA) (f : AF) : Prop := ∀ F H σ ρ Q, Wf F H → EnvR K F σ ρ → Post F H Er (f ρ) (fun F' H' ds => ∀ vs, DQAll K F' vs ds → Q vs H') → ta σ H Q
structure DEq (X : Cx) (Er : ErT) (e : Expr) (te : TE) (f : EF) : Prop where
  pe : PE X e te
  rd : DRe X.K Er te f
structure DAq (X : Cx) (Er : ErT) (es : List Expr) (te : TA) (f : AF) : Prop where
  pe : PA X es te
  rd : DRq X.K Er te f

/-! ### mirrors -/
def bE {α β : Type} (f : Env → R α) (g : α → Env → R β) : Env → R β := fun ρ => (f ρ).bind fun a => g a ρ
def oE {α : Type} (o : Option α) : Env → R α := fun _ => R.of o
def vE (i : Nat) : EF := fun ρ => match ρ[i]? with
  | some (some d) => okD d
  | _ => .bad
def cE {α : Type} (d : α) : Env → R α := fun _ => .ok d
def op2E (g : D → D → Option D) (a b : EF) : EF := bE a fun x => bE b fun y => oE (g x y)
def op1E (g : D → Option D) (a : EF) : EF := bE a fun x => oE (g x)
def nilA : AF := cE []
def consA (a : EF) (r : AF) : AF := bE a fun x => bE r fun xs => cE (x :: xs)
def boolD : D → Option Bool
  | .bool b => some b
  | _ => none
def testE (a : EF) : TF := bE a fun x => oE (boolD x)
def andT (a b : TF) : TF := bE a fun x => if x = true then b else cE false
def orT (a b : TF) : TF := bE a fun x => if x = true then cE true else b
def notT (a : TF) : TF := bE a fun x => cE (!x)
def ifE (t : TF) (a b : EF) : EF := bE t fun x => if x = true then a else b
def smallA (a : AF) : AF := bE a fun xs => oE (if xs.length ≤ 1000000 then some xs else none)
def tupE (a : AF) : EF := bE (smallA a) fun xs => cE (.tuple xs)
def lstE (a : AF) : EF := bE a fun xs => cE (.list xs)
theorem sz_of {n : Nat} (h : n ≤ 1000000) : n ≤ sizeLine := Nat.le_trans h (by rw [sizeLine_eq]; decide)
theorem sz_lt {n : Nat} (h : n < 1000000) : n < sizeLine := Nat.lt_of_lt_of_le h (by rw [sizeLine_eq]; decide)

section
variable {X : Cx} {Er : ErT} {K : PySem.W.Frag} {ta tb tc te : TE} {tt tu : TT}
theorem dr_var {i : Nat} : DRd K Er (tVar i) (vE i) := by
  intro F H σ ρ Q s st h
  unfold vE at h
  cases e : ρ[i]? with
  | none => rw [e] at h; exact h.elim
  | some o =>
    cases o with
    | none => rw [e] at h; exact h.elim
    | some d =>
      rw [e] at h
      obtain ⟨v, e1, hq⟩ := st.sl i d e
      dsimp only at h
      cases k : okD d with
      | ok e' =>
        obtain ⟨h1, rfl⟩ := dq_dp hq k
        rw [k] at h
        exact ⟨v, e1, h.now s v h1⟩
      | err c => cases d <;> cases k
      | bad => rw [k] at h; exact h.elim
/-- a slot, whatever it holds -/
def vqE (i : Nat) : EF := fun ρ => match ρ[i]? with
  | some (some d) => .ok d
  | _ => .bad
theorem dr_varq {i : Nat} : DRe K Er (tVar i) (vqE i) := by
  intro F H σ ρ Q s st h
  unfold vqE at h
  cases e : ρ[i]? with
  | none => rw [e] at h; exact h.elim
  | some o =>
    cases o with
    | none => rw [e] at h; exact h.elim
    | some d =>
      rw [e] at h
      obtain ⟨v, e1, hq⟩ := st.sl i d e
      exact ⟨v, e1, h.now s v hq⟩
theorem dr_c {v : V} {d : D} (hd : ∀ F, Dp K F v d) : DRd K Er (tC v) (cE d) := fun F H σ ρ Q s st h => h.now s v (hd F)
theorem de_var {i : Nat} {x : Str} {pos : Pos} (hN : X.N[i]? = some x) (hv : Vis X.env.scope x) (hd : (x == ("__debug__" : Str)) = false := by decide) (hcd : (x == ("__classdict__" : Str)) = false := by decide) : DE X Er (.Name x pos) (tVar i) (vE i) :=
  ⟨pe_var hN hv hd hcd, dr_var⟩
theorem deq_var {i : Nat} {x : Str} {pos : Pos} (hN : X.N[i]? = some x) (hv : Vis X.env.scope x) (hd : (x == ("__debug__" : Str)) = false := by decide) (hcd : (x == ("__classdict__" : Str)) = false := by decide) : DEq X Er (.Name x pos) (tVar i) (vqE i) :=
  ⟨pe_var hN hv hd hcd, dr_varq⟩
theorem deq_of {e : Expr} {f : EF} (h : DE X Er e te f) : DEq X Er e te f :=
  ⟨h.pe, fun F H σ ρ Q s st p => h.rd F H σ ρ Q s st (Post.imp p fun _ _ _ _ q v dv => q v (.inl dv))⟩
theorem de_int {i : Int} {j pos} : DE X Er (.Constant (.int i) j pos) (tC (.int i)) (cE (.int i)) := ⟨pe_int, dr_c fun _ => .int i⟩
theorem de_bl {b : Bool} {j pos} : DE X Er (.Constant (.bool b) j pos) (tC (.bl b)) (cE (.bool b)) := ⟨pe_bl, dr_c fun _ => .bl b⟩
theorem de_non {j pos} : DE X Er (.Constant .none j pos) (tC .non) (cE .none) := ⟨pe_non, dr_c fun _ => .non⟩
theorem de_str {x : Str} {j pos} : DE X Er (.Constant (.str x) j pos) (tC (.str x)) (cE (.str x)) := ⟨pe_str, dr_c fun _ => .str x⟩
theorem de_globI {x : Str} {i : Int} {t : Tok} {pos : Pos} (hg : Gl X x) (hm : X.mg x = some (.int i t)) (hdb : (x == ("__debug__" : Str)) = false := by decide) : DE X Er (.Name x pos) (tC (.int i)) (cE (.int i)) :=
  ⟨pe_glob hg hm ⟨_, rfl⟩ hdb, dr_c fun _ => .int i⟩
theorem de_globS {x : Str} {i : Str} {t : Tok} {pos : Pos} (hg : Gl X x) (hm : X.mg x = some (.str i t)) (hdb : (x == ("__debug__" : Str)) = false := by decide) : DE X Er (.Name x pos) (tC (.str i)) (cE (.str i)) :=
  ⟨pe_glob hg hm ⟨_, rfl⟩ hdb, dr_c fun _ => .str i⟩

/-- an operation by values on data -/
def OpG (K : PySem.W.Frag) (r : R2) (g : D → D → Option D) : Prop := ∀ F H x y a b d Q, Wf F H → Dp K F x a → Dp K F y b → g a b = some d → (∀ v F' H', Grow F H F' H' → Dp K F' v d → Q v H') → r x y H Q
theorem dr_op {r : R2} {g : D → D → Option D} {fa fb : EF} (ho : OpG K r g) (ha : DRd K Er ta fa) (hb : DRd K Er tb fb) : DRd K Er (tOp r ta tb) (op2E g fa fb) := by
  intro F H σ ρ Q s st h
  refine ha F H σ ρ _ s st (Post.imp (Post.bind h) fun F1 H1 a g1 p1 v dv => ?_)
  refine hb F1 H1 σ ρ _ g1.fh (st.mono g1.ff) (Post.imp (Post.bind p1) fun F2 H2 b g2 p2 u du => ?_)
  unfold oE at p2
  cases e : g a b with
  | none => simp only [e] at p2; exact p2.elim
  | some d =>
    simp only [e] at p2
    exact ho F2 H2 v u a b d _ g2.fh (dp_mono g2.ff a v dv) du e fun v' F' H' gr dv' => Post.done p2 gr v' dv'
theorem de_op {a b : Expr} {pos : Pos} {op : Operator} {r : R2} {g : D → D → Option D} {fa fb : EF} (hr : OpR X (binaryOp op) r) (ho : OpG X.K r g) (ha : DE X Er a ta fa) (hb : DE X Er b tb fb) : DE X Er (.BinOp a op b pos) (tOp r ta tb) (op2E g fa fb) :=
  ⟨pe_op hr ha.pe hb.pe, dr_op ho ha.rd hb.rd⟩
theorem de_cmp {a b : Expr} {pos : Pos} {op : CmpOp} {r : R2} {g : D → D → Option D} {fa fb : EF} (hr : OpR X (compareOp op) r) (ho : OpG X.K r g) (ha : DE X Er a ta fa) (hb : DE X Er b tb fb) (hm : behindInMarks op b = false) : DE X Er (.Compare a [op] [b] pos) (tOp r ta tb) (op2E g fa fb) :=
  ⟨pe_cmpR hr ha.pe hb.pe hm, dr_op ho ha.rd hb.rd⟩
theorem de_ix {a b : Expr} {pos : Pos} {r : R2} {g : D → D → Option D} {fa fb : EF} (hr : IxR X r) (ho : OpG X.K r g) (ha : DE X Er a ta fa) (hb : DE X Er b tb fb) (hs : PlainIx b) : DE X Er (.Subscript a b pos) (tOp r ta tb) (op2E g fa fb) :=
  ⟨pe_ix hr ha.pe hb.pe hs, dr_op ho ha.rd hb.rd⟩
/-- a chain of two comparisons -/
def chE (g g' : D → D → Option D) (a b c : EF) : EF := bE a fun x => bE b fun y => bE (oE (g x y)) fun z => bE (oE (boolD z)) fun k => if k = true then bE c fun u => oE (g' y u) else cE (.bool false)
theorem dr_chain {r r' : R2} {g g' : D → D → Option D} {fa fb fc : EF} (ho : OpG K r g) (ho' : OpG K r' g') (ha : DRd K Er ta fa) (hb : DRd K Er tb fb) (hc : DRd K Er tc fc) : DRd K Er (tChain r r' ta tb tc) (chE g g' fa fb fc) := by
  intro F H σ ρ Q s st h
  refine ha F H σ ρ _ s st (Post.imp (Post.bind h) fun F1 H1 a g1 p1 v dv => ?_)
  refine hb F1 H1 σ ρ _ g1.fh (st.mono g1.ff) (Post.imp (Post.bind p1) fun F2 H2 b g2 p2 u du => ?_)
  unfold bE oE at p2
  cases e : g a b with
  | none => simp only [e] at p2; exact p2.elim
  | some z =>
    simp only [e, R.of_some, R.bind_ok] at p2
    cases e2 : boolD z with
    | none => simp only [e2] at p2; exact p2.elim
    | some k =>
      simp only [e2, R.of_some, R.bind_ok] at p2
      have ez : z = .bool k := by
        cases z <;> simp [boolD] at e2
        rw [e2]
      subst ez
      refine ho F2 H2 v u a b _ _ g2.fh (dp_mono g2.ff a v dv) du e fun v' F' H' gr dv' => ?_
      cases dv'
      refine ⟨k, rfl, ?_⟩
      cases k with
      | false => exact Post.done p2 gr _ (.bl false)
      | true =>
        rw [if_pos rfl] at p2
        rw [if_pos rfl]
        refine hc F' H' σ ρ _ gr.fh (((st.mono g1.ff).mono g2.ff).mono gr.ff) (Post.imp (Post.bind (Post.mono p2 gr)) fun F3 H3 c g3 p3 q dq => ?_)
        cases e3 : g' b c with
        | none => simp only [e3] at p3; exact p3.elim
        | some d =>
          simp only [e3] at p3
          exact ho' F3 H3 u q b c d _ g3.fh (dp_mono g3.ff b u (dp_mono gr.ff b u du)) dq e3 fun v' F' H' gr' dv' => Post.done p3 gr' v' dv'
theorem de_chain {a b c : Expr} {pos : Pos} {op op' : CmpOp} {r r' : R2} {g g' : D → D → Option D} {fa fb fc : EF} (hr : OpR X (compareOp op) r) (hr' : OpR X (compareOp op') r') (ho : OpG X.K r g) (ho' : OpG X.K r' g') (ha : DE X Er a ta fa) (hb : DE X Er b tb fb) (hc : DE X Er c tc fc)
    (hm : lastMarks [op, op'] [b, c] = false := by with_unfolding_all rfl) : DE X Er (.Compare a [op, op'] [b, c] pos) (tChain r r' ta tb tc) (chE g g' fa fb fc) :=
  ⟨pe_chain hr hr' ha.pe hb.pe hc.pe hm, dr_chain ho ho' ha.rd hb.rd hc.rd⟩
/-! tests -/
theorem dr_test {f : EF} (h : DRd K Er te f) : DRt K Er (tB te) (testE f) := by
  intro F H σ ρ Q s st p
  refine h F H σ ρ _ s st (Post.imp (Post.bind p) fun F1 H1 a g1 p1 v dv => ?_)
  cases a with
  | bool k => cases dv; exact ⟨k, rfl, Post.now p1 g1.fh⟩
  | _ => exact p1.elim
theorem dt_val {e : Expr} {f : EF} (h : DE X Er e te f) (he : ∀ whole, isTrue e X.env whole = (do let v ← whole; standAt e.pos; holding [v] (truthy v)) := by intro _; rfl) : DT X Er e (tB te) (testE f) :=
  ⟨pt_val h.pe he, dr_test h.rd⟩
theorem dt_cmp {a b : Expr} {pos : Pos} {op : CmpOp} {r : R2} {g : D → D → Option D} {fa fb : EF} (hr : OpR X (compareOp op) r) (ho : OpG X.K r g) (ha : DE X Er a ta fa) (hb : DE X Er b tb fb) (hm : behindInMarks op b = false) : DT X Er (.Compare a [op] [b] pos) (tTest (tOp r ta tb)) (testE (op2E g fa fb)) :=
  ⟨pt_cmpR hr ha.pe hb.pe hm, dr_test (dr_op ho ha.rd hb.rd)⟩
theorem dt_chain {a b c : Expr} {pos : Pos} {op op' : CmpOp} {r r' : R2} {g g' : D → D → Option D} {fa fb fc : EF} (hr : OpR X (compareOp op) r) (hr' : OpR X (compareOp op') r') (ho : OpG X.K r g) (ho' : OpG X.K r' g') (ha : DE X Er a ta fa) (hb : DE X Er b tb fb) (hc : DE X Er c tc fc)
    (hm : lastMarks [op, op'] [b, c] = false := by with_unfolding_all rfl) : DT X Er (.Compare a [op, op'] [b, c] pos) (tTest (tChain r r' ta tb tc)) (testE (chE g g' fa fb fc)) :=
  ⟨pt_chain hr hr' ha.pe hb.pe hc.pe hm, dr_test (dr_chain ho ho' ha.rd hb.rd hc.rd)⟩
theorem dw_pt {e : Expr} {f : TF} (h : DW X Er e tt f) : DT X Er e tt f := ⟨h.pe.pt, h.rd⟩
variable {a b : Expr} {rest : List Expr} {pos : Pos} {fa fb : TF} {ea eb : EF}
theorem dw_and1 (h : DT X Er a tt fa) : DW X Er (.BoolOp .And [a] pos) tt fa := ⟨pw_and1 h.pe, h.rd⟩
theorem dw_or1 (h : DT X Er a tt fa) : DW X Er (.BoolOp .Or [a] pos) tt fa := ⟨pw_or1 h.pe, h.rd⟩
theorem dw_and (h : DT X Er a tt fa) (k : DW X Er (.BoolOp .And (b :: rest) pos) tu fb) : DW X Er (.BoolOp .And (a :: b :: rest) pos) (tAnd tt tu) (andT fa fb) := by
  refine ⟨pw_and h.pe k.pe, fun F H σ ρ Q s st p => ?_⟩
  refine h.rd F H σ ρ _ s st (Post.imp (Post.bind p) fun F1 H1 c g1 p1 => ?_)
  cases c with
  | true => exact k.rd F1 H1 σ ρ Q g1.fh (st.mono g1.ff) p1
  | false => exact Post.now p1 g1.fh
theorem dw_or (h : DT X Er a tt fa) (k : DW X Er (.BoolOp .Or (b :: rest) pos) tu fb) : DW X Er (.BoolOp .Or (a :: b :: rest) pos) (tOr tt tu) (orT fa fb) := by
  refine ⟨pw_or h.pe k.pe, fun F H σ ρ Q s st p => ?_⟩
  refine h.rd F H σ ρ _ s st (Post.imp (Post.bind p) fun F1 H1 c g1 p1 => ?_)
  cases c with
  | false => exact k.rd F1 H1 σ ρ Q g1.fh (st.mono g1.ff) p1
  | true => exact Post.now p1 g1.fh
theorem dt_not (h : DT X Er a tt fa) : DT X Er (.UnaryOp .Not a pos) (tNot tt) (notT fa) :=
  ⟨pt_not h.pe, fun F H σ ρ Q s st p => h.rd F H σ ρ _ s st (Post.imp (Post.bind p) fun F1 H1 c g1 p1 => Post.now p1 g1.fh)⟩
/-! and, or, not as values (of bools) -/
def andE (a b : EF) : EF := bE a fun x => bE (oE (boolD x)) fun k => if k = true then b else cE (.bool false)
def orE (a b : EF) : EF := bE a fun x => bE (oE (boolD x)) fun k => if k = true then cE (.bool true) else b
def notE (a : EF) : EF := bE a fun x => bE (oE (boolD x)) fun k => cE (.bool (!k))
theorem de_one {op} (h : DE X Er a te ea) : DE X Er (.BoolOp op [a] pos) te ea := ⟨pe_one h.pe, h.rd⟩
theorem de_and (h : DE X Er a ta ea) (k : DE X Er (.BoolOp .And (b :: rest) pos) tb eb) : DE X Er (.BoolOp .And (a :: b :: rest) pos) (tAndV ta tb) (andE ea eb) := by
  refine ⟨pe_and h.pe k.pe, fun F H σ ρ Q s st p => ?_⟩
  refine h.rd F H σ ρ _ s st (Post.imp (Post.bind p) fun F1 H1 c g1 p1 v dv => ?_)
  cases c with
  | bool b =>
    cases dv
    refine ⟨b, rfl, ?_⟩
    cases b with
    | true => exact k.rd F1 H1 σ ρ Q g1.fh (st.mono g1.ff) p1
    | false => exact Post.now p1 g1.fh _ (.bl false)
  | _ => exact p1.elim
theorem de_or (h : DE X Er a ta ea) (k : DE X Er (.BoolOp .Or (b :: rest) pos) tb eb) : DE X Er (.BoolOp .Or (a :: b :: rest) pos) (tOrV ta tb) (orE ea eb) := by
  refine ⟨pe_or h.pe k.pe, fun F H σ ρ Q s st p => ?_⟩
  refine h.rd F H σ ρ _ s st (Post.imp (Post.bind p) fun F1 H1 c g1 p1 v dv => ?_)
  cases c with
  | bool b =>
    cases dv
    refine ⟨b, rfl, ?_⟩
    cases b with
    | false => exact k.rd F1 H1 σ ρ Q g1.fh (st.mono g1.ff) p1
    | true => exact Post.now p1 g1.fh _ (.bl true)
  | _ => exact p1.elim
theorem de_not (h : DE X Er a te ea) : DE X Er (.UnaryOp .Not a pos) (tNotV te) (notE ea) := by
  refine ⟨pe_not h.pe, fun F H σ ρ Q s st p => ?_⟩
  refine h.rd F H σ ρ _ s st (Post.imp (Post.bind p) fun F1 H1 c g1 p1 v dv => ?_)
  cases c with
  | bool k => cases dv; exact ⟨k, rfl, Post.now p1 g1.fh _ (.bl _)⟩
  | _ => exact p1.elim
theorem de_if {c : Expr} (hc : DT X Er c tt fa) (h : DE X Er a ta ea) (k : DE X Er b tb eb) : DE X Er (.IfExp c a b pos) (tIf tt ta tb) (ifE fa ea eb) := by
  refine ⟨pe_ifExp hc.pe h.pe k.pe, fun F H σ ρ Q s st p => ?_⟩
  refine hc.rd F H σ ρ _ s st (Post.imp (Post.bind p) fun F1 H1 c g1 p1 => ?_)
  cases c with
  | true => exact h.rd F1 H1 σ ρ Q g1.fh (st.mono g1.ff) p1
  | false => exact k.rd F1 H1 σ ρ Q g1.fh (st.mono g1.ff) p1
/-! arguments, displays -/
theorem da_nil : DA X Er [] tNil nilA := ⟨pa_nil, fun F H σ ρ Q s st h => h.now s [] .nil⟩
theorem da_cons {e : Expr} {es : List Expr} {f : EF} {r : AF} {tr : TA} (h : DE X Er e te f) (k : DA X Er es tr r) (hs : starEach (e :: es) X.env = (false, eval e X.env) :: starEach es X.env := by rfl) : DA X Er (e :: es) (tCons te tr) (consA f r) := by
  refine ⟨pa_cons h.pe k.pe hs, fun F H σ ρ Q s st p => ?_⟩
  refine h.rd F H σ ρ _ s st (Post.imp (Post.bind p) fun F1 H1 a g1 p1 v dv => ?_)
  refine k.rd F1 H1 σ ρ _ g1.fh (st.mono g1.ff) (Post.imp (Post.bind p1) fun F2 H2 ds g2 p2 vs dvs => ?_)
  exact Post.now p2 g2.fh _ (.cons (dp_mono g2.ff a v dv) dvs)
theorem daq_nil : DAq X Er [] tNil nilA := ⟨pa_nil, fun F H σ ρ Q s st h => h.now s [] trivial⟩
theorem daq_cons {e : Expr} {es : List Expr} {f : EF} {r : AF} {tr : TA} (h : DEq X Er e te f) (k : DAq X Er es tr r) (hs : starEach (e :: es) X.env = (false, eval e X.env) :: starEach es X.env := by rfl) : DAq X Er (e :: es) (tCons te tr) (consA f r) := by
  refine ⟨pa_cons h.pe k.pe hs, fun F H σ ρ Q s st p => ?_⟩
  refine h.rd F H σ ρ _ s st (Post.imp (Post.bind p) fun F1 H1 a g1 p1 v dv => ?_)
  refine k.rd F1 H1 σ ρ _ g1.fh (st.mono g1.ff) (Post.imp (Post.bind p1) fun F2 H2 ds g2 p2 vs dvs => ?_)
  exact Post.now p2 g2.fh _ ⟨dq_mono g2.ff dv, dvs⟩
theorem daq_of {es : List Expr} {f : AF} {tr : TA} (h : DA X Er es tr f) : DAq X Er es tr f :=
  ⟨h.pe, fun F H σ ρ Q s st p => h.rd F H σ ρ Q s st (Post.imp p fun _ _ _ _ q v dv => q v (dqAll_of dv))⟩
theorem small_ok {ds : List D} {F H : Hp} {P : Hp → Hp → List D → Prop} (p : Post F H Er ((fun xs => oE (α := List D) (if xs.length ≤ 1000000 then some xs else none)) ds ([] : Env)) P) (s : Wf F H) : ds.length ≤ 1000000 ∧ P F H ds := by
  by_cases hl : ds.length ≤ 1000000
  · simp only [oE, if_pos hl] at p
    exact ⟨hl, Post.now p s⟩
  · simp only [oE, if_neg hl] at p
    exact p.elim
theorem de_tup {es : List Expr} {f : AF} {tr : TA} {k} (h : DA X Er es tr f) : DE X Er (.Tuple es k pos) (tTup tr) (tupE f) := by
  refine ⟨pe_tup h.pe, fun F H σ ρ Q s st p => ?_⟩
  refine h.rd F H σ ρ _ s st (Post.imp (Post.bind (Post.bind p)) fun F1 H1 ds g1 p1 vs dvs => ?_)
  have el := dpAll_len dvs
  obtain ⟨hl, p2⟩ := small_ok p1 g1.fh
  refine ⟨sz_of (by omega), fun a ha => ?_⟩
  exact Post.done p2 (Grow.new g1.fh ha) _ (.tup (.inl (.inl upd_same)) (dpAll_mono (Grow.new g1.fh ha).ff ds vs dvs))
theorem dn_lst {es : List Expr} {f : AF} {tr : TA} (h : DA X Er es tr f) : DN X Er (.List es pos) (tLst tr) (smallA f) := by
  refine ⟨pe_lst h.pe, fun F H σ ρ Q s st p => ?_⟩
  refine h.rd F H σ ρ _ s st (Post.imp (Post.bind p) fun F1 H1 ds g1 p1 vs dvs => ?_)
  have el := dpAll_len dvs
  obtain ⟨hl, p2⟩ := small_ok p1 g1.fh
  exact ⟨sz_of (by omega), fun a ha => p2 a vs ha dvs⟩
/-- a new list, from now on frozen -/
theorem de_new {e : Expr} {f : AF} (h : DN X Er e te f) : DE X Er e te (lstE f) := by
  refine ⟨h.pe, fun F H σ ρ Q s st p => ?_⟩
  refine h.rd F H σ ρ _ s st (Post.imp (Post.bind p) fun F1 H1 ds g1 p1 a vs ha dvs => ?_)
  exact Post.done p1 (Grow.new g1.fh ha) _ (.lst (.inl (.inl upd_same)) (dpAll_mono (Grow.new g1.fh ha).ff ds vs dvs))
end
end DL

/-! DL1: operators and calls on data. -/
namespace DL
open PySem PySem.Spec PyProof.Rows L2
variable [Mem]

theorem grow_upd {F H : Hp} {o : HO} (s : Wf F H) {p : Addr} (h : H p = none) : Grow F H (upd F p o) (upd H p o) := Grow.new s h

/-! ### arithmetic -/
def addD : D → D → Option D
  | .int i, .int j => some (.int (i + j))
  | .str x, .str y => if x.length + y.length ≤ 1000000 then some (.str (x ++ y)) else none
  | .tuple xs, .tuple ys => if xs.length + ys.length ≤ 1000000 then some (.tuple (xs ++ ys)) else none
  | .list xs, .list ys => if xs.length + ys.length ≤ 1000000 then some (.list (xs ++ ys)) else none
  | _, _ => none
def subD : D → D → Option D
  | .int i, .int j => some (.int (i - j))
  | _, _ => none
def modD : D → D → Option D
  | .int i, .int j => if 0 < j then some (.int (i % j)) else none
  | _, _ => none
def fdivD : D → D → Option D
  | .int i, .int j => if 0 < j ∧ j < 1073741824 then some (.int (i / j)) else none
  | _, _ => none
def powD : D → D → Option D
  | .int i, .int j => if 0 ≤ j ∧ j ≤ 1000000 ∧ i.natAbs < 2 ^ 64 then some (.int (i ^ j.toNat)) else none
  | _, _ => none
def mulD : D → D → Option D
  | .int i, .int j => if (-(2 ^ 64) < i ∧ i < 2 ^ 64) ∨ (-(2 ^ 64) < j ∧ j < 2 ^ 64) then some (.int (i * j)) else none
  | .tuple xs, .int k => if xs ≠ [] ∧ 1 ≤ k ∧ k ≤ 1000 ∧ xs.length ≤ 1000 then some (.tuple (List.replicate k.toNat xs).flatten) else none
  | .list xs, .int k => if -(2 ^ 63) ≤ k ∧ k < 2 ^ 63 ∧ xs.length * k.toNat ≤ 1000000 then some (.list (List.replicate k.toNat xs).flatten) else none
  | _, _ => none
section
variable {X : Cx} {K : PySem.W.Frag}
/-- xs + ys, the lists known any way -/
def rCatS (K : PySem.W.Frag) : R2 := fun x y H Q => ∃ l b xs zs, x = .ref l ∧ y = .ref b ∧ SqL K H l xs ∧ SqL K H b zs ∧ xs.length + zs.length ≤ sizeLine ∧ ∀ p, H p = none → Q (.ref p) (upd H p (.lst (xs ++ zs)))
theorem op_catS : OpR X (binaryOp .Add) (rCatS X.K) := by
  intro pins s σ H x y v u Q I rx ry h
  obtain ⟨l, b, xs, zs, rfl, rfl, hH, hB, hz, q⟩ := h
  cases rx
  cases ry
  obtain ⟨its, r, ⟨⟨cls, dd, data, sl⟩, n, ho, hc, hdn, hd⟩, _⟩ := I.list hH
  obtain ⟨its2, r2, ⟨⟨cls2, dd2, data2, sl2⟩, n2, ho2, hc2, hdn2, hd2⟩, _⟩ := I.list hB
  simp only at hc hd hc2 hd2
  subst hc hd hc2 hd2
  have hl := r.length
  have hl2 := r2.length
  have e : its.toArray ++ its2.toArray = (its ++ its2).toArray := by simp
  refine PySem.concat_meets ⟨_, ho, rfl⟩ ⟨_, ho2, rfl⟩ PySem.noFill_list_add PySem.seq_list_add PySem.F.slot_list_add PySem.F.entry_list_add (PySem.F.args_list_add_2 _ _) (PyProof.Rows.list_addW l b its.toArray its2.toArray n n2 dd dd2 sl sl2 (by simp; omega)) ⟨ho, ho2, ?_⟩
  rw [e]
  exact ⟨.ref _, _, I.lnew (t' := s.toks) (r.append r2) (by rw [List.length_append]; omega), rfl, q _ I.fresh⟩
def rAddA (K : PySem.W.Frag) : R2 := fun x y H Q => (rI0 (fun i j => .int (i + j)) x y H Q ∨ ((∃ i j, x = .str i ∧ y = .str j ∧ i.length + j.length ≤ sizeLine ∧ Q (.str (i ++ j)) H) ∨ (rCatA K x y H Q ∨ rCatS K x y H Q)))
theorem op_addA : OpR X (binaryOp .Add) (rAddA X.K) := op_add.or (op_add_str.or (op_catA.or op_catS))
theorem og_add : OpG K (rAddA K) addD := by
  intro F H x y a b d Q s hx hy e k
  cases hx <;> cases hy <;> simp only [addD] at e <;> try (simp at e; done)
  · cases e
    exact .inl ⟨_, _, rfl, rfl, k _ F H (.refl s) (.int _)⟩
  · split at e <;> cases e
    rename_i hl
    exact .inr (.inl ⟨_, _, rfl, rfl, sz_of hl, k _ F H (.refl s) (.str _)⟩)
  · split at e <;> cases e
    rename_i h1 h2 _ _ _ h3 h4 hl
    have l1 := dpAll_len h2
    have l2 := dpAll_len h4
    refine .inr (.inr (.inr ⟨_, _, _, _, rfl, rfl, same_seqL s.s h1, same_seqL s.s h3, sz_of (by omega), fun p hp => ?_⟩))
    exact k _ _ _ (Grow.new s hp) (.lst (.inl (.inl upd_same)) (dpAll_mono (Grow.new s hp).ff _ _ (dpAll_app h2 h4)))
  · split at e <;> cases e
    rename_i h1 h2 _ _ _ h3 h4 hl
    have l1 := dpAll_len h2
    have l2 := dpAll_len h4
    refine .inr (.inr (.inl ⟨_, _, _, _, rfl, rfl, same_seqT s.s h1, same_seqT s.s h3, sz_of (by omega), fun z => ?_, fun z1 z2 => ?_, fun _ _ p hp => ?_⟩))
    · subst z
      cases h2
      exact k _ F H (.refl s) (.tup h3 h4)
    · subst z2
      cases h4
      rw [List.append_nil] at k
      exact k _ F H (.refl s) (.tup h1 h2)
    · exact k _ _ _ (Grow.new s hp) (.tup (.inl (.inl upd_same)) (dpAll_mono (Grow.new s hp).ff _ _ (dpAll_app h2 h4)))
theorem og_sub : OpG K (rI0 fun i j => .int (i - j)) subD := by
  intro F H x y a b d Q s hx hy e k
  cases hx <;> cases hy <;> simp only [subD] at e <;> try (simp at e; done)
  cases e
  exact ⟨_, _, rfl, rfl, k _ F H (.refl s) (.int _)⟩
theorem og_mod : OpG K (rI (fun _ j => 0 < j) fun i j => .int (i % j)) modD := by
  intro F H x y a b d Q s hx hy e k
  cases hx <;> cases hy <;> simp only [modD] at e <;> try (simp at e; done)
  split at e <;> cases e
  rename_i h
  exact ⟨_, _, rfl, rfl, h, k _ F H (.refl s) (.int _)⟩
theorem og_fdiv : OpG K (rI CDiv fun i j => .int (i / j)) fdivD := by
  intro F H x y a b d Q s hx hy e k
  cases hx <;> cases hy <;> simp only [fdivD] at e <;> try (simp at e; done)
  split at e <;> cases e
  rename_i h
  exact ⟨_, _, rfl, rfl, h, k _ F H (.refl s) (.int _)⟩
theorem og_pow : OpG K (rI CPow fun i j => .int (i ^ j.toNat)) powD := by
  intro F H x y a b d Q s hx hy e k
  cases hx <;> cases hy <;> simp only [powD] at e <;> try (simp at e; done)
  split at e <;> cases e
  rename_i h
  exact ⟨_, _, rfl, rfl, h, k _ F H (.refl s) (.int _)⟩
/-- xs * k, the list known any way -/
def rRepS (K : PySem.W.Frag) : R2 := fun x y H Q => ∃ l k xs, x = .ref l ∧ y = .int k ∧ SqL K H l xs ∧ -(2 ^ 63) ≤ k ∧ k < 2 ^ 63 ∧ xs.length * k.toNat ≤ 1000000 ∧
  ∀ p, H p = none → Q (.ref p) (upd H p (.lst (List.replicate k.toNat xs).flatten))
theorem op_repS : OpR X (binaryOp .Mult) (rRepS X.K) := by
  intro pins s σ H x y v u Q I rx ry h
  obtain ⟨l, k, xs, rfl, rfl, hH, h1, h2, hz, q⟩ := h
  cases rx
  obtain ⟨t, rfl⟩ := ry
  obtain ⟨its, r, ⟨⟨cls, dd, data, sl⟩, n, ho, hc, hdn, hd⟩, _⟩ := I.list hH
  simp only at hc hd
  subst hc hd
  have hl := r.length
  have hsz' : its.toArray.size * k.toNat ≤ 2 ^ 24 := by rw [List.size_toArray, ← hl]; omega
  refine wpAny_binaryOp_repeat_ref (T := "list") (U := "int") (by decide) ⟨_, ho, rfl⟩ (fun s' => typeIs_int s' k t) noFill_list_mul F.fills_int_mul F.slot_int_rmul repeat_list F.slot_int_index.lookup
    (call_meets F.slot_int_rmul (typeIs_int s k t) F.entry_int_rmul (F.args_int_rmul_2 _ _) (lm_int_rmul_list_any k t l its.toArray n dd sl)
      ⟨ho, rfl, ⟨_, ho, rfl⟩, call_meets F.slot_list_mul ⟨_, ho, rfl⟩ F.entry_list_mul (F.args_list_mul_2 _ _)
        (lm_list_mul_any l its.toArray n dd sl k t (by simp [Builtin.List.listFitsIndex]; omega) (by omega) (by simp [Builtin.List.listTooLong, sizeLine]; rw [List.size_toArray] at hsz'; omega))
        ⟨ho, ?_⟩⟩)
  have hnew := PyProof.Rows.listMul_foldl_if its.toArray k.toNat
  rw [hnew]
  exact ⟨.ref _, _, I.lnew (t' := s.toks) (r.rep k.toNat) (by rw [PyProof.Rows.lm_len_rep_flat, sizeLine_eq, Nat.mul_comm]; omega), rfl, q _ I.fresh⟩
theorem tuple_mul1 (l : Addr) (items : Array Value) (n : Nat) (dd : Option Addr) (sl : Array (Option Value)) (u : Tok) :
    PySem.Meets (Builtin.«tuple.__mul__» ⟨[.ref l, .int 1 u], []⟩) (fun _ R s => s.heap.get? l = some { cls := .type "tuple", dict := dd, data := .seq items n, slots := sl } ∧ R (.ok (.ret (Value.ref l))) { s with heap := s.heap, toks := s.toks }) :=
  .of_wp fun prog w A R s h => by
    obtain ⟨hp, g, d, tk, os⟩ := s
    obtain ⟨hl, h⟩ := h
    wp_walk using wpAny_loadPart' hl
    exact ⟨_, rfl, h⟩
/-- t * 1 is t -/
def rRepT1 (K : PySem.W.Frag) : R2 := fun x y H Q => ∃ l xs, x = .ref l ∧ y = .int 1 ∧ SqT K H l xs ∧ Q (.ref l) H
theorem op_repT1 : OpR X (binaryOp .Mult) (rRepT1 X.K) := by
  intro pins s σ H x y v u Q I rx ry h
  obtain ⟨l, xs, rfl, rfl, hT, q⟩ := h
  cases rx
  obtain ⟨t, rfl⟩ := ry
  obtain ⟨its, r, ⟨⟨cls, dd, data, sl⟩, ho, hc, n, hd⟩, hs⟩ := I.tuple hT
  simp only at hc hd
  subst hc hd
  refine wpAny_binaryOp_repeat_ref (T := "tuple") (U := "int") (by decide) ⟨_, ho, rfl⟩ (fun s' => typeIs_int s' 1 t) noFill_tuple_mul F.fills_int_mul F.slot_int_rmul repeat_tuple F.slot_int_index.lookup
    (call_meets F.slot_int_rmul (typeIs_int s 1 t) F.entry_int_rmul (F.args_int_rmul_2 _ _) (int_rmul_tuple 1 t l its.toArray n dd sl)
      ⟨ho, rfl, ⟨_, ho, rfl⟩, call_meets F.slot_tuple_mul ⟨_, ho, rfl⟩ F.entry_tuple_mul (F.args_tuple_mul_2 _ _) (tuple_mul1 l its.toArray n dd sl t) ⟨ho, ?_⟩⟩)
  exact ⟨.ref l, H, I.tok _, rfl, q⟩
def rMulA (K : PySem.W.Frag) : R2 := fun x y H Q => rI CMul (fun i j => .int (i * j)) x y H Q ∨ (rRepS K x y H Q ∨ (rRepT K x y H Q ∨ rRepT1 K x y H Q))
theorem op_mulA : OpR X (binaryOp .Mult) (rMulA X.K) := op_mul.or (op_repS.or (op_repT.or op_repT1))
theorem og_mul : OpG K (rMulA K) mulD := by
  intro F H x y a b d Q s hx hy e k
  cases hx <;> cases hy <;> simp only [mulD] at e <;> try (simp at e; done)
  · split at e <;> cases e
    rename_i h
    exact .inl ⟨_, _, rfl, rfl, h, k _ F H (.refl s) (.int _)⟩
  · split at e <;> cases e
    rename_i h1 h2 _ h
    have l1 := dpAll_len h2
    refine .inr (.inl ⟨_, _, _, rfl, rfl, same_seqL s.s h1, h.1, h.2.1, by rw [l1]; exact h.2.2, fun p hp => ?_⟩)
    exact k _ _ _ (Grow.new s hp) (.lst (.inl (.inl upd_same)) (dpAll_mono (Grow.new s hp).ff _ _ (dpAll_rep h2 _)))
  · split at e <;> cases e
    rename_i h1 h2 n h
    have l1 := dpAll_len h2
    by_cases hn : n = 1
    · subst hn
      refine .inr (.inr (.inr ⟨_, _, rfl, rfl, same_seqT s.s h1, ?_⟩))
      have k' := k _ F H (.refl s) (.tup h1 (by
        have := dpAll_rep h2 1
        simp only [List.replicate_one, List.flatten_cons, List.flatten_nil, List.append_nil] at this
        simpa using this))
      exact k'
    · refine .inr (.inr (.inl ⟨_, _, _, rfl, rfl, same_seqT s.s h1, ?_, by omega, h.2.2.1, by omega, fun p hp => ?_⟩))
      · intro z
        rw [z] at l1
        exact h.1 (List.eq_nil_of_length_eq_zero (by simpa using l1.symm))
      · exact k _ _ _ (Grow.new s hp) (.tup (.inl (.inl upd_same)) (dpAll_mono (Grow.new s hp).ff _ _ (dpAll_rep h2 _)))

/-! ### comparisons -/
def eqD (d e : D) : Option D := if SeqAt.shaped d = true ∧ SeqAt.shaped e = true then some (.bool (PyData.eqv d e)) else none
def neD (d e : D) : Option D := if SeqAt.shaped d = true ∧ SeqAt.shaped e = true then some (.bool (!PyData.eqv d e)) else none
def intsD (p : Int → Int → Bool) : D → D → Option D
  | .int i, .int j => some (.bool (p i j))
  | _, _ => none
abbrev ltD := intsD fun i j => decide (i < j)
abbrev leD := intsD fun i j => decide (i ≤ j)
abbrev gtD := intsD fun i j => decide (j < i)
abbrev geD := intsD fun i j => decide (j ≤ i)
theorem og_eq : OpG K (rEqD K) eqD := by
  intro F H x y a b d Q s hx hy e k
  unfold eqD at e
  split at e <;> cases e
  rename_i h
  exact ⟨a, b, dp_mono s.s _ _ hx, dp_mono s.s _ _ hy, h.1, h.2, k _ F H (.refl s) (.bl _)⟩
theorem og_ne : OpG K (rNeD K) neD := by
  intro F H x y a b d Q s hx hy e k
  unfold neD at e
  split at e <;> cases e
  rename_i h
  exact ⟨a, b, dp_mono s.s _ _ hx, dp_mono s.s _ _ hy, h.1, h.2, k _ F H (.refl s) (.bl _)⟩
theorem og_ints {p : Int → Int → Bool} : OpG K (rI0 fun i j => .bl (p i j)) (intsD p) := by
  intro F H x y a b d Q s hx hy e k
  cases hx <;> cases hy <;> simp only [intsD] at e <;> try (simp at e; done)
  cases e
  exact ⟨_, _, rfl, rfl, k _ F H (.refl s) (.bl _)⟩
/-- is None, is True, is False (and is not) -/
def isD : D → D → Option D
  | .none, .none => some (.bool true)
  | .bool _, .none => some (.bool false)
  | .int _, .none => some (.bool false)
  | .str _, .none => some (.bool false)
  | .list _, .none => some (.bool false)
  | .tuple _, .none => some (.bool false)
  | .bool a, .bool b => some (.bool (decide (a = b)))
  | _, _ => none
def notIsD (d e : D) : Option D := match isD d e with
  | some (.bool b) => some (.bool (!b))
  | _ => none
def rIsA : R2 := fun x y H Q => (y = .non ∧ Q (.bl (decide (x = .non))) H) ∨ rIsB x y H Q
def rNotA : R2 := fun x y H Q => (y = .non ∧ Q (.bl (!decide (x = .non))) H) ∨ rNotB x y H Q
theorem op_isA : OpR X (compareOp .Is) rIsA := op_isN.or op_isBl
theorem op_notA : OpR X (compareOp .IsNot) rNotA := op_notN.or op_notBl
theorem og_is : OpG K rIsA isD := by
  intro F H x y a b d Q s hx hy e k
  cases hx <;> cases hy <;> simp only [isD] at e <;> first | (simp at e; done) | skip
  all_goals first
    | (cases e; exact .inl ⟨rfl, k _ F H (.refl s) (.bl _)⟩)
    | (cases e; exact .inr ⟨_, _, rfl, rfl, k _ F H (.refl s) (.bl _)⟩)
theorem og_notIs : OpG K rNotA notIsD := by
  intro F H x y a b d Q s hx hy e k
  cases hx <;> cases hy <;> simp only [notIsD, isD] at e <;> first | (simp at e; done) | skip
  all_goals first
    | (cases e; exact .inl ⟨rfl, k _ F H (.refl s) (.bl _)⟩)
    | (cases e; exact .inr ⟨_, _, rfl, rfl, k _ F H (.refl s) (.bl _)⟩)
/-- x in a list, a tuple, (one sign) in a text -/
def inD (d : D) : D → Option Bool
  | .list ds => if SeqAt.shaped d = true ∧ SeqAt.shaped (.list ds) = true then some (ds.any fun z => PyData.eqv z d) else none
  | .tuple ds => if SeqAt.shaped d = true ∧ SeqAt.shaped (.tuple ds) = true then some (ds.any fun z => PyData.eqv z d) else none
  | .str z => match d with
    | .str c => if c.cps.size = 1 then some (decide (c.cps.getD 0 0 ∈ z.cps.toList)) else none
    | _ => none
  | _ => none
def inE (d e : D) : Option D := (inD d e).map .bool
def notInE (d e : D) : Option D := (inD d e).map fun b => .bool (!b)
def rInT (K : PySem.W.Frag) (neg : Bool) : R2 := fun x y H Q => ∃ d ds, Dp K H x d ∧ Dp K H y (.tuple ds) ∧ SeqAt.shaped d = true ∧ SeqAt.shaped (.tuple ds) = true ∧ Q (.bl (if neg then !ds.any (fun z => PyData.eqv z d) else ds.any fun z => PyData.eqv z d)) H
theorem shapedT_L {ds : List PyData} (h : SeqAt.shaped (.tuple ds) = true) : PyData.canLayAll0 ds = true := SeqAt.canLay_of_shaped h
theorem op_inT (hu : X.A.units + 65 < cLine) : OpR X (compareOp .In) (rInT X.K false) := by
  intro pins s σ H x y v u Q I rx ry h
  obtain ⟨d, ds, hd, he, sd, se, q⟩ := h
  obtain ⟨as, r1⟩ := Dp.reads I d x v hd rx
  obtain ⟨bs, r2⟩ := Dp.reads I (.tuple ds) y u he ry
  exact SeqAt.in_tuple_reads r2 r1 (shapedT_L se) (SeqAt.canLay_of_shaped sd) (PyProof.Rows.room_in_shaped sd hu) ⟨.bl _, H, I, rfl, q⟩
theorem op_notInT (hu : X.A.units + 65 < cLine) : OpR X (compareOp .NotIn) (rInT X.K true) := by
  intro pins s σ H x y v u Q I rx ry h
  obtain ⟨d, ds, hd, he, sd, se, q⟩ := h
  obtain ⟨as, r1⟩ := Dp.reads I d x v hd rx
  obtain ⟨bs, r2⟩ := Dp.reads I (.tuple ds) y u he ry
  exact SeqAt.notIn_tuple_reads r2 r1 (shapedT_L se) (SeqAt.canLay_of_shaped sd) (PyProof.Rows.room_in_shaped sd hu) ⟨.bl _, H, I, rfl, q⟩
def rInC : R2 := fun x y H Q => ∃ (c : Nat) (z : Str), x = .str ⟨#[c]⟩ ∧ y = .str z ∧ Q (.bl (decide (c ∈ z.cps.toList))) H
def rNotInC : R2 := fun x y H Q => ∃ (c : Nat) (z : Str), x = .str ⟨#[c]⟩ ∧ y = .str z ∧ Q (.bl (!decide (c ∈ z.cps.toList))) H
def rInA (K : PySem.W.Frag) : R2 := fun x y H Q => rInD K x y H Q ∨ (rInT K false x y H Q ∨ rInC x y H Q)
def rNotInA (K : PySem.W.Frag) : R2 := fun x y H Q => rNotInD K x y H Q ∨ (rInT K true x y H Q ∨ rNotInC x y H Q)
theorem op_inA (hu : X.A.units + 65 < cLine) : OpR X (compareOp .In) (rInA X.K) := (op_inD hu).or ((op_inT hu).or op_in_sign)
theorem op_notInA (hu : X.A.units + 65 < cLine) : OpR X (compareOp .NotIn) (rNotInA X.K) := (op_notInD hu).or ((op_notInT hu).or op_notIn_sign)
theorem one_sign {c : Str} (h : c.cps.size = 1) : c = ⟨#[c.cps.getD 0 0]⟩ := by
  obtain ⟨⟨l⟩⟩ := c
  match l, h with
  | [a], _ => rfl
theorem og_in : OpG K (rInA K) inE := by
  intro F H x y a b d Q s hx hy e k
  unfold inE at e
  cases b with
  | list ds =>
    simp only [inD] at e
    split at e <;> cases e
    rename_i h
    exact .inl ⟨a, ds, dp_mono s.s _ _ hx, dp_mono s.s _ _ hy, h.1, h.2, k _ F H (.refl s) (.bl _)⟩
  | tuple ds =>
    simp only [inD] at e
    split at e <;> cases e
    rename_i h
    exact .inr (.inl ⟨a, ds, dp_mono s.s _ _ hx, dp_mono s.s _ _ hy, h.1, h.2, k _ F H (.refl s) (.bl _)⟩)
  | str z =>
    cases a with
    | str c =>
      simp only [inD] at e
      split at e <;> cases e
      rename_i h
      cases hx
      cases hy
      exact .inr (.inr ⟨_, z, by rw [one_sign h]; rfl, rfl, k _ F H (.refl s) (.bl _)⟩)
    | _ => simp [inD] at e
  | _ => simp [inD] at e
theorem og_notIn : OpG K (rNotInA K) notInE := by
  intro F H x y a b d Q s hx hy e k
  unfold notInE at e
  cases b with
  | list ds =>
    simp only [inD] at e
    split at e <;> cases e
    rename_i h
    exact .inl ⟨a, ds, dp_mono s.s _ _ hx, dp_mono s.s _ _ hy, h.1, h.2, k _ F H (.refl s) (.bl _)⟩
  | tuple ds =>
    simp only [inD] at e
    split at e <;> cases e
    rename_i h
    exact .inr (.inl ⟨a, ds, dp_mono s.s _ _ hx, dp_mono s.s _ _ hy, h.1, h.2, k _ F H (.refl s) (.bl _)⟩)
  | str z =>
    cases a with
    | str c =>
      simp only [inD] at e
      split at e <;> cases e
      rename_i h
      cases hx
      cases hy
      exact .inr (.inr ⟨_, z, by rw [one_sign h]; rfl, rfl, k _ F H (.refl s) (.bl _)⟩)
    | _ => simp [inD] at e
  | _ => simp [inD] at e

/-! ### items, slices -/
def ixD : D → D → Option D
  | .list xs, .int i => atI xs i
  | .tuple xs, .int i => atI xs i
  | .str z, .int i => if z.length ≤ 1000000 then (atI z.cps.toList i).map fun c => .str ⟨#[c]⟩ else none
  | _, _ => none
theorem dpAll_at {F : Hp} {ds : List D} {vs : List V} {i : Int} {d : D} (h : DpAll K F vs ds) (e : atI ds i = some d) : ∃ v, atI vs i = some v ∧ Dp K F v d := by
  unfold atI at e ⊢
  rw [dpAll_len h]
  cases z : ixN ds.length i with
  | none => rw [z] at e; simp at e
  | some j =>
    rw [z] at e
    obtain ⟨v, e1, e2⟩ := dpAll_get h (by simpa using e)
    exact ⟨v, by simpa using e1, e2⟩
theorem og_ix : OpG K (rIx K) ixD := by
  intro F H x y a b d Q s hx hy e k
  cases hx <;> cases hy <;> simp only [ixD] at e <;> try (simp at e; done)
  · split at e
    · rename_i z _ hl
      cases h : atI z.cps.toList _ with
      | none => rw [h] at e; simp at e
      | some c =>
        rw [h] at e
        cases e
        exact .inr (.inr ⟨z, _, c, rfl, rfl, sz_of hl, h, k _ F H (.refl s) (.str _)⟩)
    · cases e
  · rename_i h1 h2 _
    obtain ⟨v, e1, e2⟩ := dpAll_at h2 e
    exact .inl ⟨_, _, _, v, rfl, rfl, same_seqL s.s h1, e1, k v F H (.refl s) e2⟩
  · rename_i h1 h2 _
    obtain ⟨v, e1, e2⟩ := dpAll_at h2 e
    exact .inr (.inl ⟨_, _, _, v, rfl, rfl, same_seqT s.s h1, e1, k v F H (.refl s) e2⟩)
def cutD {α : Type} (xs : List α) (lo hi : Option Int) : List α := (xs.drop (HT.sIx xs.length 0 lo)).take (HT.sIx xs.length xs.length hi - HT.sIx xs.length 0 lo)
def slD : D → Option Int → Option Int → Option D
  | .list xs, lo, hi => some (.list (cutD xs lo hi))
  | .tuple xs, lo, hi => some (.tuple (cutD xs lo hi))
  | .str z, lo, hi => if z.length ≤ 1000000 then some (.str (cutS z lo hi)) else none
  | _, _, _ => none
theorem dpAll_cut {F : Hp} {ds : List D} {vs : List V} (h : DpAll K F vs ds) (lo hi : Option Int) : DpAll K F (cutV vs lo hi) (cutD ds lo hi) := by
  unfold cutV cutD
  rw [dpAll_len h]
  exact dpAll_take _ (dpAll_drop _ h)
def rSlX (K : PySem.W.Frag) : V → Option Int → Option Int → Hp → VK → Prop := fun x lo hi H Q => rSlL K x lo hi H Q ∨ (rSlA K x lo hi H Q ∨ rSlS x lo hi H Q)
theorem sl_any : SlR X (rSlX X.K) := sl_list.or (sl_tupA.or sl_str)
theorem sx_ok {F H : Hp} {x : V} {a d : D} {lo hi : Option Int} {Q : VK} (s : Wf F H) (hx : Dp K F x a) (e : slD a lo hi = some d) (k : ∀ v F' H', Grow F H F' H' → Dp K F' v d → Q v H') : rSlX K x lo hi H Q := by
  cases hx <;> simp only [slD] at e <;> try (simp at e; done)
  · split at e <;> cases e
    rename_i h
    exact .inr (.inr ⟨_, rfl, sz_of h, k _ F H (.refl s) (.str _)⟩)
  · cases e
    rename_i h1 h2
    refine .inl ⟨_, _, rfl, same_seqL s.s h1, fun p hp => ?_⟩
    exact k _ _ _ (Grow.new s hp) (.lst (.inl (.inl upd_same)) (dpAll_mono (Grow.new s hp).ff _ _ (dpAll_cut h2 lo hi)))
  · cases e
    rename_i a xs ds h1 h2
    refine .inr (.inl ⟨_, _, rfl, same_seqT s.s h1, fun z => ?_, fun _ p hp => ?_⟩)
    · have ec := dpAll_cut h2 lo hi
      have : cutV xs lo hi = (xs.drop 0).take (xs.length - 0) := by
        unfold cutV
        rw [z.1, z.2]
      rw [this] at ec
      simp only [List.drop_zero, Nat.sub_zero, List.take_length] at ec
      exact k _ F H (.refl s) (.tup h1 ec)
    · exact k _ _ _ (Grow.new s hp) (.tup (.inl (.inl upd_same)) (dpAll_mono (Grow.new s hp).ff _ _ (dpAll_cut h2 lo hi)))
variable {Er : ErT} {te : TE} {ta : TA}
def intD : D → Option Int
  | .int i => some i
  | _ => none
def partO (f : EF) : OF := bE f fun d => oE ((intD d).map some)
def noO : OF := cE none
theorem do_none : DO X Er none tNoPart noO := ⟨po_none, fun F H σ ρ Q s st h => h.now s⟩
theorem do_some {e : Expr} {f : EF} (h : DE X Er e te f) : DO X Er (some e) (tPart te) (partO f) := by
  refine ⟨po_some h.pe, fun F H σ ρ Q s st p => ?_⟩
  refine h.rd F H σ ρ _ s st (Post.imp (Post.bind p) fun F1 H1 a g1 p1 v dv => ?_)
  cases a with
  | int k => cases dv; exact ⟨k, rfl, Post.now p1 g1.fh⟩
  | _ => exact p1.elim
def sliceE (f : EF) (lo hi : OF) : EF := bE f fun d => bE lo fun l => bE hi fun h => oE (slD d l h)
theorem de_sl {e : Expr} {lo hi : Option Expr} {p2 pos : Pos} {f : EF} {fl fh : OF} {tl th : TO} (h : DE X Er e te f) (hl : DO X Er lo tl fl) (hh : DO X Er hi th fh) : DE X Er (.Subscript e (.Slice lo hi none p2) pos) (tSl (rSlX X.K) te tl th) (sliceE f fl fh) := by
  refine ⟨pe_slice sl_any h.pe hl.pe hh.pe, fun F H σ ρ Q s st p => ?_⟩
  refine h.rd F H σ ρ _ s st (Post.imp (Post.bind p) fun F1 H1 a g1 p1 v dv => ?_)
  refine hl.rd F1 H1 σ ρ _ g1.fh (st.mono g1.ff) (Post.imp (Post.bind p1) fun F2 H2 l g2 p2 => ?_)
  refine hh.rd F2 H2 σ ρ _ g2.fh ((st.mono g1.ff).mono g2.ff) (Post.imp (Post.bind p2) fun F3 H3 u g3 p3 => ?_)
  unfold oE at p3
  cases e : slD a l u with
  | none => simp only [e] at p3; exact p3.elim
  | some d =>
    simp only [e] at p3
    exact sx_ok g3.fh (dp_mono g3.ff _ _ (dp_mono g2.ff _ _ dv)) e fun v' F' H' gr dv' => Post.done p3 gr v' dv'

/-! ### calls of built-ins -/
def CallG (K : PySem.W.Frag) (r : List V → Hp → VK → Prop) (g : List D → Option D) : Prop := ∀ F H vs ds d Q, Wf F H → DpAll K F vs ds → g ds = some d → (∀ v F' H', Grow F H F' H' → Dp K F' v d → Q v H') → r vs H Q
def callE (g : List D → Option D) (a : AF) : EF := bE a fun ds => oE (g ds)
theorem dr_call {r : List V → Hp → VK → Prop} {g : List D → Option D} {fa : AF} (hg : CallG K r g) (ha : DRa K Er ta fa) : DRd K Er (tCB r ta) (callE g fa) := by
  intro F H σ ρ Q s st p
  refine ha F H σ ρ _ s st (Post.imp (Post.bind p) fun F1 H1 ds g1 p1 vs dvs => ?_)
  unfold oE at p1
  cases e : g ds with
  | none => simp only [e] at p1; exact p1.elim
  | some d =>
    simp only [e] at p1
    exact hg F1 H1 vs ds d _ g1.fh dvs e fun v' F' H' gr dv' => Post.done p1 gr v' dv'
section
variable {id T : String} {r : List V → Hp → VK → Prop} {g : List D → Option D} {x : Str} {p pos : Pos} {e : Expr} {es : List Expr} {fa : AF}
theorem de_callB (hc : CallR X (.builtin id) r) (cg : CallG X.K r g) (hg : Gl X x) (hm : X.mg x = none) (hv : bootBuiltins x = some (.builtin id)) (ha : DA X Er (e :: es) ta fa) (hn : x ≠ "__name__" := by decide) (hdb : (x == ("__debug__" : Str)) = false := by decide)
    (he : starEach (e :: es) X.env = (false, eval e X.env) :: starEach es X.env := by rfl) (hpl : (backTo pos (starEach es X.env)).any (·.1) = false := by rfl) : DE X Er (.Call (.Name x p) (e :: es) [] pos) (tCB r ta) (callE g fa) :=
  ⟨pe_callB hc hg hm hv ha.pe hn hdb he hpl, dr_call cg ha.rd⟩
theorem de_callTy (hc : CallR X (.type T) r) (cg : CallG X.K r g) (hg : Gl X x) (hm : X.mg x = none) (hv : bootBuiltins x = some (.type T)) (ha : DA X Er (e :: es) ta fa) (hn : x ≠ "__name__" := by decide) (hdb : (x == ("__debug__" : Str)) = false := by decide)
    (he : starEach (e :: es) X.env = (false, eval e X.env) :: starEach es X.env := by rfl) (hpl : (backTo pos (starEach es X.env)).any (·.1) = false := by rfl) : DE X Er (.Call (.Name x p) (e :: es) [] pos) (tCB r ta) (callE g fa) :=
  ⟨pe_callTy hc hg hm hv ha.pe hn hdb he hpl, dr_call cg ha.rd⟩
end
def lenD : List D → Option D
  | [.list xs] => some (.int xs.length)
  | [.tuple xs] => some (.int xs.length)
  | [.str z] => if z.length ≤ 1000000 then some (.int z.length) else none
  | _ => none
def rLenX (K : PySem.W.Frag) : List V → Hp → VK → Prop := fun xs H Q => ∃ x n, xs = [x] ∧ LenV K x H n ∧ Q (.int n) H
theorem cg_len : CallG K (rLenX K) lenD := by
  intro F H vs ds d Q s h e k
  match ds, h, e with
  | [.list xs], .cons (.lst h1 h2) .nil, e =>
    cases e
    exact ⟨_, _, rfl, .inl ⟨_, same_seqL s.s h1, (dpAll_len h2).symm⟩, k _ F H (.refl s) (.int _)⟩
  | [.tuple xs], .cons (.tup h1 h2) .nil, e =>
    cases e
    exact ⟨_, _, rfl, .inr ⟨_, same_seqT s.s h1, (dpAll_len h2).symm⟩, k _ F H (.refl s) (.int _)⟩
  | [.str z], .cons (.str _) .nil, e =>
    simp only [lenD] at e
    split at e <;> cases e
    rename_i hl
    exact ⟨_, _, rfl, ⟨sz_of hl, rfl⟩, k _ F H (.refl s) (.int _)⟩
def tupleD : List D → Option D
  | [.list xs] => some (.tuple xs)
  | [.tuple xs] => some (.tuple xs)
  | _ => none
def rTupleX (K : PySem.W.Frag) : List V → Hp → VK → Prop := fun xs H Q => ∃ p ys, xs = [.ref p] ∧ ((SqL K H p ys ∧ ∀ l, H l = none → Q (.ref l) (upd H l (.tup ys))) ∨ (SqT K H p ys ∧ Q (.ref p) H))
theorem cg_tuple : CallG K (rTupleX K) tupleD := by
  intro F H vs ds d Q s h e k
  match ds, h, e with
  | [.list xs], .cons (.lst h1 h2) .nil, e =>
    cases e
    exact ⟨_, _, rfl, .inl ⟨same_seqL s.s h1, fun l hl => k _ _ _ (Grow.new s hl) (.tup (.inl (.inl upd_same)) (dpAll_mono (Grow.new s hl).ff _ _ h2))⟩⟩
  | [.tuple xs], .cons (.tup h1 h2) .nil, e =>
    cases e
    exact ⟨_, _, rfl, .inr ⟨same_seqT s.s h1, k _ F H (.refl s) (.tup h1 h2)⟩⟩
def rListX (K : PySem.W.Frag) : List V → Hp → VK → Prop := fun xs H Q => ∃ p ys, xs = [.ref p] ∧ (SqL K H p ys ∨ SqT K H p ys) ∧ ∀ l, H l = none → Q (.ref l) (upd H l (.lst ys))
def intsOf : List D → Option (List Int)
  | [] => some []
  | .int i :: ds => (intsOf ds).map (i :: ·)
  | _ => none
theorem intsOf_eq : ∀ {ds : List D} {ns : List Int}, intsOf ds = some ns → ds = ns.map .int
  | [], ns, e => by cases e; rfl
  | .int i :: ds, ns, e => by
    simp only [intsOf] at e
    cases h : intsOf ds with
    | none => rw [h] at e; simp at e
    | some ms => rw [h] at e; cases e; rw [intsOf_eq h]; rfl
  | .none :: _, _, e | .bool _ :: _, _, e | .str _ :: _, _, e | .list _ :: _, _, e | .tuple _ :: _, _, e | .dict _ :: _, _, e => by simp [intsOf] at e
theorem intsOf_map (ns : List Int) : intsOf (ns.map .int) = some ns := by
  induction ns with
  | nil => rfl
  | cons n ns ih => simp [intsOf, ih]
def boolsOf : List D → Option (List Bool)
  | [] => some []
  | .bool i :: ds => (boolsOf ds).map (i :: ·)
  | _ => none
theorem boolsOf_eq : ∀ {ds : List D} {ns : List Bool}, boolsOf ds = some ns → ds = ns.map .bool
  | [], ns, e => by cases e; rfl
  | .bool i :: ds, ns, e => by
    simp only [boolsOf] at e
    cases h : boolsOf ds with
    | none => rw [h] at e; simp at e
    | some ms => rw [h] at e; cases e; rw [boolsOf_eq h]; rfl
  | .none :: _, _, e | .int _ :: _, _, e | .str _ :: _, _, e | .list _ :: _, _, e | .tuple _ :: _, _, e | .dict _ :: _, _, e => by simp [boolsOf] at e
theorem boolsOf_map (ns : List Bool) : boolsOf (ns.map .bool) = some ns := by
  induction ns with
  | nil => rfl
  | cons n ns ih => simp [boolsOf, ih]
def allD : List D → Option D
  | [.list ds] => (boolsOf ds).map fun bs => .bool (bs.all id)
  | _ => none
def anyD : List D → Option D
  | [.list ds] => (boolsOf ds).map fun bs => .bool (bs.any id)
  | _ => none
def sumD : List D → Option D
  | [.list ds] => (intsOf ds).map fun ns => .int ns.sum
  | _ => none
theorem cg_all : CallG K (rAll K) allD := by
  intro F H vs ds d Q s h e k
  match ds, h, e with
  | [.list xs], .cons (.lst h1 h2) .nil, e =>
    simp only [allD] at e
    cases z : boolsOf xs with
    | none => rw [z] at e; simp at e
    | some bs =>
      rw [z] at e
      cases e
      have e2 := boolsOf_eq z
      subst e2
      have e3 := dpAll_bls h2
      subst e3
      exact ⟨_, bs, rfl, same_seqL s.s h1, k _ F H (.refl s) (.bl _)⟩
theorem cg_any : CallG K (rAny K) anyD := by
  intro F H vs ds d Q s h e k
  match ds, h, e with
  | [.list xs], .cons (.lst h1 h2) .nil, e =>
    simp only [anyD] at e
    cases z : boolsOf xs with
    | none => rw [z] at e; simp at e
    | some bs =>
      rw [z] at e
      cases e
      have e2 := boolsOf_eq z
      subst e2
      have e3 := dpAll_bls h2
      subst e3
      exact ⟨_, bs, rfl, same_seqL s.s h1, k _ F H (.refl s) (.bl _)⟩
theorem cg_sum : CallG K (rSum K) sumD := by
  intro F H vs ds d Q s h e k
  match ds, h, e with
  | [.list xs], .cons (.lst h1 h2) .nil, e =>
    simp only [sumD] at e
    cases z : intsOf xs with
    | none => rw [z] at e; simp at e
    | some bs =>
      rw [z] at e
      cases e
      have e2 := intsOf_eq z
      subst e2
      have e3 := dpAll_ints h2
      subst e3
      exact ⟨_, bs, rfl, same_seqL s.s h1, k _ F H (.refl s) (.int _)⟩
/-! isinstance by a built-in class -/
def tyD : D → String
  | .none => "NoneType"
  | .bool _ => "bool"
  | .int _ => "int"
  | .str _ => "str"
  | .list _ => "list"
  | .tuple _ => "tuple"
  | .dict _ => "dict"
theorem ty_of {F H : Hp} {v : V} {d : D} (s : Wf F H) (h : Dp K F v d) : TyX K H v (.type (tyD d)) := by
  cases h with
  | non => exact .base .non
  | bl b => exact .base (.bl b)
  | int i => exact .base (.int i)
  | str x => exact .base (.str x)
  | lst h1 h2 =>
    rcases same_seqL s.s h1 with (h | ⟨o, h⟩) | ⟨o, its, n, h, hc, _⟩
    · exact .base (.lst h)
    · exact .base (.frz h)
    · exact .kList h hc
  | tup h1 h2 =>
    rcases same_seqT s.s h1 with (h | ⟨o, h⟩) | ⟨o, its, n, h, hc, _⟩
    · exact .base (.tup h)
    · exact .fTuple h
    · exact .kTuple h hc
/-- the answer for each kind of data: none, bool, int, str, list, tuple -/
structure Kits (T : String) (g : D → Bool) : Prop where
  h : ∀ d, (∀ kvs, d ≠ .dict kvs) → kitB (tyD d) T = some (g d)
def isiE (g : D → Bool) (a : EF) : EF := bE a fun d => cE (.bool (g d))
theorem de_isi {T : String} {g : D → Bool} {x : Str} {e : Expr} {f : EF} {p p2 pos : Pos} (kt : Kits T g) (hg : Gl X "isinstance") (hm : X.mg "isinstance" = none) (hg2 : Gl X x) (hm2 : X.mg x = none) (hv2 : bootBuiltins x = some (.type T)) (h : DE X Er e te f)
    (hn2 : x ≠ "__name__" := by decide) (hd2 : (x == ("__debug__" : Str)) = false := by decide)
    (hs1 : starEach [e, .Name x p2] X.env = (false, eval e X.env) :: starEach [.Name x p2] X.env := by rfl) (hpl : (backTo pos (starEach [.Name x p2] X.env)).any (·.1) = false := by rfl) :
    DE X Er (.Call (.Name "isinstance" p) [e, .Name x p2] [] pos) (tCB (rIsi X.K) (tCons te (tCons (tC (.ty T)) tNil))) (isiE g f) := by
  refine ⟨pe_callB call_isi hg hm (by decide +kernel) (pa_cons h.pe (pa_cons (pe_bltn (v := .ty T) hg2 hm2 hv2 rfl hn2 hd2) pa_nil) hs1) (by decide) (by decide) hs1 hpl, fun F H σ ρ Q s st p => ?_⟩
  refine h.rd F H σ ρ _ s st (Post.imp (Post.bind p) fun F1 H1 d g1 p1 v dv => ?_)
  have nd : ∀ kvs, d ≠ .dict kvs := fun kvs z => by subst z; cases dv
  exact ⟨v, _, _, _, _, rfl, .ty T, ty_of g1.fh dv, kit_ty (kt.h d nd), Post.now p1 g1.fh _ (.bl _)⟩
def isIntD : D → Bool
  | .int _ => true
  | .bool _ => true
  | _ => false
def isBoolD : D → Bool
  | .bool _ => true
  | _ => false
def isTupD : D → Bool
  | .tuple _ => true
  | _ => false
def isListD : D → Bool
  | .list _ => true
  | _ => false
def isStrD : D → Bool
  | .str _ => true
  | _ => false
def isDictD : D → Bool
  | .dict _ => true
  | _ => false
theorem kits_int : Kits "int" isIntD := ⟨fun d h => by cases d <;> first | exact absurd rfl (h _) | (simp only [tyD, isIntD]; decide +kernel)⟩
theorem kits_bool : Kits "bool" isBoolD := ⟨fun d h => by cases d <;> first | exact absurd rfl (h _) | (simp only [tyD, isBoolD]; decide +kernel)⟩
theorem kits_tup : Kits "tuple" isTupD := ⟨fun d h => by cases d <;> first | exact absurd rfl (h _) | (simp only [tyD, isTupD]; decide +kernel)⟩
theorem kits_list : Kits "list" isListD := ⟨fun d h => by cases d <;> first | exact absurd rfl (h _) | (simp only [tyD, isListD]; decide +kernel)⟩
theorem kits_str : Kits "str" isStrD := ⟨fun d h => by cases d <;> first | exact absurd rfl (h _) | (simp only [tyD, isStrD]; decide +kernel)⟩
theorem kits_dict : Kits "dict" isDictD := ⟨fun d h => by cases d <;> first | exact absurd rfl (h _) | (simp only [tyD, isDictD]; decide +kernel)⟩
/-! unary -/
def negD : D → Option D
  | .int i => some (.int (-i))
  | _ => none
theorem de_neg {e : Expr} {f : EF} {pos : Pos} (h : DE X Er e te f) : DE X Er (.UnaryOp .USub e pos) (tUn (rU fun i => .int (-i)) te) (op1E negD f) := by
  refine ⟨pe_un un_neg h.pe, fun F H σ ρ Q s st p => ?_⟩
  refine h.rd F H σ ρ _ s st (Post.imp (Post.bind p) fun F1 H1 d g1 p1 v dv => ?_)
  cases d with
  | int i => cases dv; exact ⟨i, rfl, Post.now p1 g1.fh _ (.int _)⟩
  | _ => exact p1.elim
/-! list(xs): a new list -/
def callN (g : List D → Option (List D)) (a : AF) : AF := bE a fun ds => oE (g ds)
def listN : List D → Option (List D)
  | [.list xs] => some xs
  | [.tuple xs] => some xs
  | _ => none
theorem dn_list {x : Str} {p pos : Pos} {e : Expr} {es : List Expr} {fa : AF} (hg : Gl X x) (hm : X.mg x = none) (hv : bootBuiltins x = some (.type "list")) (ha : DA X Er (e :: es) ta fa) (hn : x ≠ "__name__" := by decide) (hdb : (x == ("__debug__" : Str)) = false := by decide)
    (he : starEach (e :: es) X.env = (false, eval e X.env) :: starEach es X.env := by rfl) (hpl : (backTo pos (starEach es X.env)).any (·.1) = false := by rfl) : DN X Er (.Call (.Name x p) (e :: es) [] pos) (tCB (rListX X.K) ta) (callN listN fa) := by
  refine ⟨pe_callTy call_list_of hg hm hv ha.pe hn hdb he hpl, fun F H σ ρ Q s st p => ?_⟩
  refine ha.rd F H σ ρ _ s st (Post.imp (Post.bind p) fun F1 H1 ds g1 p1 vs dvs => ?_)
  unfold oE at p1
  cases e : listN ds with
  | none => simp only [e] at p1; exact p1.elim
  | some d =>
    simp only [e] at p1
    match ds, dvs, e with
    | [.list xs], .cons (.lst h1 h2) .nil, e =>
      cases e
      exact ⟨_, _, rfl, .inl (same_seqL g1.fh.s h1), fun l hl => Post.now p1 g1.fh l _ hl h2⟩
    | [.tuple xs], .cons (.tup h1 h2) .nil, e =>
      cases e
      exact ⟨_, _, rfl, .inr (same_seqT g1.fh.s h1), fun l hl => Post.now p1 g1.fh l _ hl h2⟩
end
end DL

set_option maxHeartbeats 1000000
/-! DL2: targets, what is walked, comprehensions, calls of own defs. -/
namespace DL
open PySem PySem.Spec L2
open PyProof.Rows hiding St
variable [Mem]

/-! ### targets -/
abbrev TGF := D → Option (List (Nat × D))
def setV (σ : St) : List Nat → List V → St
  | i :: is, v :: vs => setV (σ.set i (some v)) is vs
  | _, _ => σ
def setE (ρ : Env) : List (Nat × D) → Env
  | [] => ρ
  | (i, d) :: r => setE (ρ.set i (some d)) r
structure TG1 (X : Cx) (tg : Expr) (g : TG) (f : TGF) (js : List Nat) : Prop where
  pg : PG X tg g
  rd : ∀ (F H : Hp) (v : V) (d : D) as σ (Q : St → Hp → Prop), Wf F H → Dp X.K F v d → f d = some as → (∀ vs, DpAll X.K F vs (as.map (·.2)) → as.map (·.1) = js → Q (setV σ js vs) H) → g v σ H Q
def tgN (i : Nat) : TGF := fun d => some [(i, d)]
def tgT (js : List Nat) : TGF := fun d => match d with
  | .tuple ds => if ds.length = js.length then some (js.zip ds) else none
  | _ => none
section
variable {X : Cx} {Er : ErT} {te : TE} {ta : TA} {K : PySem.W.Frag}
theorem tg_name {i : Nat} {x : Str} {pos : Pos} (hN : X.N.Nodup) (hi : X.N[i]? = some x) (hx : Loc X.env.scope x) (hf : X.fn x = true ∨ X.env.scope.names.lookup x = some .local := by first | exact .inl rfl | exact .inr rfl | assumption) : TG1 X (.Name x pos) (gName i) (tgN i) [i] :=
  ⟨pg_name hN hi hx hf, fun F H v d as σ Q s dv e k => by cases e; exact k [v] (.cons dv .nil) rfl⟩
def gNames : List Nat → TGs
  | [] => gNil
  | i :: is => gCons (gName i) (gNames is)
theorem gNames_ok {H : Hp} : ∀ (js : List Nat) (vs : List V) (σ : St) (Q : St → Hp → Prop), vs.length = js.length → Q (setV σ js vs) H → gNames js vs σ H Q
  | [], [], σ, Q, _, q => ⟨rfl, q⟩
  | i :: is, v :: vs, σ, Q, hl, q => ⟨v, vs, rfl, gNames_ok is vs (σ.set i (some v)) Q (by simpa using hl) q⟩
  | [], _ :: _, _, _, hl, _ => by simp at hl
  | _ :: _, [], _, _, hl, _ => by simp at hl
theorem tg_tup {es : List Expr} {k : Nat} {pos : Pos} (js : List Nat) (hc : X.calm = true) (h : PGs X es (gNames js)) (hn : (assignEach es X.env).length = js.length := by rfl) (hst : (assignEach es X.env).findIdx? (·.1) = none := by rfl) :
    TG1 X (.Tuple es k pos) (gTup X.K js.length (gNames js)) (tgT js) js := by
  refine ⟨pg_tup hc h hn hst, fun F H v d as σ Q s dv e q => ?_⟩
  cases dv with
  | tup h1 h2 =>
    rename_i a xs ds
    simp only [tgT] at e
    split at e
    · rename_i hl
      cases e
      have l1 := dpAll_len h2
      have z1 : (js.zip ds).map (·.2) = ds := by rw [List.map_snd_zip]; omega
      have z2 : (js.zip ds).map (·.1) = js := by rw [List.map_fst_zip]; omega
      exact ⟨a, xs, rfl, same_seqT s.s h1, by omega, gNames_ok js xs σ Q (by omega) (q xs (by rw [z1]; exact h2) z2)⟩
    · cases e
  | _ => simp [tgT] at e
theorem setV_len : ∀ (js : List Nat) (vs : List V) (σ : St), (setV σ js vs).length = σ.length
  | [], _, _ => by cases ‹List V› <;> rfl
  | i :: is, [], σ => rfl
  | i :: is, v :: vs, σ => by rw [setV, setV_len is vs]; simp
theorem setE_len : ∀ (as : List (Nat × D)) (ρ : Env), (setE ρ as).length = ρ.length
  | [], _ => rfl
  | (i, d) :: r, ρ => by rw [setE, setE_len r]; simp
theorem setV_ne {j : Nat} : ∀ (js : List Nat) (vs : List V) (σ : St), j ∉ js → (setV σ js vs)[j]? = σ[j]?
  | [], vs, σ, _ => by cases vs <;> rfl
  | i :: is, [], σ, _ => rfl
  | i :: is, v :: vs, σ, h => by
    rw [setV, setV_ne is vs _ (fun z => h (List.mem_cons_of_mem _ z)), List.getElem?_set_ne]
    intro z
    exact h (z ▸ List.mem_cons_self)
theorem EnvR.setMany {F : Hp} : ∀ {as : List (Nat × D)} {vs : List V} {σ : St} {ρ : Env}, EnvR K F σ ρ → DpAll K F vs (as.map (·.2)) → EnvR K F (setV σ (as.map (·.1)) vs) (setE ρ as)
  | [], vs, σ, ρ, h, hv => by
    cases hv
    exact h
  | (i, d) :: r, vs, σ, ρ, h, hv => by
    have hl := h.len
    cases hv with
    | cons h1 h2 =>
      rename_i v vr
      refine EnvR.setMany (as := r) (σ := σ.set i (some v)) (ρ := ρ.set i (some d)) ⟨fun j e ej => ?_, by simpa using hl⟩ h2
      by_cases hj : i = j
      · subst hj
        by_cases hi : i < ρ.length
        · rw [List.getElem?_set_self hi] at ej
          cases ej
          exact ⟨v, by rw [List.getElem?_set_self (by omega)], .inl h1⟩
        · rw [List.getElem?_eq_none (by simp; omega)] at ej
          cases ej
      · rw [List.getElem?_set_ne hj] at ej
        rw [List.getElem?_set_ne hj]
        exact h.sl j e ej

/-! ### what is walked -/
/-- J gives out the data ds over any growth of F -/
structure DIt (K : PySem.W.Frag) (J : It) (F0 : Hp) (ds : List D) : Prop where
  go : ∀ i F H, Same F0 F → Wf F H → i < ds.length → J.go i H
  stop : ∀ F H, Same F0 F → Wf F H → J.stop ds.length H
  yld : ∀ i F H x H' d, Same F0 F → Wf F H → ds[i]? = some d → J.yld i H x H' → ∃ F', Grow F H F' H' ∧ Dp K F' x d
theorem dit_list {F0 : Hp} {a : Addr} {xs : List V} {ds : List D} (h1 : SqL K F0 a xs) (h2 : DpAll K F0 xs ds) : DIt K (Itl K a) F0 ds where
  go := fun i F H s1 s2 hi => ⟨xs, xs[i]'(by rw [dpAll_len h2]; exact hi), same_seqL s2.s (same_seqL s1 h1), by simp⟩
  stop := fun F H s1 s2 => ⟨xs, same_seqL s2.s (same_seqL s1 h1), by rw [dpAll_len h2]; exact Nat.le_refl _⟩
  yld := fun i F H x H' d s1 s2 hd y => by
    obtain ⟨rfl, y⟩ := y
    have e := y xs (same_seqL s2.s (same_seqL s1 h1))
    obtain ⟨v, e1, e2⟩ := dpAll_get h2 hd
    rw [e] at e1; cases e1
    exact ⟨F, .refl s2, dp_mono s1 _ _ e2⟩
theorem dit_tup {F0 : Hp} {a : Addr} {xs : List V} {ds : List D} (h1 : SqT K F0 a xs) (h2 : DpAll K F0 xs ds) : DIt K (Itt K a) F0 ds where
  go := fun i F H s1 s2 hi => ⟨xs, xs[i]'(by rw [dpAll_len h2]; exact hi), same_seqT s2.s (same_seqT s1 h1), by simp⟩
  stop := fun F H s1 s2 => ⟨xs, same_seqT s2.s (same_seqT s1 h1), by rw [dpAll_len h2]; exact Nat.le_refl _⟩
  yld := fun i F H x H' d s1 s2 hd y => by
    obtain ⟨rfl, y⟩ := y
    have e := y xs (same_seqT s2.s (same_seqT s1 h1))
    obtain ⟨v, e1, e2⟩ := dpAll_get h2 hd
    rw [e] at e1; cases e1
    exact ⟨F, .refl s2, dp_mono s1 _ _ e2⟩
def rangeL (lo : Int) (n : Nat) : List D := (List.range n).map fun (i : Nat) => .int (lo + (i : Int))
theorem dit_range {F0 : Hp} {lo : Int} {n : Nat} : DIt K (Itr lo n) F0 (rangeL lo n) where
  go := fun i F H _ _ hi => by show i < n; simpa [rangeL] using hi
  stop := fun F H _ _ => by show n ≤ _; simp [rangeL]
  yld := fun i F H x H' d _ s2 hd y => by
    obtain ⟨rfl, rfl⟩ := y
    have hi : i < n := by
      have := (List.getElem?_eq_some_iff.mp hd).1
      simpa [rangeL] using this
    simp only [rangeL, List.getElem?_map, List.getElem?_range hi, Option.map_some, Option.some.injEq] at hd
    subst hd
    exact ⟨F, .refl s2, .int _⟩
def DRi (K : PySem.W.Frag) (Er : ErT) (wi : TI) (f : AF) : Prop := ∀ F H σ ρ R, Wf F H → EnvR K F σ ρ → Post F H Er (f ρ) (fun F' H' ds => ∀ J, DIt K J F' ds → R J H') → wi σ H R
structure DI (X : Cx) (Er : ErT) (tg iter : Expr) (wi : TI) (f : AF) : Prop where
  pi : PI X tg iter wi
  rd : DRi X.K Er wi f
/-- a list or a tuple -/
def seqOf : D → Option (List D)
  | .list xs => some xs
  | .tuple xs => some xs
  | _ => none
def iSeq (K : PySem.W.Frag) (tl : TE) : TI := fun σ H R => tl σ H fun x H1 => ∃ a, x = .ref a ∧ (((∃ xs, SqL K H1 a xs) ∧ R (Itl K a) H1) ∨ ((∃ xs, SqT K H1 a xs) ∧ R (Itt K a) H1))
theorem pi_seq {tg l : Expr} {tl : TE} (hl : PE X l tl) : PI X tg l (iSeq X.K tl) := by
  refine ⟨fun pins s σ H R I h => ?_⟩
  refine thn (hl.run pins s σ H _ I h) fun v s1 ⟨x, H1, I1, r1, q1⟩ => ?_
  obtain ⟨a, e, q⟩ := q1
  subst e
  cases r1
  rcases q with ⟨⟨xs, hq⟩, q⟩ | ⟨⟨xs, hq⟩, q⟩
  · obtain ⟨its, rv, p, hz⟩ := I1.list hq
    refine wpAny_pyIter_list p.isList ?_
    refine ⟨s1.heap.objs.size, [s1.heap.objs.size], _, _, H1, rfl, I1.kept (t' := s1.toks) fun b o e => Heap.get?_push_of_some _ e, turn_list a _, ⟨_, Heap.get?_push_size _ rfl, rfl, rfl⟩, fun b hb => ?_, q⟩
    have e : b = s1.heap.objs.size := by simpa using hb
    subst e
    exact I1.fpOk (Nat.le_refl _) (I1.hok.fresh (Nat.le_refl _))
  · obtain ⟨its, rv, p, hz⟩ := I1.tuple hq
    refine wpAny_pyIter_tuple (show s1.heap.IsTuple a its.toArray from p) ?_
    refine ⟨s1.heap.objs.size, [s1.heap.objs.size], _, _, H1, rfl, I1.kept (t' := s1.toks) fun b o e => Heap.get?_push_of_some _ e, turn_tuple a _, ⟨_, Heap.get?_push_size _ rfl, rfl, rfl⟩, fun b hb => ?_, q⟩
    have e : b = s1.heap.objs.size := by simpa using hb
    subst e
    exact I1.fpOk (Nat.le_refl _) (I1.hok.fresh (Nat.le_refl _))
def seqI (f : EF) : AF := bE f fun d => oE (seqOf d)
theorem di_seq {tg e : Expr} {f : EF} (h : DE X Er e te f) : DI X Er tg e (iSeq X.K te) (seqI f) := by
  refine ⟨pi_seq h.pe, fun F H σ ρ R s st p => ?_⟩
  refine h.rd F H σ ρ _ s st (Post.imp (Post.bind p) fun F1 H1 d g1 p1 v dv => ?_)
  cases dv with
  | lst h1 h2 => exact ⟨_, rfl, .inl ⟨⟨_, same_seqL g1.fh.s h1⟩, Post.now p1 g1.fh _ (dit_list h1 h2)⟩⟩
  | tup h1 h2 => exact ⟨_, rfl, .inr ⟨⟨_, same_seqT g1.fh.s h1⟩, Post.now p1 g1.fh _ (dit_tup h1 h2)⟩⟩
  | _ => exact p1.elim
def range1D : List D → Option (List D)
  | [.int n] => if -(2 ^ 62) ≤ n ∧ n < 2 ^ 62 then some (rangeL 0 n.toNat) else none
  | _ => none
def range2D : List D → Option (List D)
  | [.int a, .int b] => if -(2 ^ 62) ≤ a ∧ a < 2 ^ 62 ∧ -(2 ^ 62) ≤ b ∧ b < 2 ^ 62 then some (rangeL a (b - a).toNat) else none
  | _ => none
theorem range1D_some {ds r : List D} (h : range1D ds = some r) : ∃ n, ds = [.int n] ∧ -(2 ^ 62) ≤ n ∧ n < 2 ^ 62 ∧ r = rangeL 0 n.toNat := by
  unfold range1D at h
  split at h
  · split at h <;> cases h
    rename_i n hn
    exact ⟨n, rfl, hn.1, hn.2, rfl⟩
  · cases h
theorem range2D_some {ds r : List D} (h : range2D ds = some r) : ∃ a b, ds = [.int a, .int b] ∧ (-(2 ^ 62) ≤ a ∧ a < 2 ^ 62 ∧ -(2 ^ 62) ≤ b ∧ b < 2 ^ 62) ∧ r = rangeL a (b - a).toNat := by
  unfold range2D at h
  split at h
  · split at h <;> cases h
    rename_i a b hn
    exact ⟨a, b, rfl, hn, rfl⟩
  · cases h
def rangeI (g : List D → Option (List D)) (a : AF) : AF := bE a fun ds => oE (g ds)
theorem of_ok {α : Type} {F H : Hp} {o : Option α} {ρ : Env} {P : Hp → Hp → α → Prop} (p : Post F H Er (oE o ρ) P) : ∃ a, o = some a ∧ Post F H Er (.ok a) P := by
  unfold oE at p
  cases o with
  | none => exact p.elim
  | some a => exact ⟨a, rfl, p⟩
theorem di_range1 {tg a : Expr} {p pos : Pos} {fa : AF} (hg : Gl X "range") (hm : X.mg "range" = none) (ha : DA X Er [a] ta fa) (hs : starEach [a] X.env = [(false, eval a X.env)] := by rfl) : DI X Er tg (.Call (.Name "range" p) [a] [] pos) (iRng1 ta) (rangeI range1D fa) := by
  refine ⟨pi_range1 hg hm ha.pe hs, fun F H σ ρ R s st p => ?_⟩
  refine ha.rd F H σ ρ _ s st (Post.imp (Post.bind p) fun F1 H1 ds g1 p1 vs dvs => ?_)
  obtain ⟨r, e, p1⟩ := of_ok p1
  obtain ⟨n, rfl, h1, h2, rfl⟩ := range1D_some e
  cases dvs with
  | cons z1 z2 =>
    cases z1
    cases z2
    exact ⟨n, rfl, h1, h2, Post.now p1 g1.fh _ dit_range⟩
theorem di_range2 {tg a b : Expr} {p pos : Pos} {fa : AF} (hg : Gl X "range") (hm : X.mg "range" = none) (ha : DA X Er [a, b] ta fa) (hs : starEach [a, b] X.env = [(false, eval a X.env), (false, eval b X.env)] := by rfl) (hs2 : starEach [b] X.env = [(false, eval b X.env)] := by rfl) :
    DI X Er tg (.Call (.Name "range" p) [a, b] [] pos) (iRng2 ta) (rangeI range2D fa) := by
  refine ⟨pi_range2 hg hm ha.pe hs hs2, fun F H σ ρ R s st p => ?_⟩
  refine ha.rd F H σ ρ _ s st (Post.imp (Post.bind p) fun F1 H1 ds g1 p1 vs dvs => ?_)
  obtain ⟨r, e, p1⟩ := of_ok p1
  obtain ⟨a', b', rfl, h1, rfl⟩ := range2D_some e
  cases dvs with
  | cons z1 z2 =>
    cases z1
    cases z2 with
    | cons z2 z3 =>
      cases z2
      cases z3
      exact ⟨a', b', rfl, h1, Post.now p1 g1.fh _ dit_range⟩

/-! ### own defs -/
def erX (mg : Str → Option Value) (E : XK) : ErT := fun c H' => ∀ C, mg c = some (.ref C) → E (.ref C) none H'
def spD (K : PySem.W.Frag) (mg : Str → Option Value) (n : Nat) (g : List D → R D) : Sp := fun vs H Q E =>
  vs.length = n ∧ ∃ (M : Mem) (F : Hp) (ds : List D), Wf F H ∧ DQAll K F vs ds ∧ Post F H (erX mg E) (g ds) (fun F' H' d => ∀ v, Dp K F' v d → Q v H')
def ownE (g : List D → R D) (a : AF) : EF := bE a fun ds _ => g ds
theorem Post.er {α : Type} {F H : Hp} {Er Er' : ErT} {r : R α} {P : Hp → Hp → α → Prop} (h : Post F H Er r P) (k : ∀ c H', Er c H' → Er' c H') : Post F H Er' r P := by
  cases r with
  | ok a => exact h
  | err c => exact fun F' H' g => k c H' (h F' H' g)
  | bad => exact h
section
variable {CX : CXT} {k n : Nat} {f : Addr} {fd : FuncData} {ps : List Str} {g : List D → R D} {E : XK} {x : Str} {p pos : Pos} {e : Expr} {es : List Expr} {fa : AF}
theorem dr_own {ta : TA} {mg : Str → Option Value} (he : ∀ c H', Er c H' → erX mg E c H') (hn : ∀ ρ ds, fa ρ = .ok ds → ds.length = n) (ha : DRq K Er ta fa) : DRd K Er (tCall (spD K mg n g) [] E ta) (ownE g fa) := by
  intro F H σ ρ Q s st p
  refine ha F H σ ρ _ s st ?_
  have q := Post.bind p
  cases hr : fa ρ with
  | ok ds =>
    rw [hr] at q
    intro F' H' g' vs dvs
    rw [List.append_nil]
    exact ⟨by rw [dqAll_len dvs]; exact hn ρ ds hr, ‹Mem›, F', ds, g'.fh, dvs, Post.er (q F' H' g') he⟩
  | err c => rw [hr] at q; exact q
  | bad => rw [hr] at q; exact q
/-- f(e, ..), f an own def -/
theorem de_own (F : FnOk X.prog X.w X.K X.mg X.base CX k f fd ps (spD X.K X.mg n g)) (hr : Room k X.A) (hg : Gl X x) (hm : X.mg x = some (.ref f)) (hk : PySem.W.keepIn X.K (.ref f) = true) (hb : Binds X.K fd ps []) (hx : Passes CX X E)
    (he : ∀ c H', Er c H' → erX X.mg E c H') (ha : DAq X Er (e :: es) ta fa) (hn : ∀ ρ ds, fa ρ = .ok ds → ds.length = n)
    (hd : (x == ("__debug__" : Str)) = false := by decide) (hs : starEach (e :: es) X.env = (false, eval e X.env) :: starEach es X.env := by rfl) (hpl : (backTo pos (starEach es X.env)).any (·.1) = false := by rfl) :
    DE X Er (.Call (.Name x p) (e :: es) [] pos) (tCall (spD X.K X.mg n g) [] E ta) (ownE g fa) :=
  ⟨pe_call F hr hg hm hk hb .nil hx ha.pe hd hs hpl, dr_own he hn ha.rd⟩
end
theorem args_len0 : ∀ ρ ds, nilA ρ = .ok ds → ds.length = 0 := fun ρ ds e => by cases e; rfl
theorem args_lenS {a : EF} {r : AF} {n : Nat} (h : ∀ ρ ds, r ρ = .ok ds → ds.length = n) : ∀ ρ ds, consA a r ρ = .ok ds → ds.length = n + 1 := fun ρ ds e => by
  unfold consA bE at e
  cases h1 : a ρ with
  | ok x =>
    simp only [h1, R.bind_ok] at e
    cases h2 : r ρ with
    | ok xs => simp only [h2, R.bind_ok, cE] at e; cases e; simp [h ρ xs h2]
    | err c => simp only [h2] at e; cases e
    | bad => simp only [h2] at e; cases e
  | err c => rw [h1] at e; cases e
  | bad => rw [h1] at e; cases e
end

/-! ### comprehensions -/
def R.noErr {α : Type} : R α → R α
  | .ok a => .ok a
  | _ => .bad
def killE (ρ : Env) : List Nat → Env
  | [] => ρ
  | v :: vs => (killE ρ vs).set v none
def compL (tgf : TGF) (tt : TF) (fe : EF) (ρ : Env) : List D → R (List D)
  | [] => .ok []
  | d :: ds => (R.of (tgf d)).bind fun as => (tt (setE ρ as)).noErr.bind fun b =>
    if b = true then (fe (setE ρ as)).noErr.bind fun y => (compL tgf tt fe ρ ds).bind fun ys => .ok (y :: ys) else compL tgf tt fe ρ ds
def compE (fi : AF) (tgf : TGF) (tt : TF) (fe : EF) (vs : List Nat) : AF := bE (smallA fi) fun ds ρ => compL tgf tt fe (killE ρ vs) ds
abbrev ErF : ErT := fun _ _ => False
structure DTS (X : Cx) (Er : ErT) (ifs : List Expr) (tt : TT) (f : TF) : Prop where
  pt : PTs X ifs tt
  rd : DRt X.K Er tt f
def remH (H : Hp) (p : Addr) : Hp := fun a => if a = p then none else H a
theorem remH_same {H : Hp} {p : Addr} : remH H p p = none := if_pos rfl
theorem remH_ne {H : Hp} {p a : Addr} (h : a ≠ p) : remH H p a = H a := if_neg h
theorem upd_rem {H : Hp} {p : Addr} {o : HO} : upd (remH H p) p o = upd H p o := by
  funext a
  unfold upd
  by_cases h : a = p
  · rw [if_pos h, if_pos h]
  · rw [if_neg h, if_neg h, remH_ne h]
theorem grow_hide {F Hh F2 H2 : Hp} {p : Addr} {o : HO} (s : Wf F Hh) (hp : Hh p = none) (g : Grow F (upd Hh p o) F2 H2) : Grow F Hh F2 (remH H2 p) where
  ff := g.ff
  hh := fun a u ni e => by
    have na : a ≠ p := ne_of_none e hp
    rw [remH_ne na]
    exact g.hh a u ni (by rw [upd_ne na]; exact e)
  fh := ⟨fun a u e => by
    have na : a ≠ p := fun z => by
      subst z
      exact g.nw a (by rw [e]; simp) (by rw [upd_same]; simp) (none_of_same s.s hp)
    rw [remH_ne na]
    exact g.fh.s a u e, fun a z => by
    obtain ⟨e1, u, e2, e3⟩ := g.fh.m a z
    have na : a ≠ p := fun h => s.no hp (h ▸ z)
    exact ⟨e1, u, by rw [remH_ne na]; exact e2, e3⟩⟩
  nw := fun a h1 h2 => g.nw a h1 (by
    by_cases na : a = p
    · subst na; rw [upd_same]; simp
    · rw [upd_ne na]; exact h2)
theorem Post.hide {α β : Type} {F Hh : Hp} {p : Addr} {o : HO} {Er Er2 : ErT} {r : R α} {g : α → R β} {P : Hp → Hp → β → Prop} (h : Post F Hh Er (r.noErr.bind g) P) (s : Wf F Hh) (hp : Hh p = none) :
    Post F (upd Hh p o) Er2 r (fun F2 H2 a => Post F2 (remH H2 p) Er (g a) P) := by
  cases r with
  | ok a => exact fun F' H' gr => Post.mono h (grow_hide s hp gr)
  | err c => exact h.elim
  | bad => exact h
theorem killE_len (ρ : Env) : ∀ vs : List Nat, (killE ρ vs).length = ρ.length
  | [] => rfl
  | v :: vs => by unfold killE; rw [List.length_set, killE_len ρ vs]
theorem wipe_set {σ : St} {j : Nat} {x : Option V} : ∀ {vs : List Nat}, j ∈ vs → wipe (σ.set j x) vs = wipe σ vs
  | v :: vs, h => by
    unfold wipe
    by_cases hm : j ∈ vs
    · rw [wipe_set hm]
    · have e : j = v := by
        rcases List.mem_cons.mp h with e | e
        · exact e
        · exact absurd e hm
      subst e
      have comm : ∀ vs : List Nat, j ∉ vs → wipe (σ.set j x) vs = (wipe σ vs).set j x := by
        intro vs
        induction vs with
        | nil => intro _; rfl
        | cons u us ih =>
          intro hn
          unfold wipe
          rw [ih (fun z => hn (List.mem_cons_of_mem _ z)), List.set_comm]
          intro z
          exact hn (z ▸ List.mem_cons_self)
      rw [comm vs hm, List.set_set]
theorem wipe_setV {vs : List Nat} : ∀ (js : List Nat) (us : List V) (σ : St), (∀ j ∈ js, j ∈ vs) → wipe (setV σ js us) vs = wipe σ vs
  | [], us, σ, _ => by cases us <;> rfl
  | i :: is, [], σ, _ => rfl
  | i :: is, u :: us, σ, h => by
    rw [setV, wipe_setV is us _ (fun j hj => h j (List.mem_cons_of_mem _ hj)), wipe_set (h i List.mem_cons_self)]
theorem wipe_wipe (σ : St) (vs : List Nat) : wipe (wipe σ vs) vs = wipe σ vs := by
  have : ∀ us : List Nat, (∀ u ∈ us, u ∈ vs) → wipe (wipe σ us) vs = wipe σ vs := by
    intro us
    induction us with
    | nil => intro _; rfl
    | cons u us ih =>
      intro h
      show wipe ((wipe σ us).set u none) vs = _
      rw [wipe_set (h u List.mem_cons_self), ih fun z hz => h z (List.mem_cons_of_mem _ hz)]
  exact this vs fun _ h => h
section
variable {X : Cx} {Er : ErT} {te : TE} {ta : TA} {K : PySem.W.Frag} {tt : TT}
theorem EnvR.wipe {F : Hp} {σ : St} {ρ : Env} (h : EnvR K F σ ρ) : ∀ vs : List Nat, EnvR K F (wipe σ vs) (killE ρ vs)
  | [] => h
  | v :: vs => ⟨fun i d e => by
    have ih := EnvR.wipe h vs
    have hl := ih.len
    unfold killE at e
    unfold L2.wipe
    by_cases hi : v = i
    · subst hi
      by_cases hv : v < (killE ρ vs).length
      · rw [List.getElem?_set_self hv] at e; cases e
      · rw [List.getElem?_eq_none (by simp; omega)] at e; cases e
    · rw [List.getElem?_set_ne hi] at e
      rw [List.getElem?_set_ne hi]
      exact ih.sl i d e, by rw [killE_len, wipe_length]; exact h.len⟩
theorem dts_nil : DTS X Er [] tYes (cE true) := ⟨pts_nil, fun F H σ ρ Q s st p => Post.now p s⟩
theorem dts_one {c : Expr} {f : TF} (h : DT X Er c tt f) : DTS X Er [c] tt f := ⟨pts_one h.pe, h.rd⟩
theorem dr_lc {wi : TI} {g : TG} {fi : AF} {tgf : TGF} {ft : TF} {fe : EF} {vs js : List Nat} (hi : DRi K Er wi fi)
    (hg : ∀ (F H : Hp) (v : V) (d : D) as σ (Q : St → Hp → Prop), Wf F H → Dp K F v d → tgf d = some as → (∀ us, DpAll K F us (as.map (·.2)) → as.map (·.1) = js → Q (setV σ js us) H) → g v σ H Q)
    (ht : DRt K ErF tt ft) (he : DRd K ErF te fe) (hjs : ∀ j ∈ js, j ∈ vs) :
    DRn K Er (tLc wi g tt te vs) (compE fi tgf ft fe vs) := by
  intro F H σ ρ Q s st p
  refine hi F H σ ρ _ s st (Post.imp (Post.bind (Post.bind p)) fun F1 H1 ds g1 p1 J dit Dl hD => ?_)
  obtain ⟨hsz, p2⟩ := small_ok p1 g1.fh
  refine ⟨fun i m Hc => m = ds.length - i ∧ i ≤ ds.length ∧ ∃ F' Hh accV accD, Grow F1 H1 F' Hh ∧ Hh Dl = none ∧ Hc = upd Hh Dl (.lst accV) ∧ DpAll K F' accV accD ∧ accD.length ≤ i ∧
    Post F' Hh Er (compL tgf ft fe (killE ρ vs) (ds.drop i)) (fun F'' H'' es => ∀ p us, H'' p = none → DpAll K F'' us (accD ++ es) → Q (.ref p) (upd H'' p (.lst us))), ⟨ds.length, by simp, Nat.zero_le _, F1, H1, [], [], .refl g1.fh, hD, rfl, .nil, Nat.le_refl _, by simpa using p2⟩, ?_⟩
  rintro i m Hc ⟨rfl, hle, F', Hh, accV, accD, gr, hDl, rfl, hacc, hal, pp⟩
  have sH : Wf F' (upd Hh Dl (.lst accV)) := gr.fh.upd hDl
  have nD : ¬ Mem.is Dl := gr.fh.no hDl
  by_cases hlt : i < ds.length
  · refine .inr ⟨dit.go i F' _ gr.ff sH hlt, _, fun H' h => ⟨ds.length - (i + 1), by omega, h⟩, fun x H' y => ?_⟩
    obtain ⟨d, hd⟩ : ∃ d, ds[i]? = some d := ⟨ds[i], by simp [hlt]⟩
    have hdrop : ds.drop i = d :: ds.drop (i + 1) := by
      obtain ⟨h1, h2⟩ := List.getElem?_eq_some_iff.mp hd
      rw [← h2]
      exact List.drop_eq_getElem_cons hlt
    rw [hdrop] at pp
    obtain ⟨F2, gy, dx⟩ := dit.yld i F' _ x H' d gr.ff sH hd y
    have gy' := grow_hide gr.fh hDl gy
    have pp2 := Post.mono pp gy'
    unfold compL at pp2
    cases eas : tgf d with
    | none => rw [eas] at pp2; exact pp2.elim
    | some as =>
      rw [eas, R.of_some, R.bind_ok] at pp2
      have hH' : H' Dl = some (.lst accV) := gy.hh Dl _ nD upd_same
      have eH : upd (remH H' Dl) Dl (.lst accV) = H' := by
        rw [upd_rem]
        funext a
        unfold upd
        by_cases ha : a = Dl
        · rw [if_pos ha, ha, hH']
        · rw [if_neg ha]
      refine hg F2 H' x d as (L2.wipe σ vs) _ gy.fh dx eas fun us hus hjs' => ?_
      refine ⟨by rw [wipe_setV js us _ hjs, wipe_wipe], ?_⟩
      have env2 : EnvR K F2 (setV (L2.wipe σ vs) js us) (setE (killE ρ vs) as) := by
        have e1 := EnvR.setMany (σ := L2.wipe σ vs) (ρ := killE ρ vs) ((((st.mono g1.ff).mono gr.ff).mono gy.ff).wipe vs) hus
        rw [hjs'] at e1
        exact e1
      have pt := Post.hide (o := .lst accV) (Er2 := ErF) pp2 gy'.fh remH_same
      rw [eH] at pt
      refine ht F2 H' _ _ _ gy.fh env2 (Post.imp pt fun F3 H3 b g3 p3 => ?_)
      have g3' : Grow F2 (remH H' Dl) F3 (remH H3 Dl) := grow_hide gy'.fh remH_same (by rw [eH]; exact g3)
      have hH3 : H3 Dl = some (.lst accV) := g3.hh Dl _ nD hH'
      have eH3 : upd (remH H3 Dl) Dl (.lst accV) = H3 := by
        rw [upd_rem]
        funext a
        unfold upd
        by_cases ha : a = Dl
        · rw [if_pos ha, ha, hH3]
        · rw [if_neg ha]
      cases b with
      | false =>
        rw [if_neg (by decide)]
        rw [if_neg (by decide)] at p3
        exact ⟨rfl, hlt, F3, remH H3 Dl, accV, accD, (gr.trans gy').trans g3', remH_same, eH3.symm, dpAll_mono g3.ff _ _ (dpAll_mono gy.ff _ _ hacc), Nat.le_succ_of_le hal, p3⟩
      | true =>
        rw [if_pos rfl]
        rw [if_pos rfl] at p3
        have pe := Post.hide (o := .lst accV) (Er2 := ErF) p3 g3'.fh remH_same
        rw [eH3] at pe
        refine he F3 H3 _ _ _ g3.fh (env2.mono g3.ff) (Post.imp pe fun F4 H4 y' g4 p4 yv dy => ?_)
        have g4' : Grow F3 (remH H3 Dl) F4 (remH H4 Dl) := grow_hide g3'.fh remH_same (by rw [eH3]; exact g4)
        have hH4 : H4 Dl = some (.lst accV) := g4.hh Dl _ nD hH3
        have la := dpAll_len hacc
        refine ⟨accV, hH4, sz_lt (by omega), rfl, hlt, F4, remH H4 Dl, accV ++ [yv], accD ++ [y'], ((gr.trans gy').trans g3').trans g4', remH_same, upd_rem.symm, ?_, by simp; omega, ?_⟩
        · exact dpAll_app (dpAll_mono g4.ff _ _ (dpAll_mono g3.ff _ _ (dpAll_mono gy.ff _ _ hacc))) (.cons dy .nil)
        · refine Post.imp (Post.bind p4) fun F5 H5 es g5 p5 q us hq hd5 => ?_
          exact Post.now p5 g5.fh q us hq (by simpa using hd5)
  · have e : i = ds.length := by omega
    subst e
    refine .inl ⟨dit.stop F' _ gr.ff sH, ?_⟩
    rw [List.drop_length] at pp
    unfold compL at pp
    exact Post.now pp gr.fh Dl accV hDl (by simpa using hacc)
/-- [elt for target in iter if ..] -/
theorem dn_lc {elt tg iter : Expr} {ifs : List Expr} {scope : Scope} {own : List (Str × Nat)} {pos : Pos} {wi : TI} {g : TG} {fi : AF} {tgf : TGF} {ft : TF} {fe : EF} {js : List Nat} (hc : X.calm = true) (hN : X.N.Nodup) (hi : DI X Er tg iter wi fi) (ok : BlkOk X.N X.env.scope scope own)
    (hg : ∀ (s : Shared) (H : Hp) (C : Addr) (cl : List (Str × Addr)) (fp : List Addr), TG1 (X.blk s H scope (compEnvC scope cl C X.env) fp) tg g tgf js)
    (ht : ∀ (s : Shared) (H : Hp) (C : Addr) (cl : List (Str × Addr)) (fp : List Addr), DTS (X.blk s H scope (compEnvC scope cl C X.env) fp) ErF ifs tt ft)
    (he : ∀ (s : Shared) (H : Hp) (C : Addr) (cl : List (Str × Addr)) (fp : List Addr), DE (X.blk s H scope (compEnvC scope cl C X.env) fp) ErF elt te fe) (hjs : ∀ j ∈ js, j ∈ own.map (·.2) := by decide) (hs : ∀ x, foldedSetIterable iter X.env x = pure x := by intro _; rfl) :
    DN X Er (.ListComp elt [⟨tg, iter, ifs, 0⟩] scope pos) (tLc wi g tt te (own.map (·.2))) (compE fi tgf ft fe (own.map (·.2))) :=
  ⟨pe_lc hc hN hi.pi ok (fun s H C cl fp => (hg s H C cl fp).pg) (fun s H C cl fp => (ht s H C cl fp).pt) (fun s H C cl fp => (he s H C cl fp).pe) hs,
    dr_lc hi.rd (hg X.s_0 X.H_0 0 [] []).rd (ht X.s_0 X.H_0 0 [] []).rd (he X.s_0 X.H_0 0 [] []).rd hjs⟩
theorem ps_lc {i : Nat} {y : Str} {py : Pos} {elt tg iter : Expr} {ifs : List Expr} {scope : Scope} {own : List (Str × Nat)} {pos spos : Pos} {wi : TI} {g : TG} {fi : AF} {tgf : TGF} {ft : TF} {fe : EF} {js : List Nat} (hc : X.calm = true) (hN : X.N.Nodup) (hy : X.N[i]? = some y) (hyl : X.env.scope.names.lookup y = some .local)
    (hsw : swapsWith (.ListComp elt [⟨tg, iter, ifs, 0⟩] scope pos) (some (.Name y py)) spos.line X.env = pure true) (hi : DI X Er tg iter wi fi) (ok : BlkOk X.N X.env.scope scope own)
    (hg : ∀ (s : Shared) (H : Hp) (C : Addr) (cl : List (Str × Addr)) (fp : List Addr), TG1 (X.blk s H scope (compEnvC scope cl C X.env) fp) tg g tgf js)
    (ht : ∀ (s : Shared) (H : Hp) (C : Addr) (cl : List (Str × Addr)) (fp : List Addr), DTS (X.blk s H scope (compEnvC scope cl C X.env) fp) ErF ifs tt ft)
    (he : ∀ (s : Shared) (H : Hp) (C : Addr) (cl : List (Str × Addr)) (fp : List Addr), DE (X.blk s H scope (compEnvC scope cl C X.env) fp) ErF elt te fe) (hjs : ∀ j ∈ js, j ∈ own.map (·.2) := by decide) (hs : ∀ x, foldedSetIterable iter X.env x = pure x := by intro _; rfl) :
    PS X (.Assign [.Name y py] (.ListComp elt [⟨tg, iter, ifs, 0⟩] scope pos) spos) (tAsg (tLc wi g tt te (own.map (·.2))) (gName i)) ∧ DRn X.K Er (tLc wi g tt te (own.map (·.2))) (compE fi tgf ft fe (own.map (·.2))) :=
  ⟨ps_setLc hc hN hy hyl hsw hi.pi ok (fun s H C cl fp => (hg s H C cl fp).pg) (fun s H C cl fp => (ht s H C cl fp).pt) (fun s H C cl fp => (he s H C cl fp).pe) hs,
    dr_lc hi.rd (hg X.s_0 X.H_0 0 [] []).rd (ht X.s_0 X.H_0 0 [] []).rd (he X.s_0 X.H_0 0 [] []).rd hjs⟩
end
end DL

set_option maxHeartbeats 1000000
/-! DL3: statements over slots that hold data, or own what they hold. -/
namespace DL
open PySem PySem.Spec L2
open PyProof.Rows hiding St
variable [Mem]

/-! ### what a slot owns -/
structure Own where
  rep : PySem.W.Frag → V → Hp → Hp → D → Prop
  mono : ∀ {K : PySem.W.Frag} {v : V} {F F' o : Hp} {d : D}, rep K v F o d → Same F F' → rep K v F' o d
inductive Sh where
  | fz | ls | ob (Φ : Own)
def emp : Hp := fun _ => none
def LsRep (K : PySem.W.Frag) (F o : Hp) (v : V) (d : D) : Prop := ∃ a vs ds, v = .ref a ∧ d = .list ds ∧ o = upd emp a (.lst vs) ∧ DpAll K F vs ds
def Hold (K : PySem.W.Frag) (F o : Hp) (sh : Sh) (v : V) (d : D) : Prop := match sh with
  | .fz => DQ K F v d
  | .ls => LsRep K F o v d
  | .ob Φ => Φ.rep K v F o d
theorem Hold.mono {K : PySem.W.Frag} {F F' o : Hp} {sh : Sh} {v : V} {d : D} (h : Hold K F o sh v d) (s : Same F F') : Hold K F' o sh v d := by
  cases sh with
  | fz => exact dq_mono s h
  | ls =>
    obtain ⟨a, vs, ds, e1, e2, e3, h⟩ := h
    exact ⟨a, vs, ds, e1, e2, e3, dpAll_mono s ds vs h⟩
  | ob Φ => exact Φ.mono h s
structure Fr where
  F0 : Hp
  G : Hp
abbrev sh (w : List Sh) (i : Nat) : Sh := w.getD i .fz
structure StR (K : PySem.W.Frag) (fr : Fr) (w : List Sh) (F H : Hp) (σ : St) (ρ : Env) (os : Nat → Hp) : Prop where
  fh : Wf F H
  gh : SameM fr.G H
  f0 : Same fr.F0 F
  nw : ∀ a, F a ≠ none → fr.G a ≠ none → fr.F0 a ≠ none
  oh : ∀ i, Same (os i) H
  ow : ∀ (i : Nat) (a : Addr), os i a ≠ none → F a = none ∧ fr.G a = none ∧ ∀ j, j ≠ i → os j a = none
  sl : ∀ (i : Nat) (d : D), ρ[i]? = some (some d) → ∃ v, σ[i]? = some (some v) ∧ Hold K F (os i) (sh w i) v d
  len : ρ.length = σ.length
  om : ∀ (i : Nat) (a : Addr), os i a ≠ none → ¬ Mem.is a
def SR (K : PySem.W.Frag) (fr : Fr) (w : List Sh) (F H : Hp) (σ : St) (ρ : Env) : Prop := ∃ os, StR K fr w F H σ ρ os
section
variable {K : PySem.W.Frag} {fr : Fr} {w : List Sh} {F H F' H' : Hp} {σ : St} {ρ : Env}
theorem SR.fh (h : SR K fr w F H σ ρ) : Wf F H := let ⟨_, s⟩ := h; s.fh
theorem SR.len (h : SR K fr w F H σ ρ) : ρ.length = σ.length := let ⟨_, s⟩ := h; s.len
theorem SR.grow (h : SR K fr w F H σ ρ) (g : Grow F H F' H') : SR K fr w F' H' σ ρ := by
  obtain ⟨os, s⟩ := h
  refine ⟨os, g.fh, sameM_trans s.gh g.hh, same_trans s.f0 g.ff, fun a h1 h2 => s.nw a (g.nw a h1 (sameM_ne s.gh s.fh h2)) h2, fun i a o e => g.hh a o (s.om i a (by rw [e]; simp)) (s.oh i a o e), fun i a h1 => ?_, fun i d e => ?_, s.len, s.om⟩
  · obtain ⟨q1, q2, q3⟩ := s.ow i a h1
    refine ⟨?_, q2, q3⟩
    cases e : F' a with
    | none => rfl
    | some o => exact absurd q1 (g.nw a (by rw [e]; simp) (same_ne (s.oh i) h1))
  · obtain ⟨v, e1, h1⟩ := s.sl i d e
    exact ⟨v, e1, h1.mono g.ff⟩
theorem SR.congr {w' : List Sh} (h : SR K fr w F H σ ρ) (e : ∀ i, sh w' i = sh w i) : SR K fr w' F H σ ρ := by
  obtain ⟨os, s⟩ := h
  exact ⟨os, s.fh, s.gh, s.f0, s.nw, s.oh, s.ow, fun i d q => by rw [e i]; exact s.sl i d q, s.len, s.om⟩
theorem SR.weak {ρ' : Env} (h : SR K fr w F H σ ρ) (hl : ρ'.length = ρ.length) (e : ∀ (i : Nat) (d : D), ρ'[i]? = some (some d) → ρ[i]? = some (some d)) : SR K fr w F H σ ρ' := by
  obtain ⟨os, s⟩ := h
  exact ⟨os, s.fh, s.gh, s.f0, s.nw, s.oh, s.ow, fun i d q => s.sl i d (e i d q), by rw [hl, s.len], s.om⟩
theorem killE_some {ρ : Env} {i : Nat} {d : D} : ∀ {vs : List Nat}, (killE ρ vs)[i]? = some (some d) → ρ[i]? = some (some d)
  | [], h => h
  | v :: vs, h => by
    unfold killE at h
    by_cases hi : v = i
    · subst hi
      by_cases hv : v < (killE ρ vs).length
      · rw [List.getElem?_set_self hv] at h; cases h
      · rw [List.getElem?_eq_none (by simpa using hv)] at h; cases h
    · rw [List.getElem?_set_ne hi] at h
      exact killE_some h
theorem SR.kill (h : SR K fr w F H σ ρ) (ks : List Nat) : SR K fr w F H σ (killE ρ ks) := h.weak (killE_len ρ ks) fun _ _ => killE_some
theorem sh_set_ne {i j : Nat} {s : Sh} (h : i ≠ j) : sh (w.set i s) j = sh w j := by
  unfold sh
  rw [List.getD_eq_getElem?_getD, List.getD_eq_getElem?_getD, List.getElem?_set_ne h]
theorem sh_set_self {i : Nat} {s : Sh} (h : i < w.length) : sh (w.set i s) i = s := by
  unfold sh
  rw [List.getD_eq_getElem?_getD, List.getElem?_set_self h]
  rfl
theorem sh_set_fz {i : Nat} : sh (w.set i .fz) i = .fz := by
  by_cases h : i < w.length
  · exact sh_set_self h
  · unfold sh
    rw [List.getD_eq_getElem?_getD, List.getElem?_eq_none (by simpa using h)]
    rfl
theorem env_set {i j : Nat} {d e : D} (h : (ρ.set i (some d))[j]? = some (some e)) : (i = j ∧ d = e ∧ i < ρ.length) ∨ (i ≠ j ∧ ρ[j]? = some (some e)) := by
  by_cases hi : i = j
  · subst hi
    by_cases hv : i < ρ.length
    · rw [List.getElem?_set_self hv] at h
      cases h
      exact .inl ⟨rfl, rfl, hv⟩
    · rw [List.getElem?_eq_none (by simpa using hv)] at h
      cases h
  · rw [List.getElem?_set_ne hi] at h
    exact .inr ⟨hi, h⟩
theorem SR.set_q {i : Nat} {v : V} {d : D} (h : SR K fr w F H σ ρ) (hd : DQ K F v d) : SR K fr (w.set i .fz) F H (σ.set i (some v)) (ρ.set i (some d)) := by
  obtain ⟨os, s⟩ := h
  refine ⟨fun j => if j = i then emp else os j, s.fh, s.gh, s.f0, s.nw, fun j => ?_, fun j a h1 => ?_, fun j e q => ?_, by simpa using s.len, fun j a h1 => s.om j a (by
    by_cases hj : j = i
    · rw [if_pos hj] at h1; exact absurd rfl h1
    · rw [if_neg hj] at h1; exact h1)⟩
  · by_cases hj : j = i
    · rw [if_pos hj]; intro a o z; cases z
    · rw [if_neg hj]; exact s.oh j
  · by_cases hj : j = i
    · rw [if_pos hj] at h1; exact absurd rfl h1
    · rw [if_neg hj] at h1
      obtain ⟨q1, q2, q3⟩ := s.ow j a h1
      refine ⟨q1, q2, fun k hk => ?_⟩
      by_cases hki : k = i
      · rw [if_pos hki]; rfl
      · rw [if_neg hki]; exact q3 k hk
  · rcases env_set q with ⟨rfl, rfl, hv⟩ | ⟨ne, q⟩
    · exact ⟨v, by rw [List.getElem?_set_self (by rw [← s.len]; exact hv)], by rw [sh_set_fz]; exact hd⟩
    · rw [List.getElem?_set_ne ne, sh_set_ne ne, if_neg (Ne.symm ne)]
      exact s.sl j e q
theorem SR.set_fz {i : Nat} {v : V} {d : D} (h : SR K fr w F H σ ρ) (hd : Dp K F v d) : SR K fr (w.set i .fz) F H (σ.set i (some v)) (ρ.set i (some d)) := h.set_q (.inl hd)
/-- a slot that isn't owned falls empty -/
theorem SR.unset {i : Nat} (h : SR K fr w F H σ ρ) : SR K fr w F H (σ.set i none) (ρ.set i none) := by
  obtain ⟨os, s⟩ := h
  have off : ∀ {j : Nat} {a : Addr}, (if j = i then emp else os j) a ≠ none → j ≠ i ∧ os j a ≠ none := fun {j a} h1 => by
    by_cases hj : j = i
    · rw [if_pos hj] at h1; exact absurd rfl h1
    · rw [if_neg hj] at h1; exact ⟨hj, h1⟩
  refine ⟨fun j => if j = i then emp else os j, s.fh, s.gh, s.f0, s.nw, fun j => ?_, fun j a h1 => ?_, fun j e q => ?_, by simpa using s.len, fun j a h1 => s.om j a (off h1).2⟩
  · by_cases hj : j = i
    · rw [if_pos hj]; intro a o z; cases z
    · rw [if_neg hj]; exact s.oh j
  · obtain ⟨_, h2⟩ := off h1
    obtain ⟨q1, q2, q3⟩ := s.ow j a h2
    refine ⟨q1, q2, fun k hk => ?_⟩
    by_cases hki : k = i
    · rw [if_pos hki]; rfl
    · rw [if_neg hki]; exact q3 k hk
  · by_cases hj : i = j
    · subst hj
      by_cases hv : i < ρ.length
      · rw [List.getElem?_set_self hv] at q; cases q
      · rw [List.getElem?_eq_none (by simpa using hv)] at q; cases q
    · rw [List.getElem?_set_ne hj] at q
      rw [List.getElem?_set_ne hj, if_neg (Ne.symm hj)]
      exact s.sl j e q
theorem SR.set_ls {i : Nat} {p : Addr} {vs : List V} {ds : List D} (h : SR K fr w F H σ ρ) (hp : H p = none) (hd : DpAll K F vs ds) (hi : i < w.length) : SR K fr (w.set i .ls) F (upd H p (.lst vs)) (σ.set i (some (.ref p))) (ρ.set i (some (.list ds))) := by
  obtain ⟨os, s⟩ := h
  have nH : ∀ {A : Hp}, Same A H → A p = none := fun {A} sa => none_of_same sa hp
  have sH : Same H (upd H p (.lst vs)) := same_upd hp
  refine ⟨fun j => if j = i then upd emp p (.lst vs) else os j, s.fh.upd hp, sameM_trans s.gh (sameM_of sH), s.f0, s.nw, fun j => ?_, fun j a h1 => ?_, fun j e q => ?_, by simpa using s.len, fun j a h1 => by
    by_cases hj : j = i
    · rw [if_pos hj] at h1
      have ha : a = p := by
        by_cases ha : a = p
        · exact ha
        · rw [upd_ne ha] at h1; exact absurd rfl h1
      subst ha
      exact s.fh.no hp
    · rw [if_neg hj] at h1; exact s.om j a h1⟩
  · by_cases hj : j = i
    · rw [if_pos hj]
      intro a o z
      by_cases ha : a = p
      · subst ha; rw [upd_same] at z ⊢; exact z
      · rw [upd_ne ha] at z; cases z
    · rw [if_neg hj]; exact same_trans (s.oh j) sH
  · by_cases hj : j = i
    · rw [if_pos hj] at h1
      have ha : a = p := by
        by_cases ha : a = p
        · exact ha
        · rw [upd_ne ha] at h1; exact absurd rfl h1
      subst ha
      refine ⟨nH s.fh.s, none_of_sameM s.gh s.fh hp, fun k hk => ?_⟩
      rw [if_neg (fun z => hk (z.trans hj.symm))]
      exact nH (s.oh k)
    · rw [if_neg hj] at h1
      obtain ⟨q1, q2, q3⟩ := s.ow j a h1
      refine ⟨q1, q2, fun k hk => ?_⟩
      by_cases hki : k = i
      · rw [if_pos hki]
        have ha : a ≠ p := fun z => h1 (by rw [z]; exact nH (s.oh j))
        rw [upd_ne ha]; rfl
      · rw [if_neg hki]; exact q3 k hk
  · rcases env_set q with ⟨rfl, rfl, hv⟩ | ⟨ne, q⟩
    · refine ⟨.ref p, by rw [List.getElem?_set_self (by rw [← s.len]; exact hv)], ?_⟩
      rw [sh_set_self hi, if_pos rfl]
      exact ⟨p, vs, ds, rfl, rfl, rfl, hd⟩
    · rw [List.getElem?_set_ne ne, sh_set_ne ne, if_neg (Ne.symm ne)]
      exact s.sl j e q
/-- the list that slot i owns -/
theorem SR.get_ls {i : Nat} {d : D} (h : SR K fr w F H σ ρ) (hw : sh w i = .ls) (e : ρ[i]? = some (some d)) : ∃ a vs ds, σ[i]? = some (some (.ref a)) ∧ d = .list ds ∧ H a = some (.lst vs) ∧ DpAll K F vs ds ∧
    (∀ vs' ds', DpAll K F vs' ds' → SR K fr w F (upd H a (.lst vs')) σ (ρ.set i (some (.list ds')))) ∧ SR K fr (w.set i .fz) (upd F a (.lst vs)) H σ ρ ∧ Same F (upd F a (.lst vs)) := by
  obtain ⟨os, s⟩ := h
  obtain ⟨v, e1, hh⟩ := s.sl i d e
  rw [hw] at hh
  obtain ⟨a, vs, ds, rfl, rfl, eo, hd⟩ := hh
  have ho : os i a = some (.lst vs) := by rw [eo, upd_same]
  have hH : H a = some (.lst vs) := s.oh i a _ ho
  obtain ⟨na, ng, no⟩ := s.ow i a (by rw [ho]; simp)
  have nM : ¬ Mem.is a := s.om i a (by rw [ho]; simp)
  have nMb : ∀ b, Mem.is b → b ≠ a := fun b z h => nM (h ▸ z)
  have hil : i < ρ.length := by
    rcases Nat.lt_or_ge i ρ.length with z | z
    · exact z
    · rw [List.getElem?_eq_none z] at e; cases e
  refine ⟨a, vs, ds, e1, rfl, hH, hd, fun vs' ds' hd' => ?_, ?_, same_upd na⟩
  · have up : ∀ {A : Hp}, Same A H → A a = none → Same A (upd H a (.lst vs')) := fun {A} sa n b o z => by
      rw [upd_ne (ne_of_none z n)]; exact sa b o z
    refine ⟨fun j => if j = i then upd emp a (.lst vs') else os j, ⟨up s.fh.s na, fun b z => by
      obtain ⟨e1, u, e2, e3⟩ := s.fh.m b z
      exact ⟨e1, u, by rw [upd_ne (nMb b z)]; exact e2, e3⟩⟩, fun b o nb z => by rw [upd_ne (ne_of_none z ng)]; exact s.gh b o nb z, s.f0, s.nw, fun j => ?_, fun j b h1 => ?_, fun j e' q => ?_, by simpa using s.len, fun j b h1 => by
      by_cases hj : j = i
      · rw [if_pos hj] at h1
        have hb : b = a := by
          by_cases hb : b = a
          · exact hb
          · rw [upd_ne hb] at h1; exact absurd rfl h1
        subst hb
        exact nM
      · rw [if_neg hj] at h1; exact s.om j b h1⟩
    · by_cases hj : j = i
      · rw [if_pos hj]
        intro b o z
        by_cases hb : b = a
        · subst hb; rw [upd_same] at z ⊢; exact z
        · rw [upd_ne hb] at z; cases z
      · rw [if_neg hj]; exact up (s.oh j) (no j hj)
    · by_cases hj : j = i
      · rw [if_pos hj] at h1
        have hb : b = a := by
          by_cases hb : b = a
          · exact hb
          · rw [upd_ne hb] at h1; exact absurd rfl h1
        subst hb
        exact ⟨na, ng, fun k hk => by rw [if_neg (fun z => hk (z.trans hj.symm))]; exact no k (fun z => hk (z.trans hj.symm))⟩
      · rw [if_neg hj] at h1
        obtain ⟨q1, q2, q3⟩ := s.ow j b h1
        refine ⟨q1, q2, fun k hk => ?_⟩
        by_cases hki : k = i
        · rw [if_pos hki]
          have hb : b ≠ a := fun z => h1 (by rw [z]; exact no j hj)
          rw [upd_ne hb]; rfl
        · rw [if_neg hki]; exact q3 k hk
    · rcases env_set q with ⟨rfl, rfl, hv⟩ | ⟨ne, q⟩
      · refine ⟨.ref a, e1, ?_⟩
        rw [hw, if_pos rfl]
        exact ⟨a, vs', ds', rfl, rfl, rfl, hd'⟩
      · rw [if_neg (Ne.symm ne)]
        exact s.sl j e' q
  · have sF : Same F (upd F a (.lst vs)) := same_upd na
    refine ⟨fun j => if j = i then emp else os j, ⟨?_, fun b z => by
      obtain ⟨e1, u, e2, e3⟩ := s.fh.m b z
      exact ⟨by rw [upd_ne (nMb b z)]; exact e1, u, e2, Mem.mono e3 sF⟩⟩, s.gh, same_trans s.f0 sF, fun b h1 h2 => ?_, fun j => ?_, fun j b h1 => ?_, fun j e' q => ?_, s.len, fun j b h1 => s.om j b (by
    by_cases hj : j = i
    · rw [if_pos hj] at h1; exact absurd rfl h1
    · rw [if_neg hj] at h1; exact h1)⟩
    · intro b o z
      by_cases hb : b = a
      · subst hb; rw [upd_same] at z; rw [← z]; exact hH
      · rw [upd_ne hb] at z; exact s.fh.s b o z
    · by_cases hb : b = a
      · subst hb; exact absurd ng h2
      · rw [upd_ne hb] at h1; exact s.nw b h1 h2
    · by_cases hj : j = i
      · rw [if_pos hj]; intro b o z; cases z
      · rw [if_neg hj]; exact s.oh j
    · by_cases hj : j = i
      · rw [if_pos hj] at h1; exact absurd rfl h1
      · rw [if_neg hj] at h1
        obtain ⟨q1, q2, q3⟩ := s.ow j b h1
        have hb : b ≠ a := fun z => h1 (by rw [z]; exact no j hj)
        refine ⟨by rw [upd_ne hb]; exact q1, q2, fun k hk => ?_⟩
        by_cases hki : k = i
        · rw [if_pos hki]; rfl
        · rw [if_neg hki]; exact q3 k hk
    · by_cases hj : i = j
      · subst hj
        rw [e] at q
        cases q
        exact ⟨.ref a, e1, by rw [sh_set_fz]; exact .inl (.lst (.inl (.inl upd_same)) (dpAll_mono sF ds vs hd))⟩
      · rw [sh_set_ne hj, if_neg (Ne.symm hj)]
        obtain ⟨v, q1, q2⟩ := s.sl j e' q
        exact ⟨v, q1, q2.mono sF⟩
theorem SR.freeze {i : Nat} (h : SR K fr w F H σ ρ) (hw : sh w i = .ls) : ∃ F', Same F F' ∧ SR K fr (w.set i .fz) F' H σ ρ := by
  cases e : ρ[i]? with
  | none =>
    obtain ⟨os, s⟩ := h
    refine ⟨F, same_refl _, os, s.fh, s.gh, s.f0, s.nw, s.oh, s.ow, fun j d q => ?_, s.len, s.om⟩
    have hj : i ≠ j := fun z => by subst z; rw [e] at q; cases q
    rw [sh_set_ne hj]
    exact s.sl j d q
  | some o =>
    cases o with
    | none =>
      obtain ⟨os, s⟩ := h
      refine ⟨F, same_refl _, os, s.fh, s.gh, s.f0, s.nw, s.oh, s.ow, fun j d q => ?_, s.len, s.om⟩
      have hj : i ≠ j := fun z => by subst z; rw [e] at q; cases q
      rw [sh_set_ne hj]
      exact s.sl j d q
    | some d =>
      obtain ⟨a, vs, ds, _, _, _, _, _, q, sf⟩ := h.get_ls hw e
      exact ⟨_, sf, q⟩
theorem SR.setMany : ∀ {as : List (Nat × D)} {vs : List V} {σ : St} {ρ : Env}, SR K fr w F H σ ρ → (∀ j ∈ as.map (·.1), sh w j = .fz) → DpAll K F vs (as.map (·.2)) → SR K fr w F H (setV σ (as.map (·.1)) vs) (setE ρ as)
  | [], vs, σ, ρ, h, _, hv => by
    cases hv
    exact h
  | (i, d) :: r, vs, σ, ρ, h, hw, hv => by
    cases hv with
    | cons h1 h2 =>
      rename_i v vr
      refine SR.setMany (as := r) ((h.set_fz (i := i) h1).congr fun j => ?_) (fun j hj => hw j (List.mem_cons_of_mem _ hj)) h2
      by_cases hj : i = j
      · subst hj
        rw [sh_set_fz]
        exact hw i List.mem_cons_self
      · rw [sh_set_ne hj]

/-! ### the slots as data -/
def hidA : List Sh → Env → Env
  | _, [] => []
  | [], ρ => ρ
  | .fz :: w, d :: ρ => d :: hidA w ρ
  | _ :: w, _ :: ρ => none :: hidA w ρ
def hidO : List Sh → Env → Env
  | _, [] => []
  | [], ρ => ρ
  | .ob _ :: w, _ :: ρ => none :: hidO w ρ
  | _ :: w, d :: ρ => d :: hidO w ρ
theorem hidA_len : ∀ (w : List Sh) (ρ : Env), (hidA w ρ).length = ρ.length
  | _, [] => by unfold hidA; rfl
  | [], _ :: _ => rfl
  | .fz :: w, d :: ρ => by simp [hidA, hidA_len w ρ]
  | .ls :: w, d :: ρ => by simp [hidA, hidA_len w ρ]
  | .ob _ :: w, d :: ρ => by simp [hidA, hidA_len w ρ]
theorem hidO_len : ∀ (w : List Sh) (ρ : Env), (hidO w ρ).length = ρ.length
  | _, [] => by unfold hidO; rfl
  | [], _ :: _ => rfl
  | .fz :: w, d :: ρ => by simp [hidO, hidO_len w ρ]
  | .ls :: w, d :: ρ => by simp [hidO, hidO_len w ρ]
  | .ob _ :: w, d :: ρ => by simp [hidO, hidO_len w ρ]
theorem hidA_some {d : D} : ∀ {w : List Sh} {ρ : Env} {i : Nat}, (hidA w ρ)[i]? = some (some d) → ρ[i]? = some (some d) ∧ sh w i = .fz
  | _, [], i, h => by unfold hidA at h; simp at h
  | [], e :: ρ, i, h => ⟨h, rfl⟩
  | .fz :: w, e :: ρ, 0, h => ⟨h, rfl⟩
  | .ls :: w, e :: ρ, 0, h => by simp [hidA] at h
  | .ob _ :: w, e :: ρ, 0, h => by simp [hidA] at h
  | .fz :: w, e :: ρ, i + 1, h => by
    have q := hidA_some (w := w) (ρ := ρ) (i := i) (by simpa [hidA] using h)
    exact ⟨by simpa using q.1, by simpa [sh] using q.2⟩
  | .ls :: w, e :: ρ, i + 1, h => by
    have q := hidA_some (w := w) (ρ := ρ) (i := i) (by simpa [hidA] using h)
    exact ⟨by simpa using q.1, by simpa [sh] using q.2⟩
  | .ob _ :: w, e :: ρ, i + 1, h => by
    have q := hidA_some (w := w) (ρ := ρ) (i := i) (by simpa [hidA] using h)
    exact ⟨by simpa using q.1, by simpa [sh] using q.2⟩
theorem hidO_some {d : D} : ∀ {w : List Sh} {ρ : Env} {i : Nat}, (hidO w ρ)[i]? = some (some d) → ρ[i]? = some (some d) ∧ (sh w i = .fz ∨ sh w i = .ls)
  | _, [], i, h => by unfold hidO at h; simp at h
  | [], e :: ρ, i, h => ⟨h, .inl rfl⟩
  | .fz :: w, e :: ρ, 0, h => ⟨h, .inl rfl⟩
  | .ls :: w, e :: ρ, 0, h => ⟨h, .inr rfl⟩
  | .ob _ :: w, e :: ρ, 0, h => by simp [hidO] at h
  | .fz :: w, e :: ρ, i + 1, h => by
    have q := hidO_some (w := w) (ρ := ρ) (i := i) (by simpa [hidO] using h)
    exact ⟨by simpa using q.1, by simpa [sh] using q.2⟩
  | .ls :: w, e :: ρ, i + 1, h => by
    have q := hidO_some (w := w) (ρ := ρ) (i := i) (by simpa [hidO] using h)
    exact ⟨by simpa using q.1, by simpa [sh] using q.2⟩
  | .ob _ :: w, e :: ρ, i + 1, h => by
    have q := hidO_some (w := w) (ρ := ρ) (i := i) (by simpa [hidO] using h)
    exact ⟨by simpa using q.1, by simpa [sh] using q.2⟩
theorem SR.envA (h : SR K fr w F H σ ρ) : EnvR K F σ (hidA w ρ) := by
  obtain ⟨os, s⟩ := h
  refine ⟨fun i d e => ?_, by rw [hidA_len]; exact s.len⟩
  obtain ⟨e1, e2⟩ := hidA_some e
  obtain ⟨v, q1, q2⟩ := s.sl i d e1
  rw [e2] at q2
  exact ⟨v, q1, q2⟩
mutual
def noList : D → Bool
  | .list _ => false
  | .dict _ => false
  | .tuple ds => noListA ds
  | _ => true
def noListA : List D → Bool
  | [] => true
  | d :: ds => noList d && noListA ds
end
mutual
theorem dp_drop {W F : Hp} (hW : ∀ a, F a = W a ∨ ∃ xs, W a = some (.lst xs)) : ∀ (d : D) (v : V), noList d = true → Dp K W v d → Dp K F v d
  | .none, _, _, h => by cases h; exact .non
  | .bool b, _, _, h => by cases h; exact .bl b
  | .int i, _, _, h => by cases h; exact .int i
  | .str x, _, _, h => by cases h; exact .str x
  | .list ds, _, n, _ => by simp [noList] at n
  | .tuple ds, _, n, h => by
    cases h with
    | tup h1 h2 =>
      refine .tup ?_ (dpAll_drop' hW ds _ (by simpa [noList] using n) h2)
      rcases h1 with (h | ⟨o, h⟩) | h
      · rcases hW _ with q | ⟨xs, q⟩
        · exact .inl (.inl (q.trans h))
        · rw [h] at q; cases q
      · rcases hW _ with q | ⟨xs, q⟩
        · exact .inl (.inr ⟨o, q.trans h⟩)
        · rw [h] at q; cases q
      · exact .inr h
  | .dict _, _, _, h => by cases h
theorem dpAll_drop' {W F : Hp} (hW : ∀ a, F a = W a ∨ ∃ xs, W a = some (.lst xs)) : ∀ (ds : List D) (vs : List V), noListA ds = true → DpAll K W vs ds → DpAll K F vs ds
  | [], _, _, h => by cases h; exact .nil
  | d :: ds, _, n, h => by
    cases h with
    | cons h1 h2 =>
      rw [noListA, Bool.and_eq_true] at n
      exact .cons (dp_drop hW d _ n.1 h1) (dpAll_drop' hW ds _ n.2 h2)
end
open Classical in
/-- all lists that are owned, seen as data for a while -/
theorem SR.view (h : SR K fr w F H σ ρ) : ∃ W, Same F W ∧ Wf W H ∧ EnvR K W σ (hidO w ρ) ∧
    ∀ W' H', Grow W H W' H' → ∃ F', Same F F' ∧ SR K fr w F' H' σ ρ ∧ ∀ v d, noList d = true → Dp K W' v d → Dp K F' v d := by
  obtain ⟨os, s⟩ := h
  let P : Addr → Prop := fun a => ∃ i d, sh w i = .ls ∧ ρ[i]? = some (some d) ∧ os i a ≠ none
  let W : Hp := fun a => if P a then H a else F a
  have Pn : ∀ a, P a → F a = none := fun a ⟨i, _, _, _, h⟩ => (s.ow i a h).1
  have Pl : ∀ a, P a → ∃ xs, H a = some (.lst xs) := fun a ⟨i, d, hw, e, h⟩ => by
    obtain ⟨v, _, hh⟩ := s.sl i d e
    rw [hw] at hh
    obtain ⟨b, vs, ds, _, _, eo, _⟩ := hh
    have : a = b := by
      rw [eo] at h
      by_cases hb : a = b
      · exact hb
      · rw [upd_ne hb] at h; exact absurd rfl h
    subst this
    exact ⟨vs, s.oh i a _ (by rw [eo, upd_same])⟩
  have sFW : Same F W := fun a o e => by
    show (if P a then H a else F a) = _
    by_cases hp : P a
    · rw [if_pos hp]; exact s.fh.s a o e
    · rw [if_neg hp]; exact e
  have sWH : Same W H := fun a o e => by
    have e : (if P a then H a else F a) = some o := e
    by_cases hp : P a
    · rw [if_pos hp] at e; exact e
    · rw [if_neg hp] at e; exact s.fh.s a o e
  have nP : ∀ a, Mem.is a → ¬ P a := fun a z ⟨i, _, _, _, h⟩ => s.om i a h z
  refine ⟨W, sFW, ⟨sWH, fun a z => by
    obtain ⟨e1, u, e2, e3⟩ := s.fh.m a z
    exact ⟨(if_neg (nP a z)).trans e1, u, e2, Mem.mono e3 sFW⟩⟩, ⟨fun i d e => ?_, by rw [hidO_len]; exact s.len⟩, fun W' H' g => ?_⟩
  · obtain ⟨e1, e2⟩ := hidO_some e
    obtain ⟨v, q1, q2⟩ := s.sl i d e1
    rcases e2 with e2 | e2
    · rw [e2] at q2
      exact ⟨v, q1, dq_mono sFW q2⟩
    · rw [e2] at q2
      obtain ⟨b, vs, ds, rfl, rfl, eo, hd⟩ := q2
      have hp : P b := ⟨i, _, e2, e1, by rw [eo, upd_same]; simp⟩
      refine ⟨.ref b, q1, .inl (.lst (.inl (.inl ?_)) (dpAll_mono sFW _ _ hd))⟩
      show (if P b then H b else F b) = _
      rw [if_pos hp]
      exact s.oh i b _ (by rw [eo, upd_same])
  · let F' : Hp := fun a => if P a then none else W' a
    have sFF : Same F F' := fun a o e => by
      have hp : ¬ P a := fun z => by rw [Pn a z] at e; cases e
      show (if P a then none else W' a) = _
      rw [if_neg hp]
      exact g.ff a o (sFW a o e)
    have F'n : ∀ a, F' a ≠ none → ¬ P a ∧ W' a ≠ none := fun a z => by
      by_cases hp : P a
      · exact absurd (if_pos hp) z
      · exact ⟨hp, by rw [show F' a = W' a from if_neg hp] at z; exact z⟩
    have cut : ∀ a, F' a = W' a ∨ ∃ xs, W' a = some (.lst xs) := fun a => by
      by_cases hp : P a
      · obtain ⟨xs, q⟩ := Pl a hp
        exact .inr ⟨xs, g.ff a _ (by show (if P a then H a else F a) = _; rw [if_pos hp]; exact q)⟩
      · exact .inl (if_neg hp)
    refine ⟨F', sFF, ⟨os, ⟨fun a o e => ?_, fun a z => ?_⟩, sameM_trans s.gh g.hh, same_trans s.f0 sFF, fun a h1 h2 => ?_, fun i a o e => g.hh a o (s.om i a (by rw [e]; simp)) (s.oh i a o e), fun i a h1 => ?_, fun i d e => ?_, s.len, s.om⟩, fun v d n hd => dp_drop cut d v n hd⟩
    · obtain ⟨hp, _⟩ := F'n a (by rw [e]; simp)
      rw [show F' a = W' a from if_neg hp] at e
      exact g.fh.s a o e
    · obtain ⟨e1, u, e2, e3⟩ := g.fh.m a z
      exact ⟨(if_neg (nP a z)).trans e1, u, e2, Mem.drop cut e3⟩
    · obtain ⟨hp, hw⟩ := F'n a h1
      have hW : W a ≠ none := g.nw a hw (sameM_ne s.gh s.fh h2)
      rw [show W a = F a from if_neg hp] at hW
      exact s.nw a hW h2
    · obtain ⟨q1, q2, q3⟩ := s.ow i a h1
      refine ⟨?_, q2, q3⟩
      by_cases hp : P a
      · exact if_pos hp
      · show (if P a then none else W' a) = none
        rw [if_neg hp]
        cases e : W' a with
        | none => rfl
        | some o =>
          have hW : W a ≠ none := g.nw a (by rw [e]; simp) (same_ne (s.oh i) h1)
          rw [show W a = F a from if_neg hp] at hW
          exact absurd q1 hW
    · obtain ⟨v, q1, q2⟩ := s.sl i d e
      exact ⟨v, q1, q2.mono sFF⟩
end
end DL

set_option maxHeartbeats 1000000
/-! DL4: statements on data. -/
namespace DL
open PySem PySem.Spec L2
open PyProof.Rows hiding St
variable [Mem]

inductive Out where
  | nx (ρ : Env)
  | rt (d : D) (ρ : Env)
  | bk (ρ : Env)
  | err (c : Str) (ρ : Env)
  | bad
abbrev SF := Env → Out
def PostS (K : PySem.W.Frag) (fr : Fr) (s0 : Sh) (wl w' : List Sh) (F : Hp) (Er : ErT) (o : Out) (Dn : Ends) : Prop := match o with
  | .nx ρ' => ∀ σ' F' H', Same F F' → SR K fr w' F' H' σ' ρ' → Dn.nx σ' H'
  | .rt d ρ' => ∀ σ' F' H' v w'', sh w'' 0 = s0 → SR K fr w'' F' H' σ' ρ' → Dp K F' v d → Dn.rt v H'
  | .bk ρ' => ∀ σ' F' H', Same F F' → SR K fr wl F' H' σ' ρ' → Dn.bk σ' H'
  | .err c ρ' => ∀ σ' F' H' w'', sh w'' 0 = s0 → SR K fr w'' F' H' σ' ρ' → Er c H'
  | .bad => False
def DRs (K : PySem.W.Frag) (Er : ErT) (s0 : Sh) (wl w w' : List Sh) (t : TS) (f : SF) : Prop := ∀ fr F H σ ρ Dn, SR K fr w F H σ ρ → PostS K fr s0 wl w' F Er (f ρ) Dn → t Dn σ H
structure DS (X : Cx) (Er : ErT) (s0 : Sh) (wl w : List Sh) (sts : List Stmt) (w' : List Sh) (t : TS) (f : SF) : Prop where
  ps : PSs X sts t
  rd : DRs X.K Er s0 wl w w' t f
structure D1 (X : Cx) (Er : ErT) (s0 : Sh) (wl w : List Sh) (st : Stmt) (w' : List Sh) (t : TS) (f : SF) : Prop where
  ps : PS X st t
  rd : DRs X.K Er s0 wl w w' t f
section
variable {K : PySem.W.Frag} {fr : Fr} {s0 : Sh} {wl w w' : List Sh} {F F1 : Hp} {Er : ErT}
theorem PostS.mono {o : Out} {Dn : Ends} (h : PostS K fr s0 wl w' F Er o Dn) (s : Same F F1) : PostS K fr s0 wl w' F1 Er o Dn := by
  cases o with
  | nx ρ' => exact fun σ' F' H' s' => h σ' F' H' (same_trans s s')
  | bk ρ' => exact fun σ' F' H' s' => h σ' F' H' (same_trans s s')
  | _ => exact h
end
/-! ### mirrors -/
def runR {α : Type} (r : R α) (ρ : Env) (k : α → Out) : Out := match r with
  | .ok a => k a
  | .err c => .err c ρ
  | .bad => .bad
theorem runR_ok {α : Type} (a : α) (ρ : Env) (k : α → Out) : runR (.ok a) ρ k = k a := rfl
theorem runR_err {α : Type} (c : Str) (ρ : Env) (k : α → Out) : runR (.err c) ρ k = .err c ρ := rfl
def Out.then (o : Out) (g : SF) : Out := match o with
  | .nx ρ => g ρ
  | o => o
theorem then_nx (ρ : Env) (g : SF) : (Out.nx ρ).then g = g ρ := rfl
theorem then_rt (d : D) (ρ : Env) (g : SF) : (Out.rt d ρ).then g = .rt d ρ := rfl
theorem then_bk (ρ : Env) (g : SF) : (Out.bk ρ).then g = .bk ρ := rfl
theorem then_err (c : Str) (ρ : Env) (g : SF) : (Out.err c ρ).then g = .err c ρ := rfl
theorem then_bad (g : SF) : (Out.bad).then g = .bad := rfl
def seqS (f g : SF) : SF := fun ρ => (f ρ).then g
def nxS : SF := fun ρ => .nx ρ
def asgS (w : List Sh) (i : Nat) (f : EF) : SF := fun ρ => runR (f (hidA w ρ)) ρ fun d => .nx (ρ.set i (some d))
def asgB (w : List Sh) (i : Nat) (f : EF) : SF := fun ρ => runR (f (hidO w ρ)) ρ fun d => if noList d = true then .nx (ρ.set i (some d)) else .bad
def newS (w : List Sh) (i : Nat) (f : AF) : SF := fun ρ => runR (f (hidA w ρ)) ρ fun ds => .nx (ρ.set i (some (.list ds)))
def dropS (w : List Sh) (f : EF) : SF := fun ρ => runR (f (hidA w ρ)) ρ fun _ => .nx ρ
def ifS (w : List Sh) (t : TF) (a b : SF) : SF := fun ρ => runR (t (hidO w ρ)) ρ fun c => if c = true then a ρ else b ρ
def retS (w : List Sh) (f : EF) : SF := fun ρ => runR (f (hidA w ρ)) ρ fun d => .rt d ρ
def retB (w : List Sh) (f : EF) : SF := fun ρ => runR (f (hidO w ρ)) ρ fun d => if noList d = true then .rt d ρ else .bad
def retN : SF := fun ρ => .rt .none ρ
def raiseS (c : Str) : SF := fun ρ => .err c ρ
def lsAt (ρ : Env) (i : Nat) (k : List D → Out) : Out := match ρ[i]? with
  | some (some (.list ds)) => k ds
  | _ => .bad
def appS (w : List Sh) (i : Nat) (f : EF) : SF := fun ρ => lsAt ρ i fun ds => runR (f (hidA w ρ)) ρ fun d => if ds.length < 1000000 then .nx (ρ.set i (some (.list (ds ++ [d])))) else .bad
def appB (w : List Sh) (i : Nat) (f : EF) : SF := fun ρ => lsAt ρ i fun ds => runR (f (hidO w ρ)) ρ fun d => if ds.length < 1000000 ∧ noList d = true then .nx (ρ.set i (some (.list (ds ++ [d])))) else .bad
def extS (w : List Sh) (i : Nat) (f : AF) : SF := fun ρ => lsAt ρ i fun ds => runR (f (hidA w ρ)) ρ fun es => if ds.length + es.length ≤ 1000000 then .nx (ρ.set i (some (.list (ds ++ es)))) else .bad
def setS (w : List Sh) (i : Nat) (f fi : EF) : SF := fun ρ => runR (f (hidO w ρ)) ρ fun d => lsAt ρ i fun ds => runR (fi (hidO w ρ)) ρ fun x => match intD x with
  | some k => (match ixN ds.length k with
    | some j => if noList d = true then .nx (ρ.set i (some (.list (ds.set j d)))) else .bad
    | none => .bad)
  | none => .bad
def retO (i : Nat) : SF := fun ρ => match ρ[i]? with
  | some (some d) => .rt d ρ
  | _ => .bad
def tupS (w : List Sh) (f : EF) (g : TGF) : SF := fun ρ => runR (f (hidA w ρ)) ρ fun d => match g d with
  | some as => .nx (setE ρ as)
  | none => .bad
def tupB (w : List Sh) (f : EF) (g : TGF) : SF := fun ρ => runR (f (hidO w ρ)) ρ fun d => if noList d = true then (match g d with
  | some as => .nx (setE ρ as)
  | none => .bad) else .bad
def parS (w : List Sh) (f : AF) (i j : Nat) : SF := fun ρ => runR (f (hidA w ρ)) ρ fun ds => match ds with
  | [d, e] => .nx ((ρ.set i (some d)).set j (some e))
  | _ => .bad
/-- the turns of a for -/
def forL (tgf : TGF) (body : SF) (ks : List Nat) : List D → Env → Out
  | [], ρ => .nx ρ
  | d :: ds, ρ => match tgf d with
    | none => .bad
    | some as => match body (setE ρ as) with
      | .nx ρ' => forL tgf body ks ds (killE ρ' ks)
      | .bk ρ' => .nx ρ'
      | o => o
def forS (w : List Sh) (fi : AF) (tgf : TGF) (body : SF) (ks : List Nat) : SF := fun ρ => runR (fi (hidA w ρ)) ρ fun ds => forL tgf body ks ds (killE ρ ks)
/-- a while with at most so many turns -/
def whileL (w : List Sh) (t : TF) (body : SF) (ks : List Nat) : Nat → Env → Out
  | 0, _ => .bad
  | n + 1, ρ => runR (t (hidO w ρ)) ρ fun c => if c = true then (match body ρ with
      | .nx ρ' => whileL w t body ks n (killE ρ' ks)
      | .bk ρ' => .nx ρ'
      | o => o) else .nx ρ
def whileS (w : List Sh) (n : Nat) (t : TF) (body : SF) (ks : List Nat) : SF := fun ρ => whileL w t body ks n (killE ρ ks)

section
variable {X : Cx} {Er : ErT} {s0 : Sh} {wl w w1 w2 w' : List Sh} {t u : TS} {f g : SF} {te : TE} {ta : TA} {tt : TT} {K : PySem.W.Frag} {st : Stmt} {rest sts : List Stmt} {pos : Pos}
/-- an expression's run within a statement, the owned slots hidden -/
theorem runA {fr : Fr} {F H : Hp} {σ : St} {ρ : Env} {Dn : Ends} {fe : EF} {k : D → Out} {Q : VK} (hw : sh w 0 = s0) (h : DRd K Er te fe) (st : SR K fr w F H σ ρ) (p : PostS K fr s0 wl w' F Er (runR (fe (hidA w ρ)) ρ k) Dn)
    (q : ∀ d v F1 H1, Same F F1 → SR K fr w F1 H1 σ ρ → Dp K F1 v d → PostS K fr s0 wl w' F1 Er (k d) Dn → Q v H1) : te σ H Q := by
  refine h F H σ _ _ st.fh st.envA ?_
  cases e : fe (hidA w ρ) with
  | ok d =>
    rw [e, runR_ok] at p
    exact fun F' H' gr v dv => q d v F' H' gr.ff (st.grow gr) dv (PostS.mono p gr.ff)
  | err c =>
    rw [e] at p
    exact fun F' H' gr => p σ F' H' w hw (st.grow gr)
  | bad => rw [e] at p; exact p
theorem runN {fr : Fr} {F H : Hp} {σ : St} {ρ : Env} {Dn : Ends} {fe : AF} {k : List D → Out} {Q : VK} (hw : sh w 0 = s0) (h : DRn K Er te fe) (st : SR K fr w F H σ ρ) (p : PostS K fr s0 wl w' F Er (runR (fe (hidA w ρ)) ρ k) Dn)
    (q : ∀ ds p vs F1 H1, Same F F1 → SR K fr w F1 H1 σ ρ → H1 p = none → DpAll K F1 vs ds → PostS K fr s0 wl w' F1 Er (k ds) Dn → Q (.ref p) (upd H1 p (.lst vs))) : te σ H Q := by
  refine h F H σ _ _ st.fh st.envA ?_
  cases e : fe (hidA w ρ) with
  | ok d =>
    rw [e, runR_ok] at p
    exact fun F' H' gr a vs ha dv => q d a vs F' H' gr.ff (st.grow gr) ha dv (PostS.mono p gr.ff)
  | err c =>
    rw [e] at p
    exact fun F' H' gr => p σ F' H' w hw (st.grow gr)
  | bad => rw [e] at p; exact p
theorem runAs {fr : Fr} {F H : Hp} {σ : St} {ρ : Env} {Dn : Ends} {fe : AF} {k : List D → Out} {Q : List V → Hp → Prop} (hw : sh w 0 = s0) (h : DRa K Er ta fe) (st : SR K fr w F H σ ρ) (p : PostS K fr s0 wl w' F Er (runR (fe (hidA w ρ)) ρ k) Dn)
    (q : ∀ ds vs F1 H1, Same F F1 → SR K fr w F1 H1 σ ρ → DpAll K F1 vs ds → PostS K fr s0 wl w' F1 Er (k ds) Dn → Q vs H1) : ta σ H Q := by
  refine h F H σ _ _ st.fh st.envA ?_
  cases e : fe (hidA w ρ) with
  | ok d =>
    rw [e, runR_ok] at p
    exact fun F' H' gr v dv => q d v F' H' gr.ff (st.grow gr) dv (PostS.mono p gr.ff)
  | err c =>
    rw [e] at p
    exact fun F' H' gr => p σ F' H' w hw (st.grow gr)
  | bad => rw [e] at p; exact p
/-- .. the owned lists seen -/
theorem runV {fr : Fr} {F H : Hp} {σ : St} {ρ : Env} {Dn : Ends} {fe : EF} {k : D → Out} {Q : VK} (hw : sh w 0 = s0) (h : DRd K Er te fe) (st : SR K fr w F H σ ρ) (p : PostS K fr s0 wl w' F Er (runR (fe (hidO w ρ)) ρ k) Dn)
    (q : ∀ d v F1 H1, Same F F1 → SR K fr w F1 H1 σ ρ → (noList d = true → Dp K F1 v d) → PostS K fr s0 wl w' F1 Er (k d) Dn → Q v H1) : te σ H Q := by
  obtain ⟨W, s1, s2, env, fin⟩ := st.view
  refine h W H σ _ _ s2 env ?_
  cases e : fe (hidO w ρ) with
  | ok d =>
    rw [e, runR_ok] at p
    intro W' H' gr v dv
    obtain ⟨F', s3, st', hd⟩ := fin W' H' gr
    exact q d v F' H' s3 st' (fun n => hd v d n dv) (PostS.mono p s3)
  | err c =>
    rw [e] at p
    intro W' H' gr
    obtain ⟨F', s3, st', _⟩ := fin W' H' gr
    exact p σ F' H' w hw st'
  | bad => rw [e] at p; exact p
theorem runT {fr : Fr} {F H : Hp} {σ : St} {ρ : Env} {Dn : Ends} {fe : TF} {k : Bool → Out} {Q : Bool → Hp → Prop} (hw : sh w 0 = s0) (h : DRt K Er tt fe) (st : SR K fr w F H σ ρ) (p : PostS K fr s0 wl w' F Er (runR (fe (hidO w ρ)) ρ k) Dn)
    (q : ∀ b F1 H1, Same F F1 → SR K fr w F1 H1 σ ρ → PostS K fr s0 wl w' F1 Er (k b) Dn → Q b H1) : tt σ H Q := by
  obtain ⟨W, s1, s2, env, fin⟩ := st.view
  refine h W H σ _ _ s2 env ?_
  cases e : fe (hidO w ρ) with
  | ok d =>
    rw [e, runR_ok] at p
    intro W' H' gr
    obtain ⟨F', s3, st', _⟩ := fin W' H' gr
    exact q d F' H' s3 st' (PostS.mono p s3)
  | err c =>
    rw [e] at p
    intro W' H' gr
    obtain ⟨F', s3, st', _⟩ := fin W' H' gr
    exact p σ F' H' w hw st'
  | bad => rw [e] at p; exact p
/-! ### blocks -/
theorem ds_nil : DS X Er s0 wl w [] w tNext nxS := ⟨pss_nil, fun fr F H σ ρ Dn st p => p σ F H (same_refl _) st⟩
theorem drs_seq (h1 : DRs K Er s0 wl w w1 t f) (h2 : DRs K Er s0 wl w1 w2 u g) : DRs K Er s0 wl w w2 (tSeq t u) (seqS f g) := by
  intro fr F H σ ρ Dn st p
  refine h1 fr F H σ ρ _ st ?_
  unfold seqS at p
  cases e : f ρ with
  | nx ρ' =>
    rw [e] at p
    exact fun σ' F' H' s' st' => h2 fr F' H' σ' ρ' Dn st' (PostS.mono p s')
  | rt d ρ' => rw [e] at p; exact p
  | bk ρ' => rw [e] at p; exact p
  | err c ρ' => rw [e] at p; exact p
  | bad => rw [e] at p; exact p
theorem ds_cons (h1 : D1 X Er s0 wl w st w1 t f) (h2 : DS X Er s0 wl w1 rest w2 u g) : DS X Er s0 wl w (st :: rest) w2 (tSeq t u) (seqS f g) := ⟨pss_cons h1.ps h2.ps, drs_seq h1.rd h2.rd⟩
theorem ds_one (h1 : D1 X Er s0 wl w st w1 t f) : DS X Er s0 wl w [st] w1 t f := ⟨pss_one h1.ps, h1.rd⟩
/-- an owned list is frozen from now on -/
theorem ds_frz (i : Nat) (hi : sh w i = .ls) (h : DS X Er s0 wl (w.set i .fz) sts w' t f) : DS X Er s0 wl w sts w' t f := by
  refine ⟨h.ps, fun fr F H σ ρ Dn st p => ?_⟩
  obtain ⟨F', s, st'⟩ := st.freeze hi
  exact h.rd fr F' H σ ρ Dn st' (PostS.mono p s)
/-! ### assignments -/
theorem drs_asg {i : Nat} {fe : EF} (hw : sh w 0 = s0) (h : DRd K Er te fe) : DRs K Er s0 wl w (w.set i .fz) (tAsg te (gName i)) (asgS w i fe) := fun fr F H σ ρ Dn st p =>
  runA (te := te) hw h st p fun d v F1 H1 s1 st1 dv p1 => p1 _ F1 H1 (same_refl _) (st1.set_fz dv)
theorem drs_asgB {i : Nat} {fe : EF} (hw : sh w 0 = s0) (h : DRd K Er te fe) : DRs K Er s0 wl w (w.set i .fz) (tAsg te (gName i)) (asgB w i fe) := fun fr F H σ ρ Dn st p =>
  runV (te := te) hw h st p fun d v F1 H1 s1 st1 dv p1 => by
    by_cases n : noList d = true
    · rw [if_pos n] at p1
      exact p1 _ F1 H1 (same_refl _) (st1.set_fz (dv n))
    · rw [if_neg n] at p1
      exact p1.elim
theorem drs_new {i : Nat} {fe : AF} (hw : sh w 0 = s0) (hi : i < w.length) (h : DRn K Er te fe) : DRs K Er s0 wl w (w.set i .ls) (tAsg te (gName i)) (newS w i fe) := fun fr F H σ ρ Dn st p =>
  runN (te := te) hw h st p fun ds a vs F1 H1 s1 st1 ha dv p1 => p1 _ F1 _ (same_refl _) (st1.set_ls ha dv hi)
theorem d_asg {i : Nat} {x : Str} {e : Expr} {pos' : Pos} {fe : EF} (hN : X.N.Nodup) (hi : X.N[i]? = some x) (hx : Loc X.env.scope x) (h : DE X Er e te fe) (hw : sh w 0 = s0 := by rfl) (hs : swapsWith e (some (.Name x pos')) pos.line X.env = pure false := by rfl) (hf : X.fn x = true ∨ X.env.scope.names.lookup x = some .local := by first | exact .inl rfl | exact .inr rfl | assumption) :
    D1 X Er s0 wl w (.Assign [.Name x pos'] e pos) (w.set i .fz) (tAsg te (gName i)) (asgS w i fe) := ⟨ps_set hN hi hx h.pe hs hf, drs_asg hw h.rd⟩
theorem d_asgB {i : Nat} {x : Str} {e : Expr} {pos' : Pos} {fe : EF} (hN : X.N.Nodup) (hi : X.N[i]? = some x) (hx : Loc X.env.scope x) (h : DE X Er e te fe) (hw : sh w 0 = s0 := by rfl) (hs : swapsWith e (some (.Name x pos')) pos.line X.env = pure false := by rfl) (hf : X.fn x = true ∨ X.env.scope.names.lookup x = some .local := by first | exact .inl rfl | exact .inr rfl | assumption) :
    D1 X Er s0 wl w (.Assign [.Name x pos'] e pos) (w.set i .fz) (tAsg te (gName i)) (asgB w i fe) := ⟨ps_set hN hi hx h.pe hs hf, drs_asgB hw h.rd⟩
theorem d_new {i : Nat} {x : Str} {e : Expr} {pos' : Pos} {fe : AF} (hN : X.N.Nodup) (hi : X.N[i]? = some x) (hx : Loc X.env.scope x) (h : DN X Er e te fe) (hl : i < w.length := by decide) (hw : sh w 0 = s0 := by rfl) (hs : swapsWith e (some (.Name x pos')) pos.line X.env = pure false := by rfl) (hf : X.fn x = true ∨ X.env.scope.names.lookup x = some .local := by first | exact .inl rfl | exact .inr rfl | assumption) :
    D1 X Er s0 wl w (.Assign [.Name x pos'] e pos) (w.set i .ls) (tAsg te (gName i)) (newS w i fe) := ⟨ps_set hN hi hx h.pe hs hf, drs_new hw hl h.rd⟩
/-- y = [.. for ..] -/
theorem d_newLc {i : Nat} {fe : AF} (h : PS X st (tAsg te (gName i)) ∧ DRn X.K Er te fe) (hl : i < w.length := by decide) (hw : sh w 0 = s0 := by rfl) : D1 X Er s0 wl w st (w.set i .ls) (tAsg te (gName i)) (newS w i fe) := ⟨h.1, drs_new hw hl h.2⟩
theorem dr_frz {fe : AF} (h : DRn K Er te fe) : DRd K Er te (lstE fe) := by
  intro F H σ ρ Q s st p
  refine h F H σ ρ _ s st (Post.imp (Post.bind p) fun F1 H1 ds g1 p1 a vs ha dvs => ?_)
  exact Post.done p1 (Grow.new g1.fh ha) _ (.lst (.inl (.inl upd_same)) (dpAll_mono (Grow.new g1.fh ha).ff ds vs dvs))
theorem d_asgLc {i : Nat} {fe : AF} (h : PS X st (tAsg te (gName i)) ∧ DRn X.K Er te fe) (hw : sh w 0 = s0 := by rfl) : D1 X Er s0 wl w st (w.set i .fz) (tAsg te (gName i)) (asgS w i (lstE fe)) := ⟨h.1, drs_asg hw (dr_frz h.2)⟩
theorem d_drop {e : Expr} {fe : EF} (h : DE X Er e te fe) (hw : sh w 0 = s0 := by rfl) (hs : swapsWith e none pos.line X.env = pure false := by rfl) : D1 X Er s0 wl w (.Expr e pos) w (tDrop te) (dropS w fe) :=
  ⟨ps_expr h.pe hs, fun fr F H σ ρ Dn st p => runA (te := te) hw h.rd st p fun d v F1 H1 s1 st1 dv p1 => p1 _ F1 H1 (same_refl _) st1⟩
theorem d_pass : D1 X Er s0 wl w (.Pass pos) w tNext nxS := ⟨ps_pass, fun fr F H σ ρ Dn st p => p σ F H (same_refl _) st⟩
/-- a, b = e -/
theorem d_tup {tg e : Expr} {g : TG} {tgf : TGF} {js : List Nat} {fe : EF} (h : DE X Er e te fe) (hg : TG1 X tg g tgf js) (hj : ∀ j ∈ js, sh w j = .fz) (hw : sh w 0 = s0 := by rfl) (hs : swapsWithSole [tg] e pos.line X.env = pure false := by rfl) (hsw : swappedStores [tg] e X.env = pure none := by rfl)
    (h1 : (assignEach [tg] X.env).map (·.2) = [assign tg X.env] := by rfl) : D1 X Er s0 wl w (.Assign [tg] e pos) w (tAsg te g) (tupS w fe tgf) := by
  refine ⟨ps_asg h.pe hg.pg hs hsw h1, fun fr F H σ ρ Dn st p => runA (te := te) hw h.rd st p fun d v F1 H1 s1 st1 dv p1 => ?_⟩
  cases e : tgf d with
  | none => simp only [e] at p1; exact p1.elim
  | some as =>
    simp only [e] at p1
    refine hg.rd F1 H1 v d as σ _ st1.fh dv e fun vs hv hjs => ?_
    have q := st1.setMany (as := as) (by rw [hjs]; exact hj) hv
    rw [hjs] at q
    exact p1 _ F1 H1 (same_refl _) q
theorem d_tupB {tg e : Expr} {g : TG} {tgf : TGF} {js : List Nat} {fe : EF} (h : DE X Er e te fe) (hg : TG1 X tg g tgf js) (hj : ∀ j ∈ js, sh w j = .fz) (hw : sh w 0 = s0 := by rfl) (hs : swapsWithSole [tg] e pos.line X.env = pure false := by rfl) (hsw : swappedStores [tg] e X.env = pure none := by rfl)
    (h1 : (assignEach [tg] X.env).map (·.2) = [assign tg X.env] := by rfl) : D1 X Er s0 wl w (.Assign [tg] e pos) w (tAsg te g) (tupB w fe tgf) := by
  refine ⟨ps_asg h.pe hg.pg hs hsw h1, fun fr F H σ ρ Dn st p => runV (te := te) hw h.rd st p fun d v F1 H1 s1 st1 dv p1 => ?_⟩
  by_cases n : noList d = true
  · rw [if_pos n] at p1
    cases e : tgf d with
    | none => simp only [e] at p1; exact p1.elim
    | some as =>
      simp only [e] at p1
      refine hg.rd F1 H1 v d as σ _ st1.fh (dv n) e fun vs hv hjs => ?_
      have q := st1.setMany (as := as) (by rw [hjs]; exact hj) hv
      rw [hjs] at q
      exact p1 _ F1 H1 (same_refl _) q
  · rw [if_neg n] at p1
    exact p1.elim
/-- a, b = x, y: two plain local names -/
theorem d_par {i j : Nat} {x y : Str} {a b : Expr} {fa : AF} {px py pt : Pos} {kt k2 pt2} (hc : X.calm = true) (hN : X.N.Nodup) (hi : X.N[i]? = some x) (hj : X.N[j]? = some y) (hij : i ≠ j)
    (hx : X.env.scope.names.lookup x = some .local) (hy : X.env.scope.names.lookup y = some .local) (ha : DA X Er [a, b] ta fa)
    (hsw : swappedStores [.Tuple [.Name x px, .Name y py] kt pt] (.Tuple [a, b] k2 pt2) X.env = pure (some [x, y])) (hw : sh w 0 = s0 := by rfl)
    (hs : swapsWithSole [.Tuple [.Name x px, .Name y py] kt pt] (.Tuple [a, b] k2 pt2) pos.line X.env = pure false := by rfl) :
    D1 X Er s0 wl w (.Assign [.Tuple [.Name x px, .Name y py] kt pt] (.Tuple [a, b] k2 pt2) pos) ((w.set i .fz).set j .fz) (tPar i j ta) (parS w fa i j) := by
  refine ⟨ps_par hc hN hi hj hij hx hy ha.pe hsw hs, fun fr F H σ ρ Dn st p => runAs (ta := ta) hw ha.rd st p fun ds vs F1 H1 s1 st1 dv p1 => ?_⟩
  match ds, vs, dv, p1 with
  | [d, e], [v, u], .cons h1 (.cons h2 .nil), p1 => exact ⟨v, u, rfl, p1 _ F1 H1 (same_refl _) ((st1.set_fz h1).set_fz h2)⟩
  | [], _, _, p1 => exact p1.elim
  | [_], _, _, p1 => exact p1.elim
  | _ :: _ :: _ :: _, _, _, p1 => exact p1.elim
/-! ### lists that are owned -/
theorem lsAt_post {fr : Fr} {F H : Hp} {σ : St} {ρ : Env} {Dn : Ends} {i : Nat} {k : List D → Out} (hi : sh w i = .ls) (st : SR K fr w F H σ ρ) (p : PostS K fr s0 wl w' F Er (lsAt ρ i k) Dn) :
    ∃ a vs ds, ρ[i]? = some (some (.list ds)) ∧ σ[i]? = some (some (.ref a)) ∧ H a = some (.lst vs) ∧ DpAll K F vs ds ∧ (∀ vs' ds', DpAll K F vs' ds' → SR K fr w F (upd H a (.lst vs')) σ (ρ.set i (some (.list ds')))) ∧ PostS K fr s0 wl w' F Er (k ds) Dn := by
  unfold lsAt at p
  cases e : ρ[i]? with
  | none => simp only [e] at p; exact p.elim
  | some o =>
    cases o with
    | none => simp only [e] at p; exact p.elim
    | some d =>
      obtain ⟨a, vs, ds, q1, rfl, q2, q3, q4, _⟩ := st.get_ls hi e
      simp only [e] at p
      exact ⟨a, vs, ds, rfl, q1, q2, q3, q4, p⟩
theorem ls_again {fr : Fr} {F H : Hp} {σ : St} {ρ : Env} {i : Nat} {a : Addr} {ds : List D} (hi : sh w i = .ls) (st : SR K fr w F H σ ρ) (e : ρ[i]? = some (some (.list ds))) (q1 : σ[i]? = some (some (.ref a))) :
    ∃ vs, H a = some (.lst vs) ∧ DpAll K F vs ds ∧ (∀ vs' ds', DpAll K F vs' ds' → SR K fr w F (upd H a (.lst vs')) σ (ρ.set i (some (.list ds')))) := by
  obtain ⟨a', vs, ds', z1, z2, z3, z4, z5, _⟩ := st.get_ls hi e
  rw [q1] at z1
  cases z1
  cases z2
  exact ⟨vs, z3, z4, z5⟩
theorem d_app {i : Nat} {x : Str} {e : Expr} {p1 p2 p3 : Pos} {fe : EF} (hi : sh w i = .ls) (hN : X.N[i]? = some x) (hv : Vis X.env.scope x) (h : DE X Er e te fe) (hps : PS X (.Expr (.Call (.Attribute (.Name x p1) "append" p2) [e] [] p3) pos) (tDrop (tBM X.K "list" rAppend (tVar i) (tCons te tNil)))) (hw : sh w 0 = s0 := by rfl) :
    D1 X Er s0 wl w (.Expr (.Call (.Attribute (.Name x p1) "append" p2) [e] [] p3) pos) w (tDrop (tBM X.K "list" rAppend (tVar i) (tCons te tNil))) (appS w i fe) := by
  refine ⟨hps, fun fr F H σ ρ Dn st p => ?_⟩
  obtain ⟨a, vs, ds, e1, q1, q2, q3, q4, p⟩ := lsAt_post hi st p
  refine ⟨_, q1, .inl ⟨rfl, _, SqL.of q2⟩, runA (te := te) hw h.rd st p fun d v F1 H1 s1 st1 dv p1 => ?_⟩
  obtain ⟨vs1, z1, z2, z3⟩ := ls_again hi st1 e1 q1
  by_cases hl : ds.length < 1000000
  · rw [if_pos hl] at p1
    refine ⟨a, vs1, v, rfl, rfl, z1, sz_lt (by rw [dpAll_len z2]; exact hl), ?_⟩
    exact p1 _ F1 _ (same_refl _) (z3 _ _ (dpAll_app z2 (.cons dv .nil)))
  · rw [if_neg hl] at p1
    exact p1.elim
theorem d_appB {i : Nat} {x : Str} {e : Expr} {p1 p2 p3 : Pos} {fe : EF} (hi : sh w i = .ls) (hN : X.N[i]? = some x) (hv : Vis X.env.scope x) (h : DE X Er e te fe) (hps : PS X (.Expr (.Call (.Attribute (.Name x p1) "append" p2) [e] [] p3) pos) (tDrop (tBM X.K "list" rAppend (tVar i) (tCons te tNil)))) (hw : sh w 0 = s0 := by rfl) :
    D1 X Er s0 wl w (.Expr (.Call (.Attribute (.Name x p1) "append" p2) [e] [] p3) pos) w (tDrop (tBM X.K "list" rAppend (tVar i) (tCons te tNil))) (appB w i fe) := by
  refine ⟨hps, fun fr F H σ ρ Dn st p => ?_⟩
  obtain ⟨a, vs, ds, e1, q1, q2, q3, q4, p⟩ := lsAt_post hi st p
  refine ⟨_, q1, .inl ⟨rfl, _, SqL.of q2⟩, runV (te := te) hw h.rd st p fun d v F1 H1 s1 st1 dv p1 => ?_⟩
  obtain ⟨vs1, z1, z2, z3⟩ := ls_again hi st1 e1 q1
  by_cases hl : ds.length < 1000000 ∧ noList d = true
  · rw [if_pos hl] at p1
    refine ⟨a, vs1, v, rfl, rfl, z1, sz_lt (by rw [dpAll_len z2]; exact hl.1), ?_⟩
    exact p1 _ F1 _ (same_refl _) (z3 _ _ (dpAll_app z2 (.cons (dv hl.2) .nil)))
  · rw [if_neg hl] at p1
    exact p1.elim
theorem d_ext {i : Nat} {x : Str} {e : Expr} {p1 p2 p3 : Pos} {fe : AF} (hi : sh w i = .ls) (hN : X.N[i]? = some x) (hv : Vis X.env.scope x) (h : DN X Er e te fe) (hps : PS X (.Expr (.Call (.Attribute (.Name x p1) "extend" p2) [e] [] p3) pos) (tDrop (tBM X.K "list" rExtend (tVar i) (tCons te tNil)))) (hw : sh w 0 = s0 := by rfl) :
    D1 X Er s0 wl w (.Expr (.Call (.Attribute (.Name x p1) "extend" p2) [e] [] p3) pos) w (tDrop (tBM X.K "list" rExtend (tVar i) (tCons te tNil))) (extS w i fe) := by
  refine ⟨hps, fun fr F H σ ρ Dn st p => ?_⟩
  obtain ⟨a, vs, ds, e1, q1, q2, q3, q4, p⟩ := lsAt_post hi st p
  refine ⟨_, q1, .inl ⟨rfl, _, SqL.of q2⟩, runN (te := te) hw h.rd st p fun es b us F1 H1 s1 st1 hb dus p1 => ?_⟩
  obtain ⟨vs1, z1, z2, z3⟩ := ls_again hi st1 e1 q1
  have nab : a ≠ b := ne_of_none z1 hb
  by_cases hl : ds.length + es.length ≤ 1000000
  · rw [if_pos hl] at p1
    refine ⟨a, b, vs1, us, rfl, rfl, by rw [upd_ne nab]; exact z1, upd_same, sz_of (by rw [dpAll_len z2, dpAll_len dus]; exact hl), ?_⟩
    have comm : upd (upd H1 b (.lst us)) a (.lst (vs1 ++ us)) = upd (upd H1 a (.lst (vs1 ++ us))) b (.lst us) := by
      funext c
      unfold upd
      by_cases c1 : c = a
      · subst c1
        rw [if_pos rfl, if_neg nab, if_pos rfl]
      · rw [if_neg c1, if_neg c1]
    rw [comm]
    have st2 := z3 _ _ (dpAll_app z2 dus)
    have g := Grow.new (o := .lst us) (p := b) st2.fh (by rw [upd_ne (Ne.symm nab)]; exact hb)
    exact p1 _ _ _ (same_upd (none_of_same st1.fh.s hb)) (st2.grow g)
  · rw [if_neg hl] at p1
    exact p1.elim
theorem runV' {fr : Fr} {F H : Hp} {σ : St} {ρ : Env} {Dn : Ends} {fe : EF} {k : D → Out} {Q : VK} (hw : sh w 0 = s0) (h : DRd K Er te fe) (st : SR K fr w F H σ ρ) (p : PostS K fr s0 wl w' F Er (runR (fe (hidO w ρ)) ρ k) Dn)
    (q : ∀ d v F1 H1, Same F F1 → SR K fr w F1 H1 σ ρ → (∀ n, d = .int n → v = .int n) → (noList d = true → Dp K F1 v d) → PostS K fr s0 wl w' F1 Er (k d) Dn → Q v H1) : te σ H Q :=
  runV hw h st p fun d v F1 H1 s1 st1 dv p1 => q d v F1 H1 s1 st1 (fun n e => by subst e; have z := dv rfl; cases z; rfl) dv p1
theorem d_set {i : Nat} {x : Str} {e ix : Expr} {p1 p2 : Pos} {fe fi : EF} {ti : TE} (hi : sh w i = .ls) (hN : X.N[i]? = some x) (hv : Vis X.env.scope x) (h : DE X Er e te fe) (hx : DE X Er ix ti fi)
    (hps : PS X (.Assign [.Subscript (.Name x p1) ix p2] e pos) (tAsg te (gSub (tVar i) ti rSetL))) (hw : sh w 0 = s0 := by rfl) :
    D1 X Er s0 wl w (.Assign [.Subscript (.Name x p1) ix p2] e pos) w (tAsg te (gSub (tVar i) ti rSetL)) (setS w i fe fi) := by
  refine ⟨hps, fun fr F H σ ρ Dn st p => runV (te := te) hw h.rd st p fun d v F1 H1 s1 st1 dv p1 => ?_⟩
  obtain ⟨a, vs, ds, e1, q1, q2, q3, q4, p1⟩ := lsAt_post hi st1 p1
  refine ⟨_, q1, runV' (te := ti) hw hx.rd st1 p1 fun y u F2 H2 s2 st2 du _ p2 => ?_⟩
  obtain ⟨vs2, z1, z2, z3⟩ := ls_again hi st2 e1 q1
  cases y with
  | int n =>
    have eu := du n rfl
    subst eu
    simp only [intD] at p2
    cases hj : ixN ds.length n with
    | none => simp only [hj] at p2; exact p2.elim
    | some j =>
      simp only [hj] at p2
      by_cases nl : noList d = true
      · rw [if_pos nl] at p2
        refine ⟨a, vs2, n, j, rfl, rfl, z1, by rw [dpAll_len z2]; exact hj, ?_⟩
        exact p2 _ F2 _ (same_refl _) (z3 _ _ (dpAll_set j z2 (dp_mono s2 _ _ (dv nl))))
      · rw [if_neg nl] at p2
        exact p2.elim
  | _ => exact p2.elim
/-! ### if, return, raise -/
theorem d_if {c : Expr} {a b : List Stmt} {fc : TF} {ta' tb' : TS} {fa fb : SF} (hc : DT X Er c tt fc) (ha : DS X Er s0 wl w a w' ta' fa) (hb : DS X Er s0 wl w b w' tb' fb) (hw : sh w 0 = s0 := by rfl) : D1 X Er s0 wl w (.If c a b pos) w' (tIfS tt ta' tb') (ifS w fc fa fb) := by
  refine ⟨ps_if hc.pe ha.ps hb.ps, fun fr F H σ ρ Dn st p => runT (tt := tt) hw hc.rd st p fun k F1 H1 s1 st1 p1 => ?_⟩
  cases k with
  | true => exact ha.rd fr F1 H1 σ ρ Dn st1 p1
  | false => exact hb.rd fr F1 H1 σ ρ Dn st1 p1
theorem d_ret {e : Expr} {fe : EF} (h : DE X Er e te fe) (hw : sh w 0 = s0 := by rfl) : D1 X Er s0 wl w (.Return (some e) pos) w' (tRet te) (retS w fe) :=
  ⟨ps_ret h.pe, fun fr F H σ ρ Dn st p => runA (te := te) hw h.rd st p fun d v F1 H1 s1 st1 dv p1 => p1 _ F1 H1 v w hw st1 dv⟩
theorem d_retB {e : Expr} {fe : EF} (h : DE X Er e te fe) (hw : sh w 0 = s0 := by rfl) : D1 X Er s0 wl w (.Return (some e) pos) w' (tRet te) (retB w fe) :=
  ⟨ps_ret h.pe, fun fr F H σ ρ Dn st p => runV (te := te) hw h.rd st p fun d v F1 H1 s1 st1 dv p1 => by
    by_cases n : noList d = true
    · rw [if_pos n] at p1
      exact p1 _ F1 H1 v w hw st1 (dv n)
    · rw [if_neg n] at p1
      exact p1.elim⟩
theorem d_retN (hw : sh w 0 = s0 := by rfl) : D1 X Er s0 wl w (.Return none pos) w' tRetN retN :=
  ⟨ps_retN, fun fr F H σ ρ Dn st p => p _ F H _ w hw st .non⟩
/-- the list that slot i owns is handed back -/
theorem d_retO {i : Nat} {x : Str} {p : Pos} (hi : sh w i = .ls) (h0 : i ≠ 0) (hN : X.N[i]? = some x) (hv : Vis X.env.scope x) (hw : sh w 0 = s0 := by rfl) (hd : (x == ("__debug__" : Str)) = false := by decide) (hcd : (x == ("__classdict__" : Str)) = false := by decide) :
    D1 X Er s0 wl w (.Return (some (.Name x p)) pos) w' (tRet (tVar i)) (retO i) :=
  ⟨ps_ret (pe_var hN hv hd hcd), fun fr F H σ ρ Dn st p => by
    unfold retO at p
    cases e : ρ[i]? with
    | none => simp only [e] at p; exact p.elim
    | some o =>
      cases o with
      | none => simp only [e] at p; exact p.elim
      | some d =>
        simp only [e] at p
        obtain ⟨a, vs, ds, q1, rfl, q2, q3, _, q5, q6⟩ := st.get_ls hi e
        exact ⟨_, q1, p _ _ H _ (w.set i .fz) (by rw [sh_set_ne h0]; exact hw) q5 (.lst (.inl (.inl upd_same)) (dpAll_mono q6 _ _ q3))⟩⟩
theorem d_raise {W : WX} {c : Str} {C : Addr} {e : Expr} (hc : X.calm = true) (tk : Takes X W) (he : PMk X e (fun _ H Q => Q (.ref C) none H)) (hE : ∀ H σ, Er c H → W (.ref C) none σ H) (hw : sh w 0 = s0 := by rfl) :
    D1 X Er s0 wl w (.Raise (some e) none pos) w' (fun _ σ H => W (.ref C) none σ H) (raiseS c) :=
  ⟨ps_raise hc tk he, fun fr F H σ ρ Dn st p => hE H σ (p σ F H w hw st)⟩
/-! ### for, while -/
theorem post_for {fr : Fr} {F : Hp} {Dn : Ends} {tgf : TGF} {body : SF} {ks : List Nat} {ds : List D} {ρ : Env} {N : St → Hp → Prop}
    (p : PostS K fr s0 wl w F Er (match body ρ with
      | .nx ρ' => forL tgf body ks ds (killE ρ' ks)
      | .bk ρ' => .nx ρ'
      | o => o) Dn)
    (q : ∀ σ' F' H' ρ', Same F F' → SR K fr w F' H' σ' ρ' → PostS K fr s0 wl w F' Er (forL tgf body ks ds ρ') Dn → N σ' H') : PostS K fr s0 w w F Er (body ρ) { Dn with nx := N, ct := N, bk := Dn.nx } := by
  cases e : body ρ with
  | nx ρ' =>
    rw [e] at p
    exact fun σ' F' H' s' st' => q σ' F' H' _ s' (st'.kill ks) (PostS.mono p s')
  | bk ρ' => rw [e] at p; exact p
  | rt d ρ' => rw [e] at p; exact p
  | err c ρ' => rw [e] at p; exact p
  | bad => rw [e] at p; exact p
theorem d_for {tg iter : Expr} {body : List Stmt} {wi : TI} {g : TG} {tgf : TGF} {js ks : List Nat} {tb' : TS} {fi : AF} {fb : SF} (hp : PassesOwn (model X.prog X.w) X.A X.env X.xe) (hc : X.calm = true) (hi : DI X Er tg iter wi fi) (hg : TG1 X tg g tgf js) (hj : ∀ j ∈ js, sh w j = .fz)
    (hb : DS X Er s0 w w body w tb' fb) (hw : sh w 0 = s0 := by rfl) (hs : ∀ x, foldedSetIterable iter X.env x = pure x := by intro _; rfl) : D1 X Er s0 wl w (.For tg iter body [] pos) w (tFor wi g tb') (forS w fi tgf fb ks) := by
  refine ⟨ps_for hp hc hi.pi hg.pg hb.ps hs, fun fr F H σ ρ Dn st p => ?_⟩
  refine hi.rd F H σ _ _ st.fh st.envA ?_
  unfold forS at p
  cases e : fi (hidA w ρ) with
  | err c =>
    rw [e] at p
    exact fun F' H' gr => p σ F' H' w hw (st.grow gr)
  | bad => rw [e] at p; exact p
  | ok ds =>
    rw [e, runR_ok] at p
    intro F1 H1 gr J dit
    refine ⟨fun i m σ H => m = ds.length - i ∧ i ≤ ds.length ∧ ∃ F' ρ, Same F1 F' ∧ SR X.K fr w F' H σ ρ ∧ PostS X.K fr s0 wl w F' Er (forL tgf fb ks (ds.drop i) ρ) Dn, ⟨ds.length, by simp, Nat.zero_le _, F1, _, same_refl _, (st.grow gr).kill ks, by simpa using PostS.mono p gr.ff⟩, ?_⟩
    rintro i m σ2 H2 ⟨rfl, hle, F2, ρ2, s2, st2, p2⟩
    by_cases hlt : i < ds.length
    · refine .inr ⟨dit.go i F2 H2 s2 st2.fh hlt, _, fun σ' H' h => ⟨ds.length - (i + 1), by omega, h⟩, fun x H3 y => ?_⟩
      obtain ⟨d, hd⟩ : ∃ d, ds[i]? = some d := ⟨ds[i], by simp [hlt]⟩
      have hdrop : ds.drop i = d :: ds.drop (i + 1) := by
        obtain ⟨h1, h2⟩ := List.getElem?_eq_some_iff.mp hd
        rw [← h2]
        exact List.drop_eq_getElem_cons hlt
      rw [hdrop] at p2
      obtain ⟨F3, gy, dx⟩ := dit.yld i F2 H2 x H3 d s2 st2.fh hd y
      have st3 := st2.grow gy
      have p3 := PostS.mono p2 gy.ff
      unfold forL at p3
      cases eas : tgf d with
      | none => simp only [eas] at p3; exact p3.elim
      | some as =>
        simp only [eas] at p3
        refine hg.rd F3 H3 x d as σ2 _ gy.fh dx eas fun us hus hjs => ?_
        have st4 := st3.setMany (as := as) (by rw [hjs]; exact hj) hus
        rw [hjs] at st4
        exact hb.rd fr F3 H3 _ _ _ st4 (post_for p3 fun σ' F' H' ρ' s' st' q => ⟨rfl, hlt, F', ρ', same_trans (same_trans s2 gy.ff) s', st', q⟩)
    · have e : i = ds.length := by omega
      subst e
      rw [List.drop_length] at p2
      exact .inl ⟨dit.stop F2 H2 s2 st2.fh, p2 σ2 F2 H2 (same_refl _) st2⟩
theorem d_while {c : Expr} {body : List Stmt} {fc : TF} {ks : List Nat} {tb' : TS} {fb : SF} (n : Nat) (hp : PassesOwn (model X.prog X.w) X.A X.env X.xe) (hc : DT X Er c tt fc) (hb : DS X Er s0 w w body w tb' fb) (hw : sh w 0 = s0 := by rfl) : D1 X Er s0 wl w (.While c body [] pos) w (tWhile tt tb') (whileS w n fc fb ks) := by
  refine ⟨ps_while hp hc.pe hb.ps, fun fr F H σ ρ Dn st p => ?_⟩
  refine ⟨fun m σ H => ∃ F' ρ, Same F F' ∧ SR X.K fr w F' H σ ρ ∧ PostS X.K fr s0 wl w F' Er (whileL w fc fb ks m ρ) Dn, ⟨n, F, _, same_refl _, st.kill ks, p⟩, ?_⟩
  rintro m σ2 H2 ⟨F2, ρ2, s2, st2, p2⟩
  cases m with
  | zero => exact p2.elim
  | succ m =>
    refine runT (tt := tt) hw hc.rd st2 p2 fun k F3 H3 s3 st3 p3 => ?_
    cases k with
    | false => exact p3 σ2 F3 H3 (same_refl _) st3
    | true =>
      rw [if_pos rfl]
      refine ⟨fun σ' H' => ∃ F' ρ, Same F F' ∧ SR X.K fr w F' H' σ' ρ ∧ PostS X.K fr s0 wl w F' Er (whileL w fc fb ks m ρ) Dn, fun σ' H' h => ⟨m, Nat.lt_succ_self _, h⟩, ?_⟩
      refine hb.rd fr F3 H3 σ2 ρ2 _ st3 ?_
      rw [if_pos rfl] at p3
      cases e : fb ρ2 with
      | nx ρ' =>
        rw [e] at p3
        exact fun σ' F' H' s' st' => ⟨F', _, same_trans (same_trans s2 s3) s', st'.kill ks, PostS.mono p3 s'⟩
      | bk ρ' => rw [e] at p3; exact p3
      | rt d ρ' => rw [e] at p3; exact p3
      | err c ρ' => rw [e] at p3; exact p3
      | bad => rw [e] at p3; exact p3
end
/-! ### a def -/
def runD (m : Nat) (f : SF) (ds : List D) : R D := match f (ds.map some ++ List.replicate (m - ds.length) none) with
  | .nx _ => .ok .none
  | .rt d _ => .ok d
  | .err c _ => .err c
  | .bk _ => .bad
  | .bad => .bad
section
variable {P : Program} {w' : World} {K : PySem.W.Frag} {mg : Str → Option Value} {base : Heap}
theorem start_env {F : Hp} {ds : List D} {vs : List V} (h : DQAll K F vs ds) (N : List Str) (i : Nat) (d : D) (e : (ds.map some ++ List.replicate (N.length - ds.length) none)[i]? = some (some d)) : ∃ v, (L2.start N vs)[i]? = some (some v) ∧ DQ K F v d := by
  by_cases hi : i < ds.length
  · rw [List.getElem?_append_left (by simpa using hi), List.getElem?_map] at e
    cases q : ds[i]? with
    | none => rw [q] at e; cases e
    | some d' =>
      rw [q] at e
      cases e
      obtain ⟨v, q1, q2⟩ := dqAll_get h q
      refine ⟨v, ?_, q2⟩
      unfold L2.start
      rw [List.getElem?_append_left (by simp; rw [dqAll_len h]; exact hi), List.getElem?_map, q1]
      rfl
  · rw [List.getElem?_append_right (by simp; omega)] at e
    have := List.mem_of_getElem? e
    rw [List.mem_replicate] at this
    exact absurd this.2 (by simp)
def fzAll (w : List Sh) : Bool := w.all fun s => match s with | .fz => true | _ => false
theorem fzAll_ok {w : List Sh} (h : fzAll w = true) (i : Nat) : sh w i = .fz := by
  unfold sh
  rw [List.getD_eq_getElem?_getD]
  cases e : w[i]? with
  | none => rfl
  | some s =>
    have := List.all_eq_true.mp h s (List.mem_of_getElem? e)
    cases s <;> first | rfl | (simp at this)
theorem fn_ok {x qual : Str} {st : Stmt} {f : Addr} {fd : FuncData} {N ps : List Str} {k : Nat} {n : Nat} {fb : SF} {ws : List Sh} (F : Fun K x qual st f fd) (S : FnScope N ps (defScope st)) (hn : ps.length = n) (hws : fzAll ws = true)
    (body : ∀ [Mem] (cdv : Value) (A : Around) (outer : List PySem.Env) (s : Shared) (H : Hp) (E : XK), Room k (A.deeper (envOfC qual (defScope st) s.heap.objs.size f cdv)) →
      ∃ t ws', DS (cxOf (L2.CX P w') P w' K mg base N qual (defScope st) f cdv A outer s H E) (erX mg E) .fz [] ws (defBody st) ws' t fb) : FnOk P w' K mg base (L2.CX P w') (k + 1) f fd ps (spD K mg n (runD N.length fb)) := by
  refine F.okX S (fun vs H Q E h => by rw [hn]; exact h.1) (fun cdv A outer s H vs Q E hr h => ?_)
  obtain ⟨hl, M, F0, ds, s0, dv, p⟩ := h
  obtain ⟨t, ws', h1, h2⟩ := body cdv A outer s H E hr
  refine ⟨t, h1, ?_⟩
  refine h2 ⟨F0, H⟩ F0 H _ (ds.map some ++ List.replicate (N.length - ds.length) none) _ ⟨fun _ => emp, s0, fun _ _ _ h => h, same_refl _, fun a h _ => h, fun i a o z => by (cases z), fun i a z => absurd rfl z, fun i d e => ?_, ?_, fun i a z => absurd rfl z⟩ ?_
  · obtain ⟨v, q1, q2⟩ := start_env dv N i d e
    exact ⟨v, q1, by rw [fzAll_ok hws i]; exact q2⟩
  · have := dqAll_len dv
    simp [L2.start, this]
  · have gr : ∀ {w'' σ' F' H' ρ'}, SR K ⟨F0, H⟩ w'' F' H' σ' ρ' → Grow F0 H F' H' := fun {w'' σ' F' H' ρ'} st => by
      obtain ⟨os, q⟩ := st
      exact ⟨q.f0, q.gh, q.fh, q.nw⟩
    unfold runD at p
    cases e : fb (ds.map some ++ List.replicate (N.length - ds.length) none) with
    | nx ρ' =>
      rw [e] at p
      exact fun σ' F' H' s' st' => p F' H' (gr st') _ .non
    | rt d ρ' =>
      rw [e] at p
      exact fun σ' F' H' v w'' _ st' dv' => p F' H' (gr st') v dv'
    | err c ρ' =>
      rw [e] at p
      exact fun σ' F' H' w'' _ st' => p F' H' (gr st')
    | bk ρ' => rw [e] at p; exact p.elim
    | bad => rw [e] at p; exact p.elim
end
end DL

set_option maxHeartbeats 1000000
/-! DL5: short forms. -/
namespace DL
open PySem PySem.Spec L2
open PyProof.Rows hiding St
variable [Mem]
/-- all slots of a list are frozen -/
def allFz (w : List Sh) : List Nat → Bool
  | [] => true
  | j :: js => (match sh w j with | .fz => true | _ => false) && allFz w js
theorem allFz_ok {w : List Sh} : ∀ {js : List Nat}, allFz w js = true → ∀ j ∈ js, sh w j = .fz
  | [], _, j, hj => by cases hj
  | i :: is, h, j, hj => by
    unfold allFz at h
    rw [Bool.and_eq_true] at h
    rcases List.mem_cons.mp hj with e | hj
    · subst e
      revert h
      cases sh w j <;> simp
    · exact allFz_ok h.2 j hj
section
variable {X : Cx} {Er : ErT} {s0 : Sh} {wl w w' : List Sh} {te : TE} {ta : TA} {pos : Pos}
theorem dv (i : Nat) {x : Str} {pos : Pos} (hN : X.N[i]? = some x := by rfl) (hv : Vis X.env.scope x := by first | exact Or.inl rfl | exact Or.inr (Or.inl rfl) | exact Or.inr (Or.inr rfl)) (hd : (x == ("__debug__" : Str)) = false := by decide) (hcd : (x == ("__classdict__" : Str)) = false := by decide) : DE X Er (.Name x pos) (tVar i) (vE i) :=
  de_var hN hv hd hcd
theorem r64 {k : Nat} {A : Around} (r : Room k A) : A.units + 64 < cLine := r.units
theorem r65 {k : Nat} {A : Around} (r : Room k A) : A.units + 65 < cLine := by have := r.un; omega
theorem pass_no {P : Program} {w : World} {X : Cx} : Passes (L2.CX P w) X (fun _ _ _ => False) := fun _ _ _ _ _ _ _ h => by
  obtain ⟨_, _, _, _, _, _, _, _, _, _, _, _, h⟩ := h
  exact h.elim
theorem tgn (i : Nat) {x : Str} {pos : Pos} (hN : X.N.Nodup) (hi : X.N[i]? = some x := by rfl) (hx : Loc X.env.scope x := by first | exact Or.inl rfl | exact Or.inr rfl) (hf : X.fn x = true ∨ X.env.scope.names.lookup x = some .local := by first | exact .inl rfl | exact .inr rfl) : TG1 X (.Name x pos) (gName i) (tgN i) [i] := tg_name hN hi hx hf
theorem pgn (i : Nat) {x : Str} {pos : Pos} (hN : X.N.Nodup) (hi : X.N[i]? = some x := by rfl) (hx : Loc X.env.scope x := by first | exact Or.inl rfl | exact Or.inr rfl) (hf : X.fn x = true ∨ X.env.scope.names.lookup x = some .local := by first | exact .inl rfl | exact .inr rfl) : PG X (.Name x pos) (gName i) := pg_name hN hi hx hf
theorem s_asg (i : Nat) {x : Str} {e : Expr} {pos' : Pos} {fe : EF} (hN : X.N.Nodup) (h : DE X Er e te fe) (hi : X.N[i]? = some x := by rfl) (hx : Loc X.env.scope x := by first | exact Or.inl rfl | exact Or.inr rfl) (hw : sh w 0 = s0 := by rfl) (hs : swapsWith e (some (.Name x pos')) pos.line X.env = pure false := by rfl) (hf : X.fn x = true ∨ X.env.scope.names.lookup x = some .local := by first | exact .inl rfl | exact .inr rfl) :
    D1 X Er s0 wl w (.Assign [.Name x pos'] e pos) (w.set i .fz) (tAsg te (gName i)) (asgS w i fe) := d_asg hN hi hx h hw hs hf
theorem s_asgB (i : Nat) {x : Str} {e : Expr} {pos' : Pos} {fe : EF} (hN : X.N.Nodup) (h : DE X Er e te fe) (hi : X.N[i]? = some x := by rfl) (hx : Loc X.env.scope x := by first | exact Or.inl rfl | exact Or.inr rfl) (hw : sh w 0 = s0 := by rfl) (hs : swapsWith e (some (.Name x pos')) pos.line X.env = pure false := by rfl) (hf : X.fn x = true ∨ X.env.scope.names.lookup x = some .local := by first | exact .inl rfl | exact .inr rfl) :
    D1 X Er s0 wl w (.Assign [.Name x pos'] e pos) (w.set i .fz) (tAsg te (gName i)) (asgB w i fe) := d_asgB hN hi hx h hw hs hf
theorem s_new (i : Nat) {x : Str} {e : Expr} {pos' : Pos} {fe : AF} (hN : X.N.Nodup) (h : DN X Er e te fe) (hi : X.N[i]? = some x := by rfl) (hx : Loc X.env.scope x := by first | exact Or.inl rfl | exact Or.inr rfl) (hl : i < w.length := by decide) (hw : sh w 0 = s0 := by rfl) (hs : swapsWith e (some (.Name x pos')) pos.line X.env = pure false := by rfl) (hf : X.fn x = true ∨ X.env.scope.names.lookup x = some .local := by first | exact .inl rfl | exact .inr rfl) :
    D1 X Er s0 wl w (.Assign [.Name x pos'] e pos) (w.set i .ls) (tAsg te (gName i)) (newS w i fe) := d_new hN hi hx h hl hw hs hf
theorem s_app (i : Nat) {x : Str} {e : Expr} {p1 p2 p3 : Pos} {fe : EF} (h : DE X Er e te fe) (hi : sh w i = .ls := by rfl) (hN : X.N[i]? = some x := by rfl) (hv : Vis X.env.scope x := by first | exact Or.inl rfl | exact Or.inr (Or.inl rfl) | exact Or.inr (Or.inr rfl)) (hw : sh w 0 = s0 := by rfl)
    (hs : swapsWith (.Call (.Attribute (.Name x p1) "append" p2) [e] [] p3) none pos.line X.env = pure false := by rfl) (hbase : attributeBase (.Name x p1) "append" X.env (eval (.Name x p1) X.env) = eval (.Name x p1) X.env := by rfl)
    (hfew : ((backTo p3 (starEach [e] X.env)).all (fun x => !x.1) && (backToKw p3 (keywordEach [] X.env)).all (fun x => x.1.isSome) && decide ([e].length + ([] : List Keyword).length + (if ([] : List Keyword).isEmpty then 0 else 1) < 30)) = true := by rfl)
    (hline : (p2.endLine == p3.line) = true := by rfl) (hst : starEach [e] X.env = (false, eval e X.env) :: starEach [] X.env := by rfl) (hplain : (backTo p3 (starEach [] X.env)).any (·.1) = false := by rfl)
    (hd : (x == ("__debug__" : Str)) = false := by decide) (hcd : (x == ("__classdict__" : Str)) = false := by decide) :
    D1 X Er s0 wl w (.Expr (.Call (.Attribute (.Name x p1) "append" p2) [e] [] p3) pos) w (tDrop (tBM X.K "list" rAppend (tVar i) (tCons te tNil))) (appS w i fe) :=
  d_app hi hN hv h (ps_expr (pe_bm PySem.F.plainAttrs_list PySem.F.slot_list_append PySem.F.type_list_append mt_append (pe_var hN hv hd hcd) (pa_cons h.pe pa_nil hst) hbase hfew hline hst hplain) hs) hw
theorem s_appB (i : Nat) {x : Str} {e : Expr} {p1 p2 p3 : Pos} {fe : EF} (h : DE X Er e te fe) (hi : sh w i = .ls := by rfl) (hN : X.N[i]? = some x := by rfl) (hv : Vis X.env.scope x := by first | exact Or.inl rfl | exact Or.inr (Or.inl rfl) | exact Or.inr (Or.inr rfl)) (hw : sh w 0 = s0 := by rfl)
    (hs : swapsWith (.Call (.Attribute (.Name x p1) "append" p2) [e] [] p3) none pos.line X.env = pure false := by rfl) (hbase : attributeBase (.Name x p1) "append" X.env (eval (.Name x p1) X.env) = eval (.Name x p1) X.env := by rfl)
    (hfew : ((backTo p3 (starEach [e] X.env)).all (fun x => !x.1) && (backToKw p3 (keywordEach [] X.env)).all (fun x => x.1.isSome) && decide ([e].length + ([] : List Keyword).length + (if ([] : List Keyword).isEmpty then 0 else 1) < 30)) = true := by rfl)
    (hline : (p2.endLine == p3.line) = true := by rfl) (hst : starEach [e] X.env = (false, eval e X.env) :: starEach [] X.env := by rfl) (hplain : (backTo p3 (starEach [] X.env)).any (·.1) = false := by rfl)
    (hd : (x == ("__debug__" : Str)) = false := by decide) (hcd : (x == ("__classdict__" : Str)) = false := by decide) :
    D1 X Er s0 wl w (.Expr (.Call (.Attribute (.Name x p1) "append" p2) [e] [] p3) pos) w (tDrop (tBM X.K "list" rAppend (tVar i) (tCons te tNil))) (appB w i fe) :=
  d_appB hi hN hv h (ps_expr (pe_bm PySem.F.plainAttrs_list PySem.F.slot_list_append PySem.F.type_list_append mt_append (pe_var hN hv hd hcd) (pa_cons h.pe pa_nil hst) hbase hfew hline hst hplain) hs) hw
theorem s_ext (i : Nat) {x : Str} {e : Expr} {p1 p2 p3 : Pos} {fe : AF} (h : DN X Er e te fe) (hi : sh w i = .ls := by rfl) (hN : X.N[i]? = some x := by rfl) (hv : Vis X.env.scope x := by first | exact Or.inl rfl | exact Or.inr (Or.inl rfl) | exact Or.inr (Or.inr rfl)) (hw : sh w 0 = s0 := by rfl)
    (hs : swapsWith (.Call (.Attribute (.Name x p1) "extend" p2) [e] [] p3) none pos.line X.env = pure false := by rfl) (hbase : attributeBase (.Name x p1) "extend" X.env (eval (.Name x p1) X.env) = eval (.Name x p1) X.env := by rfl)
    (hfew : ((backTo p3 (starEach [e] X.env)).all (fun x => !x.1) && (backToKw p3 (keywordEach [] X.env)).all (fun x => x.1.isSome) && decide ([e].length + ([] : List Keyword).length + (if ([] : List Keyword).isEmpty then 0 else 1) < 30)) = true := by rfl)
    (hline : (p2.endLine == p3.line) = true := by rfl) (hst : starEach [e] X.env = (false, eval e X.env) :: starEach [] X.env := by rfl) (hplain : (backTo p3 (starEach [] X.env)).any (·.1) = false := by rfl)
    (hd : (x == ("__debug__" : Str)) = false := by decide) (hcd : (x == ("__classdict__" : Str)) = false := by decide) :
    D1 X Er s0 wl w (.Expr (.Call (.Attribute (.Name x p1) "extend" p2) [e] [] p3) pos) w (tDrop (tBM X.K "list" rExtend (tVar i) (tCons te tNil))) (extS w i fe) :=
  d_ext hi hN hv h (ps_expr (pe_bm PySem.F.plainAttrs_list PySem.F.slot_list_extend PySem.F.type_list_extend mt_extend (pe_var hN hv hd hcd) (pa_cons h.pe pa_nil hst) hbase hfew hline hst hplain) hs) hw
theorem s_retO (i : Nat) {x : Str} {p : Pos} (hi : sh w i = .ls := by rfl) (h0 : i ≠ 0 := by decide) (hN : X.N[i]? = some x := by rfl) (hv : Vis X.env.scope x := by first | exact Or.inl rfl | exact Or.inr (Or.inl rfl) | exact Or.inr (Or.inr rfl)) (hw : sh w 0 = s0 := by rfl) (hd : (x == ("__debug__" : Str)) = false := by decide) (hcd : (x == ("__classdict__" : Str)) = false := by decide) :
    D1 X Er s0 wl w (.Return (some (.Name x p)) pos) w' (tRet (tVar i)) (retO i) := d_retO hi h0 hN hv hw hd hcd
theorem s_set (i : Nat) {x : Str} {e ix : Expr} {p1 p2 : Pos} {fe fi : EF} {ti : TE} (h : DE X Er e te fe) (hx : DE X Er ix ti fi) (hi : sh w i = .ls := by rfl) (hN : X.N[i]? = some x := by rfl) (hv : Vis X.env.scope x := by first | exact Or.inl rfl | exact Or.inr (Or.inl rfl) | exact Or.inr (Or.inr rfl)) (hw : sh w 0 = s0 := by rfl)
    (ha : ∀ v, assign (.Subscript (.Name x p1) ix p2) X.env v = (do
      let ov ← holding [v] (eval (.Name x p1) X.env)
      let iv ← holding [v, ov] (eval ix X.env)
      standAt p2
      holding [v, ov, iv] (setItem ov iv v)
      release [v, ov, iv] []) := by intro _; rfl)
    (hs : swapsWithSole [.Subscript (.Name x p1) ix p2] e pos.line X.env = pure false := by rfl) (hsw : swappedStores [.Subscript (.Name x p1) ix p2] e X.env = pure none := by rfl)
    (h1 : (assignEach [.Subscript (.Name x p1) ix p2] X.env).map (·.2) = [assign (.Subscript (.Name x p1) ix p2) X.env] := by rfl)
    (hd : (x == ("__debug__" : Str)) = false := by decide) (hcd : (x == ("__classdict__" : Str)) = false := by decide) :
    D1 X Er s0 wl w (.Assign [.Subscript (.Name x p1) ix p2] e pos) w (tAsg te (gSub (tVar i) ti rSetL)) (setS w i fe fi) :=
  d_set hi hN hv h hx (ps_asg h.pe (pg_sub (pe_var hN hv hd hcd) hx.pe set_list ha) hs hsw h1) hw
theorem s_tup (js : List Nat) {tg e : Expr} {g : TG} {fe : EF} (h : DE X Er e te fe) (hg : TG1 X tg g (tgT js) js) (hj : ∀ j ∈ js, sh w j = .fz := by exact allFz_ok rfl) (hw : sh w 0 = s0 := by rfl) (hs : swapsWithSole [tg] e pos.line X.env = pure false := by rfl) (hsw : swappedStores [tg] e X.env = pure none := by rfl)
    (h1 : (assignEach [tg] X.env).map (·.2) = [assign tg X.env] := by rfl) : D1 X Er s0 wl w (.Assign [tg] e pos) w (tAsg te g) (tupS w fe (tgT js)) := d_tup h hg hj hw hs hsw h1

/-! ### the written part named outright -/
theorem kix (K : PySem.W.Frag) (hK : X.K = K := by rfl) : IxR X (rIx K) := by subst hK; exact ix_seq
theorem kadd (K : PySem.W.Frag) (hK : X.K = K := by rfl) : OpR X (binaryOp .Add) (rAddA K) := by subst hK; exact op_addA
theorem kmul (K : PySem.W.Frag) (hK : X.K = K := by rfl) : OpR X (binaryOp .Mult) (rMulA K) := by subst hK; exact op_mulA
theorem keq (K : PySem.W.Frag) (hu : X.A.units + 64 < cLine) (hK : X.K = K := by rfl) : OpR X (compareOp .Eq) (rEqD K) := by subst hK; exact op_eqD hu
theorem kne (K : PySem.W.Frag) (hu : X.A.units + 64 < cLine) (hK : X.K = K := by rfl) : OpR X (compareOp .NotEq) (rNeD K) := by subst hK; exact op_neD hu
theorem kin (K : PySem.W.Frag) (hu : X.A.units + 65 < cLine) (hK : X.K = K := by rfl) : OpR X (compareOp .In) (rInA K) := by subst hK; exact op_inA hu
theorem knin (K : PySem.W.Frag) (hu : X.A.units + 65 < cLine) (hK : X.K = K := by rfl) : OpR X (compareOp .NotIn) (rNotInA K) := by subst hK; exact op_notInA hu
theorem klen (K : PySem.W.Frag) (hK : X.K = K := by rfl) : CallR X (.builtin "len") (rLenX K) := by subst hK; exact call_len
theorem kall (K : PySem.W.Frag) (hc : X.calm = true := by rfl) (hK : X.K = K := by rfl) : CallR X (.builtin "all") (rAll K) := by subst hK; exact cr_all hc
theorem kany (K : PySem.W.Frag) (hc : X.calm = true := by rfl) (hK : X.K = K := by rfl) : CallR X (.builtin "any") (rAny K) := by subst hK; exact cr_any hc
theorem ksum (K : PySem.W.Frag) (hc : X.calm = true := by rfl) (hK : X.K = K := by rfl) : CallR X (.builtin "sum") (rSum K) := by subst hK; exact cr_sum hc
theorem ktup (K : PySem.W.Frag) (hK : X.K = K := by rfl) : CallR X (.type "tuple") (rTupleX K) := by subst hK; exact call_tuple_of
theorem ksl (K : PySem.W.Frag) {e : Expr} {lo hi : Option Expr} {p2 pos : Pos} {f : EF} {fl fh : OF} {tl th : TO} (h : DE X Er e te f) (hl : DO X Er lo tl fl) (hh : DO X Er hi th fh) (hK : X.K = K := by rfl) : DE X Er (.Subscript e (.Slice lo hi none p2) pos) (tSl (rSlX K) te tl th) (sliceE f fl fh) := by subst hK; exact de_sl h hl hh
theorem kisi (K : PySem.W.Frag) {T : String} {g : D → Bool} {x : Str} {e : Expr} {f : EF} {p p2 pos : Pos} (kt : Kits T g) (hg : Gl X "isinstance") (hm : X.mg "isinstance" = none) (hg2 : Gl X x) (hm2 : X.mg x = none) (hv2 : bootBuiltins x = some (.type T)) (h : DE X Er e te f)
    (hn2 : x ≠ "__name__" := by decide) (hd2 : (x == ("__debug__" : Str)) = false := by decide)
    (hs1 : starEach [e, .Name x p2] X.env = (false, eval e X.env) :: starEach [.Name x p2] X.env := by rfl) (hpl : (backTo pos (starEach [.Name x p2] X.env)).any (·.1) = false := by rfl) (hK : X.K = K := by rfl) :
    DE X Er (.Call (.Name "isinstance" p) [e, .Name x p2] [] pos) (tCB (rIsi K) (tCons te (tCons (tC (.ty T)) tNil))) (isiE g f) := by subst hK; exact de_isi kt hg hm hg2 hm2 hv2 h hn2 hd2 hs1 hpl
theorem kseq (K : PySem.W.Frag) {tg e : Expr} {f : EF} (h : DE X Er e te f) (hK : X.K = K := by rfl) : DI X Er tg e (iSeq K te) (seqI f) := by subst hK; exact di_seq h
theorem ktg (K : PySem.W.Frag) {es : List Expr} {k : Nat} {pos : Pos} (js : List Nat) (hc : X.calm = true) (h : PGs X es (gNames js)) (hn : (assignEach es X.env).length = js.length := by rfl) (hst : (assignEach es X.env).findIdx? (·.1) = none := by rfl) (hK : X.K = K := by rfl) :
    TG1 X (.Tuple es k pos) (gTup K js.length (gNames js)) (tgT js) js := by subst hK; exact tg_tup js hc h hn hst
theorem klist (K : PySem.W.Frag) {x : Str} {p pos : Pos} {e : Expr} {es : List Expr} {fa : AF} (hg : Gl X x) (hm : X.mg x = none) (hv : bootBuiltins x = some (.type "list")) (ha : DA X Er (e :: es) ta fa) (hn : x ≠ "__name__" := by decide) (hdb : (x == ("__debug__" : Str)) = false := by decide)
    (he : starEach (e :: es) X.env = (false, eval e X.env) :: starEach es X.env := by rfl) (hpl : (backTo pos (starEach es X.env)).any (·.1) = false := by rfl) (hK : X.K = K := by rfl) : DN X Er (.Call (.Name x p) (e :: es) [] pos) (tCB (rListX K) ta) (callN listN fa) := by subst hK; exact dn_list hg hm hv ha hn hdb he hpl
theorem kown (K : PySem.W.Frag) (mg : Str → Option Value) {CX : CXT} {k n : Nat} {f : Addr} {fd : FuncData} {ps : List Str} {g : List D → R D} {E : XK} {x : Str} {p pos : Pos} {e : Expr} {es : List Expr} {fa : AF}
    (F : FnOk X.prog X.w K mg X.base CX k f fd ps (spD K mg n g)) (hr : Room k X.A) (hg : Gl X x) (hm : mg x = some (.ref f)) (hk : PySem.W.keepIn K (.ref f) = true) (hb : Binds K fd ps []) (hx : Passes CX X E)
    (he : ∀ c H', Er c H' → erX mg E c H') (ha : DA X Er (e :: es) ta fa) (hn : ∀ ρ ds, fa ρ = .ok ds → ds.length = n)
    (hd : (x == ("__debug__" : Str)) = false := by decide) (hs : starEach (e :: es) X.env = (false, eval e X.env) :: starEach es X.env := by rfl) (hpl : (backTo pos (starEach es X.env)).any (·.1) = false := by rfl) (hK : X.K = K := by rfl) (hG : X.mg = mg := by rfl) :
    DE X Er (.Call (.Name x p) (e :: es) [] pos) (tCall (spD K mg n g) [] E ta) (ownE g fa) := by subst hK; subst hG; exact de_own F hr hg hm hk hb hx he (daq_of ha) hn hd hs hpl
theorem kownq (K : PySem.W.Frag) (mg : Str → Option Value) {CX : CXT} {k n : Nat} {f : Addr} {fd : FuncData} {ps : List Str} {g : List D → R D} {E : XK} {x : Str} {p pos : Pos} {e : Expr} {es : List Expr} {fa : AF}
    (F : FnOk X.prog X.w K mg X.base CX k f fd ps (spD K mg n g)) (hr : Room k X.A) (hg : Gl X x) (hm : mg x = some (.ref f)) (hk : PySem.W.keepIn K (.ref f) = true) (hb : Binds K fd ps []) (hx : Passes CX X E)
    (he : ∀ c H', Er c H' → erX mg E c H') (ha : DAq X Er (e :: es) ta fa) (hn : ∀ ρ ds, fa ρ = .ok ds → ds.length = n)
    (hd : (x == ("__debug__" : Str)) = false := by decide) (hs : starEach (e :: es) X.env = (false, eval e X.env) :: starEach es X.env := by rfl) (hpl : (backTo pos (starEach es X.env)).any (·.1) = false := by rfl) (hK : X.K = K := by rfl) (hG : X.mg = mg := by rfl) :
    DE X Er (.Call (.Name x p) (e :: es) [] pos) (tCall (spD K mg n g) [] E ta) (ownE g fa) := by subst hK; subst hG; exact de_own F hr hg hm hk hb hx he ha hn hd hs hpl
end
end DL
namespace DL
open PySem PySem.Spec L2
/-- a def of the module, as it stands behind the top -/
structure FnI (K : PySem.W.Frag) (mg : Str → Option Value) (x : Str) (st : Stmt) (ps : List Str) where
  f : Addr
  fd : FuncData
  F : Fun K x x st f fd
  m : mg x = some (.ref f)
  b : Binds K fd ps []
structure CoI (mg : Str → Option Value) (x : Str) (i : Int) where
  t : Tok
  h : mg x = some (.int i t)
structure CoS (mg : Str → Option Value) (x : Str) (i : Str) where
  t : Tok
  h : mg x = some (.str i t)
end DL

set_option maxHeartbeats 1000000
/-! DL6: enumerate, zip, range with a step. -/
namespace DL
open PySem PySem.Spec L2
open AutoSeq1 (wpAny_loadPart')
variable [Mem]
open PyProof.Rows hiding St
open RZ (ItzT iZipA pi_zipA)

/-! ### range(a, b, c) -/
def stepL (i c : Int) (n : Nat) : List D := (List.range n).map fun (k : Nat) => .int (i + (k : Int) * c)
def range3D : List D → Option (List D)
  | [.int i, .int j, .int c] => if 0 < c ∧ c < 1000000 ∧ -1000000 ≤ i ∧ i ≤ 1000000 ∧ -1000000 ≤ j ∧ j ≤ 1000000 then some (stepL i c (Builtin.Range.rangeSize i j c).toNat) else none
  | _ => none
theorem range3D_some {ds r : List D} (h : range3D ds = some r) : ∃ i j c, ds = [.int i, .int j, .int c] ∧ (0 < c ∧ c < 1000000 ∧ -1000000 ≤ i ∧ i ≤ 1000000 ∧ -1000000 ≤ j ∧ j ≤ 1000000) ∧ r = stepL i c (Builtin.Range.rangeSize i j c).toNat := by
  unfold range3D at h
  split at h
  · split at h <;> cases h
    rename_i i j c hn
    exact ⟨i, j, c, rfl, hn, rfl⟩
  · cases h
theorem rgC_of {i j c : Int} (h : 0 < c ∧ c < 1000000 ∧ -1000000 ≤ i ∧ i ≤ 1000000 ∧ -1000000 ≤ j ∧ j ≤ 1000000) : RgC i j c (Builtin.Range.rangeSize i j c).toNat := by
  obtain ⟨h1, h2, h3, h4, h5, h6⟩ := h
  have hs : 0 ≤ Builtin.Range.rangeSize i j c ∧ Builtin.Range.rangeSize i j c ≤ 2000001 := by
    unfold Builtin.Range.rangeSize
    rw [if_pos h1]
    split
    · have := Int.ediv_nonneg (show 0 ≤ j - i - 1 by omega) (Int.le_of_lt h1)
      have := Int.ediv_le_self c (show 0 ≤ j - i - 1 by omega)
      omega
    · omega
  refine ⟨by omega, by omega, ?_, by omega⟩
  unfold Builtin.Range.small Builtin.Range.rangeFitsLong
  generalize Builtin.Range.rangeSize i j c = z at hs
  have hc : c > 0 := h1
  simp only [Bool.and_eq_true, Bool.or_eq_true, decide_eq_true_eq, beq_iff_eq, if_pos hc]
  omega
theorem dit_step {K : PySem.W.Frag} {F0 : Hp} {i c : Int} {n : Nat} : DIt K (Itc i c n) F0 (stepL i c n) where
  go := fun k F H _ _ hk => by show k < n; simpa [stepL] using hk
  stop := fun F H _ _ => by show n ≤ _; simp [stepL]
  yld := fun k F H x H' d _ s2 hd y => by
    obtain ⟨rfl, rfl⟩ := y
    have hk : k < n := by
      have := (List.getElem?_eq_some_iff.mp hd).1
      simpa [stepL] using this
    simp only [stepL, List.getElem?_map, List.getElem?_range hk, Option.map_some, Option.some.injEq] at hd
    subst hd
    exact ⟨F, .refl s2, .int _⟩
section
variable {X : Cx} {Er : ErT} {te : TE} {ta : TA} {K : PySem.W.Frag}
theorem di_range3 {tg a b c : Expr} {p pos : Pos} {fa : AF} (hg : Gl X "range") (hm : X.mg "range" = none) (ha : DA X Er [a, b, c] ta fa) (hs : starEach [a, b, c] X.env = (false, eval a X.env) :: starEach [b, c] X.env := by rfl) (hpl : (backTo pos (starEach [b, c] X.env)).any (·.1) = false := by rfl) : DI X Er tg (.Call (.Name "range" p) [a, b, c] [] pos) (iRng3 ta) (rangeI range3D fa) := by
  refine ⟨pi_range3 hg hm ha.pe hs hpl, fun F H σ ρ R s st p => ?_⟩
  refine ha.rd F H σ ρ _ s st (Post.imp (Post.bind p) fun F1 H1 ds g1 p1 vs dvs => ?_)
  obtain ⟨r, e, p1⟩ := of_ok p1
  obtain ⟨i, j, c, rfl, h1, rfl⟩ := range3D_some e
  cases dvs with
  | cons z1 z2 =>
    cases z1
    cases z2 with
    | cons z2 z3 =>
      cases z2
      cases z3 with
      | cons z3 z4 =>
        cases z3
        cases z4
        exact ⟨i, j, c, _, rfl, rgC_of h1, Post.now p1 g1.fh _ dit_step⟩

/-! ### enumerate -/
def enumL (ds : List D) : List D := ds.zipIdx.map fun p => .tuple [.int (p.2 : Nat), p.1]
theorem enumL_get {ds : List D} {i : Nat} {d : D} (h : (enumL ds)[i]? = some d) : ∃ e, ds[i]? = some e ∧ d = .tuple [.int (i : Nat), e] := by
  unfold enumL at h
  rw [List.getElem?_map, List.getElem?_zipIdx] at h
  cases e : ds[i]? with
  | none => rw [e] at h; cases h
  | some x => rw [e] at h; cases h; exact ⟨x, rfl, by simp⟩
theorem enumL_len (ds : List D) : (enumL ds).length = ds.length := by simp [enumL]
theorem dit_enum {F0 : Hp} {a : Addr} {xs : List V} {ds : List D} (h1 : SqL K F0 a xs) (h2 : DpAll K F0 xs ds) : DIt K (Ite K a) F0 (enumL ds) where
  go := fun i F H s1 s2 hi => ⟨xs, xs[i]'(by rw [dpAll_len h2, ← enumL_len]; exact hi), same_seqL s2.s (same_seqL s1 h1), by simp⟩
  stop := fun F H s1 s2 => ⟨xs, same_seqL s2.s (same_seqL s1 h1), by rw [dpAll_len h2, enumL_len]; exact Nat.le_refl _⟩
  yld := fun i F H x H' d s1 s2 hd y => by
    obtain ⟨T, x', rfl, hT, rfl, y⟩ := y
    have e := y xs (same_seqL s2.s (same_seqL s1 h1))
    obtain ⟨d', hd', rfl⟩ := enumL_get hd
    obtain ⟨v, e1, e2⟩ := dpAll_get h2 hd'
    rw [e] at e1; cases e1
    exact ⟨_, Grow.new s2 hT, .tup (.inl (.inl upd_same)) (.cons (.int _) (.cons (dp_mono (Grow.new s2 hT).ff _ _ (dp_mono s1 _ _ e2)) .nil))⟩
/-- enumerate(tuple) -/
def IteT (K : PySem.W.Frag) (a : Addr) : It where
  go := fun i H => ∃ (xs : List V) (x : V), SqT K H a xs ∧ xs[i]? = some x
  yld := fun i H v H' => ∃ T x, v = .ref T ∧ H T = none ∧ H' = upd H T (.tup [.int (i : Nat), x]) ∧ ∀ xs, SqT K H a xs → xs[i]? = some x
  stop := fun i H => ∃ xs : List V, SqT K H a xs ∧ xs.length = i
theorem dit_enumT {F0 : Hp} {a : Addr} {xs : List V} {ds : List D} (h1 : SqT K F0 a xs) (h2 : DpAll K F0 xs ds) : DIt K (IteT K a) F0 (enumL ds) where
  go := fun i F H s1 s2 hi => ⟨xs, xs[i]'(by rw [dpAll_len h2, ← enumL_len]; exact hi), same_seqT s2.s (same_seqT s1 h1), by simp⟩
  stop := fun F H s1 s2 => ⟨xs, same_seqT s2.s (same_seqT s1 h1), by rw [dpAll_len h2, enumL_len]⟩
  yld := fun i F H x H' d s1 s2 hd y => by
    obtain ⟨T, x', rfl, hT, rfl, y⟩ := y
    have e := y xs (same_seqT s2.s (same_seqT s1 h1))
    obtain ⟨d', hd', rfl⟩ := enumL_get hd
    obtain ⟨v, e1, e2⟩ := dpAll_get h2 hd'
    rw [e] at e1; cases e1
    exact ⟨_, Grow.new s2 hT, .tup (.inl (.inl upd_same)) (.cons (.int _) (.cons (dp_mono (Grow.new s2 hT).ff _ _ (dp_mono s1 _ _ e2)) .nil))⟩
end
theorem meets_enumT (t : Addr) (items : Array Value) (n : Nat) (dct : Option Addr) (sl : Array (Option Value)) :
    Meets (Builtin.«enumerate.__new__» ⟨[.type "enumerate", .ref t], []⟩) (fun _ R s =>
      s.heap.get? t = some { cls := .type "tuple", dict := dct, data := .seq items n, slots := sl } ∧
      R (.ok (.ret (.ref (s.heap.push { cls := .type "tuple_iterator", data := .fields #[.ref t, .int 0 0] }).objs.size)))
        { s with heap := (s.heap.push { cls := .type "tuple_iterator", data := .fields #[.ref t, .int 0 0] }).push { cls := .type "enumerate", data := .fields #[.none, .bool false, .ref s.heap.objs.size, rawInt 0, .none, .none] } }) :=
  .of_wp fun prog w A R s h => by
    obtain ⟨hp, g, d, tk, os⟩ := s
    obtain ⟨ht, h⟩ := h
    have hsub := sub_enumerate
    have hT : Heap.IsTuple (Shared.heap ⟨hp, g, d, tk, os⟩) t items := ⟨_, ht, rfl, n, rfl⟩
    wp_walk using wpAny_loadPart' ht
    refine wpAny_stack_any fun st => wpAny_pure ?_
    split
    · rename_i c _ _ _ _ _
      cases (c == Value.type "enumerate") <;> (wp_walk using wpAny_loadPart' ht, wpAny_pyIter_tuple hT; exact ⟨_, rfl, h⟩)
    · wp_walk using wpAny_loadPart' ht, wpAny_pyIter_tuple hT
      exact ⟨_, rfl, h⟩
section
variable {prog : Program} {w : World} {A : Around} {E : Value → Shared → Prop} {s : Shared}
theorem call_enumT {t : Addr} {items : Array Value} {Q : Value → Shared → Prop} (hT : s.heap.IsTuple t items)
    (h : ∀ h', IsEnum h' (s.heap.objs.size + 1) s.heap.objs.size 0 .none → h'.IsTupleIter s.heap.objs.size t 0 → (∀ b o, s.heap.get? b = some o → h'.get? b = some o) → Q (.ref (s.heap.objs.size + 1)) { s with heap := h' }) :
    wpAny (model prog w) A (call (.type "enumerate") [.ref t]) Q E s := by
  obtain ⟨⟨c, dct, dt, sl⟩, ht, hc, n, hd⟩ := hT
  obtain rfl : c = .type "tuple" := hc
  obtain rfl : dt = .seq items n := hd
  refine callType_new F.called_enumerate (by decide) (F.typeCall_enumerate_1 _) (F.newCall_enumerate_1 _) (fun obj => F.args_object_init_2 obj _) F.entry_enumerate_new (meets_enumT t items n dct sl) ⟨ht, ?_⟩
  have hz : (s.heap.push { cls := .type "tuple_iterator", data := .fields #[.ref t, .int 0 0] }).objs.size = s.heap.objs.size + 1 := Heap.size_push ..
  have he : IsEnum ((s.heap.push { cls := .type "tuple_iterator", data := .fields #[.ref t, .int 0 0] }).push { cls := .type "enumerate", data := .fields #[.none, .bool false, .ref s.heap.objs.size, rawInt 0, .none, .none] }) (s.heap.objs.size + 1) s.heap.objs.size 0 .none := by
    have q := Heap.get?_push_size (s.heap.push { cls := .type "tuple_iterator", data := .fields #[.ref t, .int 0 0] }) (o := { cls := .type "enumerate", data := .fields #[.none, .bool false, .ref s.heap.objs.size, rawInt 0, .none, .none] }) rfl
    rw [hz] at q
    exact q
  show _ ∧ _
  rw [hz]
  exact ⟨⟨_, he, rfl⟩, h _ he ⟨_, Heap.get?_push_of_some _ (Heap.get?_push_size _ rfl), rfl, rfl⟩ fun b o x => Heap.get?_push_of_some _ (Heap.get?_push_of_some _ x)⟩
end
theorem turn_enumT {P : Program} {w : World} {K : PySem.W.Frag} {elts : List Expr} {kk : Nat} {tpos : Pos} (a e it : Addr) :
    Turn P w K (.Tuple elts kk tpos) (IteT K a) [e, it] e (fun i h => (∃ old, IsEnum h e it ((i : Nat) : Int) old) ∧ h.IsTupleIter it a i ∧ e ≠ it ∧ a ≠ it) where
  mem := by simp
  obj := fun i h st b hb => by
    obtain ⟨⟨old, he⟩, ⟨o, ho, hc, hd⟩, _⟩ := st
    rcases (show b = e ∨ b = it by simpa using hb) with rfl | rfl
    · exact ⟨_, he, fun v q => nomatch q⟩
    · exact ⟨o, ho, fun v q => by rw [hd] at q; cases q⟩
  keep := fun i h h' st k => by
    obtain ⟨⟨old, he⟩, hi, hne⟩ := st
    exact ⟨⟨old, k e (by simp) _ he⟩, hi.at fun o q => k it (by simp) o q, hne⟩
  item := by
    intro X hP hw hK hc i pins s σ H E I hf st hg
    subst hP hw hK
    obtain ⟨⟨old, he⟩, hit, hne, hai⟩ := st
    obtain ⟨xs, x, hq, hx⟩ := hg
    obtain ⟨its, rv, p, _⟩ := I.tuple hq
    obtain ⟨u, hu, ru⟩ := rv.get hx
    have lt1 : e < s.heap.objs.size := Heap.lt_size he
    have lt2 : it < s.heap.objs.size := let ⟨_, q, _⟩ := hit; Heap.lt_size q
    have hlt : i < its.toArray.size := by
      have := (List.getElem?_eq_some_iff.mp hu).1
      simpa using this
    refine wpAny_pyNext_enum_itemD (Draws.tuple (show X.A.in1.handled = none from I.ok.hd hc) it a hai its.toArray) he ⟨hit, p⟩ hlt hne (by simp [hne]; intro z; subst z; obtain ⟨o, q, c, _⟩ := p; rw [he] at q; cases q; exact absurd c (by simp)) fun x2 h' tk hP ho st' hT hsz hk => ?_
    have ex : x2 = u := by
      have q : its.toArray[i]? = some u := by simpa using hu
      rw [hP] at q
      exact Option.some.inj q
    subst ex
    refine ⟨_, rfl, wpAny_letOwnedTupleGo_enum (s := { s with heap := h', toks := tk + 1 }) ho fun h'' he' sb => ?_⟩
    have hT2 := (sb.2 _ (Nat.ne_of_gt lt1)).trans hT
    have new : ObjOk X.prog X.w (upd H s.heap.objs.size (.tup [.int (i : Nat), x])) h'' s.heap.objs.size (.tup [.int (i : Nat), x]) := by
      refine ⟨?_, [.int i tk, x2], .cons ⟨tk, rfl⟩ (.cons ru .nil), _, hT2, rfl, _, rfl⟩
      show 2 ≤ sizeLine
      decide
    have J := I.turnedNew (t' := tk + 1) (ch := [e, it]) (fun b ob hb q => (sb.2 b (fun z => hb (by simp [z]))).trans (hk b ob (fun z => hb (by simp [z])) (fun z => hb (by simp [z])) q)) hf (Nat.le_refl _) new
    refine ⟨.ref s.heap.objs.size, _, J, rfl, ⟨_, x, rfl, I.hok.fresh (Nat.le_refl _), rfl, fun ys hy => ?_⟩, ⟨⟨x2, ?_⟩, st'.1.at fun o q => (sb.2 it (Ne.symm hne)).trans q, hne, hai⟩, fun b hb => ?_⟩
    · rw [I.tuple_inj hy hq]
      exact hx
    · have e1 : ((i + 1 : Nat) : Int) = (i : Int) + 1 := by omega
      rw [e1]
      exact he'
    · have lt3 : b < s.heap.objs.size := by
        rcases (show b = e ∨ b = it by simpa using hb) with z | z
        · rw [z]; exact lt1
        · rw [z]; exact lt2
      rw [upd_ne (Nat.ne_of_lt lt3)]
      exact (hf b hb).1
  done := by
    intro X hP hw hK hc i pins s σ H E I hf st hg
    subst hP hw hK
    obtain ⟨⟨old, he⟩, hit, hne, hai⟩ := st
    obtain ⟨xs, hq, hx⟩ := hg
    obtain ⟨its, rv, p, _⟩ := I.tuple hq
    have hl := rv.length
    obtain ⟨f0, f1, f2, f3, f4, f5⟩ := hf it (by simp)
    have ei : i = its.toArray.size := by simp; omega
    exact wpAny_pyNext_enum_endD (Draws.tuple (show X.A.in1.handled = none from I.ok.hd hc) it a hai its.toArray) he (by rw [← ei]; exact ⟨hit, p⟩) fun h' eb => ⟨rfl, I.turned (t' := s.toks) (fun b o hb q => eb b o hb q) f0 f1 f3 f4 f5⟩
  self := fun A i s Q E st h => by
    obtain ⟨⟨_, he⟩, _⟩ := st
    exact wpAny_pyIter_enum he h
section
variable {X : Cx} {Er : ErT} {te : TE} {ta : TA} {K : PySem.W.Frag}
/-- enumerate of a list or a tuple -/
def iEnumA (K : PySem.W.Frag) (ta : TA) : TI := fun σ H R => ta σ H fun vs H1 => ∃ a, vs = [.ref a] ∧ (((∃ xs, SqL K H1 a xs) ∧ R (Ite K a) H1) ∨ ((∃ xs, SqT K H1 a xs) ∧ R (IteT K a) H1))
theorem pi_enumA {e : Expr} {p pos tpos : Pos} {elts : List Expr} {kk : Nat} (hg : Gl X "enumerate") (hm : X.mg "enumerate" = none) (ha : PA X [e] ta) (hs : starEach [e] X.env = [(false, eval e X.env)] := by rfl) :
    PI X (.Tuple elts kk tpos) (.Call (.Name "enumerate" p) [e] [] pos) (iEnumA X.K ta) := by
  refine ⟨fun pins s σ H R I h => ?_⟩
  refine Call_ (ld_blt I hg hm boot_enumerate (PyProof.Rows.callWith_type1 (thn (ha.run pos pins s σ H _ I h) fun us s1 hq => ?_) hs rfl))
  obtain ⟨vs, H1, I1, r1, a, rfl, q1⟩ := hq
  cases r1 with
  | cons r rr =>
    cases rr
    cases r
    have fresh2 : ∀ b ∈ [s1.heap.objs.size + 1, s1.heap.objs.size], FpOk X pins H1 b := fun b hb => by
      have hle : s1.heap.objs.size ≤ b := by
        rcases (show b = s1.heap.objs.size + 1 ∨ b = s1.heap.objs.size by simpa using hb) with z | z
        · rw [z]; exact Nat.le_add_right _ _
        · rw [z]; exact Nat.le_refl _
      exact I1.fpOk hle (I1.hok.fresh hle)
    rcases q1 with ⟨⟨xs, hq⟩, q⟩ | ⟨⟨xs, hq⟩, q⟩
    · obtain ⟨its, rv, pl, _⟩ := I1.list hq
      refine call_enumerate_list pl.isList fun h' he hit hsz hk => wpAny_pyIter_enum he ?_
      exact ⟨_, _, _, _, H1, rfl, I1.kept (h' := h') (t' := s1.toks) hk, turn_enum a (s1.heap.objs.size + 1) s1.heap.objs.size, ⟨⟨.none, he⟩, hit, Nat.succ_ne_self _⟩, fresh2, q⟩
    · obtain ⟨its, rv, pl, _⟩ := I1.tuple hq
      refine call_enumT (show s1.heap.IsTuple a its.toArray from pl) fun h' he hit hk => wpAny_pyIter_enum he ?_
      exact ⟨_, _, _, _, H1, rfl, I1.kept (h' := h') (t' := s1.toks) hk, turn_enumT a (s1.heap.objs.size + 1) s1.heap.objs.size, ⟨⟨.none, he⟩, hit, Nat.succ_ne_self _, Nat.ne_of_lt pl.lt⟩, fresh2, q⟩
def enumD : List D → Option (List D)
  | [.list xs] => some (enumL xs)
  | [.tuple xs] => some (enumL xs)
  | _ => none
theorem enumD_some {ds r : List D} (h : enumD ds = some r) : (∃ xs, ds = [.list xs] ∧ r = enumL xs) ∨ (∃ xs, ds = [.tuple xs] ∧ r = enumL xs) := by
  unfold enumD at h
  split at h
  · cases h; exact .inl ⟨_, rfl, rfl⟩
  · cases h; exact .inr ⟨_, rfl, rfl⟩
  · cases h
theorem di_enum {e : Expr} {p pos tpos : Pos} {elts : List Expr} {kk : Nat} {fa : AF} (hg : Gl X "enumerate") (hm : X.mg "enumerate" = none) (ha : DA X Er [e] ta fa) (hs : starEach [e] X.env = [(false, eval e X.env)] := by rfl) :
    DI X Er (.Tuple elts kk tpos) (.Call (.Name "enumerate" p) [e] [] pos) (iEnumA X.K ta) (rangeI enumD fa) := by
  refine ⟨pi_enumA hg hm ha.pe hs, fun F H σ ρ R s st p => ?_⟩
  refine ha.rd F H σ ρ _ s st (Post.imp (Post.bind p) fun F1 H1 ds g1 p1 vs dvs => ?_)
  obtain ⟨r, e, p1⟩ := of_ok p1
  rcases enumD_some e with ⟨xs, rfl, rfl⟩ | ⟨xs, rfl, rfl⟩
  · cases dvs with
    | cons z1 z2 =>
      cases z2
      cases z1 with
      | lst h1 h2 => exact ⟨_, rfl, .inl ⟨⟨_, same_seqL g1.fh.s h1⟩, Post.now p1 g1.fh _ (dit_enum h1 h2)⟩⟩
  · cases dvs with
    | cons z1 z2 =>
      cases z2
      cases z1 with
      | tup h1 h2 => exact ⟨_, rfl, .inr ⟨⟨_, same_seqT g1.fh.s h1⟩, Post.now p1 g1.fh _ (dit_enumT h1 h2)⟩⟩
/-! ### zip of two lists, of two tuples -/
def zipL (xs ys : List D) : List D := (xs.zip ys).map fun p => .tuple [p.1, p.2]
theorem zipL_get {xs ys : List D} {i : Nat} {d : D} (h : (zipL xs ys)[i]? = some d) : ∃ x y, xs[i]? = some x ∧ ys[i]? = some y ∧ d = .tuple [x, y] := by
  unfold zipL at h
  rw [List.getElem?_map] at h
  cases e : (xs.zip ys)[i]? with
  | none => rw [e] at h; cases h
  | some q =>
    rw [e] at h
    cases h
    obtain ⟨x, y⟩ := q
    obtain ⟨h1, h2⟩ := List.getElem?_zip_eq_some.mp e
    exact ⟨x, y, h1, h2, rfl⟩
theorem zipL_len (xs ys : List D) : (zipL xs ys).length = min xs.length ys.length := by simp [zipL]
theorem dit_zip {F0 : Hp} {a b : Addr} {xs ys : List V} {ds es : List D} (h1 : SqL K F0 a xs) (h2 : DpAll K F0 xs ds) (k1 : SqL K F0 b ys) (k2 : DpAll K F0 ys es) : DIt K (Itz K a b) F0 (zipL ds es) where
  go := fun i F H s1 s2 hi => by
    rw [zipL_len] at hi
    have l1 := dpAll_len h2
    have l2 := dpAll_len k2
    exact ⟨xs, ys, xs[i]'(by omega), ys[i]'(by omega), same_seqL s2.s (same_seqL s1 h1), same_seqL s2.s (same_seqL s1 k1), by simp, by simp⟩
  stop := fun F H s1 s2 => by
    have l1 := dpAll_len h2
    have l2 := dpAll_len k2
    refine ⟨xs, ys, same_seqL s2.s (same_seqL s1 h1), same_seqL s2.s (same_seqL s1 k1), ?_⟩
    rw [zipL_len]
    omega
  yld := fun i F H x H' d s1 s2 hd y => by
    obtain ⟨T, x', y', rfl, hT, rfl, y1, y2⟩ := y
    obtain ⟨d1, d2, e1, e2, rfl⟩ := zipL_get hd
    obtain ⟨v1, z1, w1⟩ := dpAll_get h2 e1
    obtain ⟨v2, z2, w2⟩ := dpAll_get k2 e2
    have q1 := y1 xs (same_seqL s2.s (same_seqL s1 h1))
    have q2 := y2 ys (same_seqL s2.s (same_seqL s1 k1))
    rw [z1] at q1; cases q1
    rw [z2] at q2; cases q2
    have st := same_trans s1 (Grow.new (o := .tup [x', y']) s2 hT).ff
    exact ⟨_, Grow.new s2 hT, .tup (.inl (.inl upd_same)) (.cons (dp_mono st _ _ w1) (.cons (dp_mono st _ _ w2) .nil))⟩
theorem dit_zipT {F0 : Hp} {a b : Addr} {xs ys : List V} {ds es : List D} (h1 : SqT K F0 a xs) (h2 : DpAll K F0 xs ds) (k1 : SqT K F0 b ys) (k2 : DpAll K F0 ys es) : DIt K (ItzT K a b) F0 (zipL ds es) where
  go := fun i F H s1 s2 hi => by
    rw [zipL_len] at hi
    have l1 := dpAll_len h2
    have l2 := dpAll_len k2
    exact ⟨xs, ys, xs[i]'(by omega), ys[i]'(by omega), same_seqT s2.s (same_seqT s1 h1), same_seqT s2.s (same_seqT s1 k1), by simp, by simp⟩
  stop := fun F H s1 s2 => by
    have l1 := dpAll_len h2
    have l2 := dpAll_len k2
    refine ⟨xs, ys, same_seqT s2.s (same_seqT s1 h1), same_seqT s2.s (same_seqT s1 k1), ?_⟩
    rw [zipL_len]
    omega
  yld := fun i F H x H' d s1 s2 hd y => by
    obtain ⟨T, x', y', rfl, hT, rfl, y1, y2⟩ := y
    obtain ⟨d1, d2, e1, e2, rfl⟩ := zipL_get hd
    obtain ⟨v1, z1, w1⟩ := dpAll_get h2 e1
    obtain ⟨v2, z2, w2⟩ := dpAll_get k2 e2
    have q1 := y1 xs (same_seqT s2.s (same_seqT s1 h1))
    have q2 := y2 ys (same_seqT s2.s (same_seqT s1 k1))
    rw [z1] at q1; cases q1
    rw [z2] at q2; cases q2
    have st := same_trans s1 (Grow.new (o := .tup [x', y']) s2 hT).ff
    exact ⟨_, Grow.new s2 hT, .tup (.inl (.inl upd_same)) (.cons (dp_mono st _ _ w1) (.cons (dp_mono st _ _ w2) .nil))⟩
def zipD : List D → Option (List D)
  | [.list xs, .list ys] => some (zipL xs ys)
  | [.tuple xs, .tuple ys] => some (zipL xs ys)
  | _ => none
theorem zipD_some {ds r : List D} (h : zipD ds = some r) : (∃ xs ys, ds = [.list xs, .list ys] ∧ r = zipL xs ys) ∨ (∃ xs ys, ds = [.tuple xs, .tuple ys] ∧ r = zipL xs ys) := by
  unfold zipD at h
  split at h
  · cases h; exact .inl ⟨_, _, rfl, rfl⟩
  · cases h; exact .inr ⟨_, _, rfl, rfl⟩
  · cases h
theorem di_zip {e e2 : Expr} {p pos tpos : Pos} {elts : List Expr} {kk : Nat} {fa : AF} (hg : Gl X "zip") (hm : X.mg "zip" = none) (ha : DA X Er [e, e2] ta fa)
    (hs : starEach [e, e2] X.env = (false, eval e X.env) :: starEach [e2] X.env := by rfl) (hpl : (backTo pos (starEach [e2] X.env)).any (·.1) = false := by rfl) :
    DI X Er (.Tuple elts kk tpos) (.Call (.Name "zip" p) [e, e2] [] pos) (iZipA X.K ta) (rangeI zipD fa) := by
  refine ⟨pi_zipA hg hm ha.pe hs hpl, fun F H σ ρ R s st p => ?_⟩
  refine ha.rd F H σ ρ _ s st (Post.imp (Post.bind p) fun F1 H1 ds g1 p1 vs dvs => ?_)
  obtain ⟨r, e, p1⟩ := of_ok p1
  rcases zipD_some e with ⟨xs, ys, rfl, rfl⟩ | ⟨xs, ys, rfl, rfl⟩
  · cases dvs with
    | cons z1 z2 =>
      cases z2 with
      | cons z2 z3 =>
        cases z3
        cases z1 with
        | lst h1 h2 =>
          cases z2 with
          | lst h3 h4 => exact ⟨_, _, _, _, rfl, .inl ⟨same_seqL g1.fh.s h1, same_seqL g1.fh.s h3, Post.now p1 g1.fh _ (dit_zip h1 h2 h3 h4)⟩⟩
  · cases dvs with
    | cons z1 z2 =>
      cases z2 with
      | cons z2 z3 =>
        cases z3
        cases z1 with
        | tup h1 h2 =>
          cases z2 with
          | tup h3 h4 => exact ⟨_, _, _, _, rfl, .inr ⟨same_seqT g1.fh.s h1, same_seqT g1.fh.s h3, Post.now p1 g1.fh _ (dit_zipT h1 h2 h3 h4)⟩⟩
/-! with the written part named -/
theorem kenum (K : PySem.W.Frag) {e : Expr} {p pos tpos : Pos} {elts : List Expr} {kk : Nat} {fa : AF} (hg : Gl X "enumerate") (hm : X.mg "enumerate" = none) (ha : DA X Er [e] ta fa) (hs : starEach [e] X.env = [(false, eval e X.env)] := by rfl) (hK : X.K = K := by rfl) :
    DI X Er (.Tuple elts kk tpos) (.Call (.Name "enumerate" p) [e] [] pos) (iEnumA K ta) (rangeI enumD fa) := by subst hK; exact di_enum hg hm ha hs
theorem kzip (K : PySem.W.Frag) {e e2 : Expr} {p pos tpos : Pos} {elts : List Expr} {kk : Nat} {fa : AF} (hg : Gl X "zip") (hm : X.mg "zip" = none) (ha : DA X Er [e, e2] ta fa)
    (hs : starEach [e, e2] X.env = (false, eval e X.env) :: starEach [e2] X.env := by rfl) (hpl : (backTo pos (starEach [e2] X.env)).any (·.1) = false := by rfl) (hK : X.K = K := by rfl) :
    DI X Er (.Tuple elts kk tpos) (.Call (.Name "zip" p) [e, e2] [] pos) (iZipA K ta) (rangeI zipD fa) := by subst hK; exact di_zip hg hm ha hs hpl
end
end DL

set_option maxHeartbeats 1000000
/-! DL7: int(), extend by a standing list, reversed slices, small built-ins. -/
namespace DL
open PySem PySem.Spec L2
open PyProof.Rows hiding St
variable [Mem]
open HT (slicePart_)

/-! ### int(x) of numbers and flags -/
def intC : List D → Option D
  | [.int i] => some (.int i)
  | [.bool b] => some (.int (if b then 1 else 0))
  | _ => none
def rInt1 : List V → Hp → VK → Prop := fun xs H Q => (∃ i, xs = [.int i] ∧ Q (.int i) H) ∨ ∃ k, xs = [.bl k] ∧ Q (.int (if k then 1 else 0)) H
theorem cg_int (K : PySem.W.Frag) : CallG K rInt1 intC := by
  intro F H vs ds d Q s h e k
  match ds, h, e with
  | [.int i], .cons (.int _) .nil, e => cases e; exact .inl ⟨i, rfl, k _ F H (.refl s) (.int _)⟩
  | [.bool b], .cons (.bl _) .nil, e => cases e; exact .inr ⟨b, rfl, k _ F H (.refl s) (.int _)⟩
/-! ### abs, min, max of two -/
def absD : List D → Option D
  | [.int i] => some (.int (if i < 0 then -i else i))
  | _ => none
def rAbs1 : List V → Hp → VK → Prop := fun xs H Q => ∃ i, xs = [.int i] ∧ Q (.int (if i < 0 then -i else i)) H
theorem cg_abs (K : PySem.W.Frag) : CallG K rAbs1 absD := by
  intro F H vs ds d Q s h e k
  match ds, h, e with
  | [.int i], .cons (.int _) .nil, e => cases e; exact ⟨i, rfl, k _ F H (.refl s) (.int _)⟩
def min2D : List D → Option D
  | [.int i, .int j] => some (.int (if j < i then j else i))
  | _ => none
def rMin2 : List V → Hp → VK → Prop := fun xs H Q => ∃ i j, xs = [.int i, .int j] ∧ Q (.int (if j < i then j else i)) H
theorem cg_min2 (K : PySem.W.Frag) : CallG K rMin2 min2D := by
  intro F H vs ds d Q s h e k
  match ds, h, e with
  | [.int i, .int j], .cons (.int _) (.cons (.int _) .nil), e => cases e; exact ⟨i, j, rfl, k _ F H (.refl s) (.int _)⟩
/-! min of a list of numbers -/
def minLD : List D → Option D
  | [.list ds] => match intsOf ds with
    | some (n :: ns) => some (.int (ns.foldl min n))
    | _ => none
  | _ => none
theorem foldl_min_le : ∀ (ns : List Int) (n : Int), ns.foldl min n ≤ n ∧ (∀ z ∈ ns, ns.foldl min n ≤ z) ∧ (ns.foldl min n = n ∨ ns.foldl min n ∈ ns)
  | [], n => ⟨Int.le_refl _, (fun _ h => nomatch h), .inl rfl⟩
  | m :: ns, n => by
    obtain ⟨h1, h2, h3⟩ := foldl_min_le ns (min n m)
    refine ⟨Int.le_trans h1 (Int.min_le_left _ _), fun z hz => ?_, ?_⟩
    · rcases List.mem_cons.mp hz with rfl | hz
      · exact Int.le_trans h1 (Int.min_le_right _ _)
      · exact h2 z hz
    · rw [List.foldl_cons]
      rcases h3 with h3 | h3
      · rw [h3]
        rcases Int.le_total n m with q | q
        · exact .inl (Int.min_eq_left q)
        · rw [Int.min_eq_right q]; exact .inr List.mem_cons_self
      · exact .inr (List.mem_cons_of_mem _ h3)

/-! ### xs.extend(ys), ys standing anywhere -/
theorem meets_ext (l : Addr) (items : Array Value) (n : Nat) (b : Addr) (items2 : Array Value) (n2 : Nat) (sl2 : Array (Option Value)) (hc0 : ¬(!items.isEmpty && Builtin.List.listTooLong (items.size + items2.size)) = true) (hc1 : items.size ≤ sizeLine) (hs2 : items.size + items2.size ≤ sizeLine + 1) :
    Meets (Builtin.«list.extend» ⟨[.ref l, .ref b], []⟩) (fun _ R s =>
      s.heap.get? l = some { cls := .type "list", dict := none, data := .seq items n, slots := #[] } ∧
      s.heap.get? b = some { cls := .type "list", dict := none, data := .seq items2 n2, slots := sl2 } ∧
      R (.ok (.ret Value.none)) { s with heap := s.heap.update l (Obj.mapSeq fun x => x ++ items2), toks := s.toks }) :=
  .of_wp fun prog w A R s h => by
    obtain ⟨hp, g, d, tk, os⟩ := s
    obtain ⟨hl, hb, h⟩ := h
    have f1 := AutoSeq1.idx_int
    have f2 := AutoSeq1.sub_tuple_tuple
    have f3 := AutoSeq1.sub_list_list
    have f4 := AutoSeq1.sub_tuple_list
    have f5 := AutoSeq1.sub_list_tuple
    have hz' : (items ++ items2).size ≤ sizeLine + 1 := by rw [Array.size_append]; exact hs2
    wp_walk using (wpAny_updateSeq hl rfl (hz := hc1) (_hz' := hz')), AutoSeq1.wpAny_loadPart' hl, AutoSeq1.wpAny_loadPart' hb
    exact ⟨_, rfl, h⟩
section
variable {X : Cx}
def rExtV (K : PySem.W.Frag) : V → List V → Hp → VK → Prop := fun x vs H Q => ∃ l b xs zs, x = .ref l ∧ vs = [.ref b] ∧ H l = some (.lst xs) ∧ SqL K H b zs ∧ xs.length + zs.length ≤ sizeLine ∧ Q .non (upd H l (.lst (xs ++ zs)))
theorem mt_extV : MtM X "list.extend" (rExtV X.K) := by
  intro pins s σ H x vs v us Q I rx rv h
  obtain ⟨l, b, xs, zs, rfl, rfl, hH, hB, hz, q⟩ := h
  cases rx
  obtain ⟨u, rfl, ru⟩ := rv.one
  cases ru
  obtain ⟨z, its, n, r, hl, e⟩ := I.lstM hH
  obtain ⟨its2, r2, ⟨⟨c2, d2, dt2, sl2⟩, n2, e2, hc2, hd2, hdt2⟩, hl2⟩ := I.list hB
  obtain rfl : c2 = .type "list" := hc2
  obtain rfl : d2 = none := hd2
  obtain rfl : dt2 = .seq its2.toArray n2 := hdt2
  have q1 := r2.length
  have hsz : its.toArray.size + its2.toArray.size ≤ sizeLine := by rw [List.size_toArray, List.size_toArray]; omega
  have hlong : ¬ (!its.toArray.isEmpty && Builtin.List.listTooLong (its.toArray.size + its2.toArray.size)) = true := by
    rw [notLongL hsz, Bool.and_false]
    exact Bool.false_ne_true
  refine call_meets PySem.F.slot_list_extend ⟨_, e, rfl⟩ PySem.F.entry_list_extend (PySem.F.args_list_extend_2 _ _) (meets_ext l its.toArray n b its2.toArray n2 sl2 hlong (by rw [List.size_toArray]; omega) (by omega)) ⟨e, e2, ?_⟩
  refine ⟨.non, _, I.lset (its' := its ++ its2) hH e (by simp) (r.append r2) ?_, rfl, q⟩
  simp only [List.length_append]
  omega
end
def extV (w : List Sh) (i : Nat) (f : EF) : SF := fun ρ => lsAt ρ i fun ds => runR (f (hidA w ρ)) ρ fun d => match d with
  | .list es => if ds.length + es.length ≤ 1000000 then .nx (ρ.set i (some (.list (ds ++ es)))) else .bad
  | _ => .bad
section
variable {X : Cx} {Er : ErT} {s0 : Sh} {wl w : List Sh} {te : TE} {K : PySem.W.Frag} {pos : Pos}
theorem d_extV {i : Nat} {x : Str} {e : Expr} {p1 p2 p3 : Pos} {fe : EF} (hi : sh w i = .ls) (hN : X.N[i]? = some x) (hv : Vis X.env.scope x) (h : DE X Er e te fe) (hps : PS X (.Expr (.Call (.Attribute (.Name x p1) "extend" p2) [e] [] p3) pos) (tDrop (tBM X.K "list" (rExtV X.K) (tVar i) (tCons te tNil)))) (hw : sh w 0 = s0 := by rfl) :
    D1 X Er s0 wl w (.Expr (.Call (.Attribute (.Name x p1) "extend" p2) [e] [] p3) pos) w (tDrop (tBM X.K "list" (rExtV X.K) (tVar i) (tCons te tNil))) (extV w i fe) := by
  refine ⟨hps, fun fr F H σ ρ Dn st p => ?_⟩
  obtain ⟨a, vs, ds, e1, q1, q2, q3, q4, p⟩ := lsAt_post hi st p
  refine ⟨_, q1, .inl ⟨rfl, _, SqL.of q2⟩, runA (te := te) hw h.rd st p fun d v F1 H1 s1 st1 dv p1 => ?_⟩
  obtain ⟨vs1, z1, z2, z3⟩ := ls_again hi st1 e1 q1
  cases dv with
  | lst h1 h2 =>
    rename_i b us es
    by_cases hl : ds.length + es.length ≤ 1000000
    · simp only [if_pos hl] at p1
      refine ⟨a, b, vs1, us, rfl, rfl, z1, same_seqL st1.fh.s h1, sz_of (by rw [dpAll_len z2, dpAll_len h2]; exact hl), ?_⟩
      exact p1 _ F1 _ (same_refl _) (z3 _ _ (dpAll_app z2 h2))
    · simp only [if_neg hl] at p1
      exact p1.elim
  | _ => exact p1.elim
theorem s_extV (i : Nat) {x : Str} {e : Expr} {p1 p2 p3 : Pos} {fe : EF} (h : DE X Er e te fe) (hi : sh w i = .ls := by rfl) (hN : X.N[i]? = some x := by rfl) (hv : Vis X.env.scope x := by first | exact Or.inl rfl | exact Or.inr (Or.inl rfl) | exact Or.inr (Or.inr rfl)) (hw : sh w 0 = s0 := by rfl)
    (hs : swapsWith (.Call (.Attribute (.Name x p1) "extend" p2) [e] [] p3) none pos.line X.env = pure false := by rfl) (hbase : attributeBase (.Name x p1) "extend" X.env (eval (.Name x p1) X.env) = eval (.Name x p1) X.env := by rfl)
    (hfew : ((backTo p3 (starEach [e] X.env)).all (fun x => !x.1) && (backToKw p3 (keywordEach [] X.env)).all (fun x => x.1.isSome) && decide ([e].length + ([] : List Keyword).length + (if ([] : List Keyword).isEmpty then 0 else 1) < 30)) = true := by rfl)
    (hline : (p2.endLine == p3.line) = true := by rfl) (hst : starEach [e] X.env = (false, eval e X.env) :: starEach [] X.env := by rfl) (hplain : (backTo p3 (starEach [] X.env)).any (·.1) = false := by rfl)
    (hd : (x == ("__debug__" : Str)) = false := by decide) (hcd : (x == ("__classdict__" : Str)) = false := by decide) :
    D1 X Er s0 wl w (.Expr (.Call (.Attribute (.Name x p1) "extend" p2) [e] [] p3) pos) w (tDrop (tBM X.K "list" (rExtV X.K) (tVar i) (tCons te tNil))) (extV w i fe) :=
  d_extV hi hN hv h (ps_expr (pe_bm PySem.F.plainAttrs_list PySem.F.slot_list_extend PySem.F.type_list_extend mt_extV (pe_var hN hv hd hcd) (pa_cons h.pe pa_nil hst) hbase hfew hline hst hplain) hs) hw
end

/-! ### xs[::-1], t[::-1] -/
section
variable {prog : Program} {w : World} {A : Around} {E : Value → Shared → Prop} {s : Shared}
theorem adjust_neg (n : Nat) : Builtin.Slice.sliceAdjust none none (-1) (n : Int) = ((n : Int) - 1, -1) := rfl
theorem places_neg (n : Nat) : Builtin.Slice.slicePlaces ((n : Int) - 1) (-1) (-1) = n := by
  unfold Builtin.Slice.slicePlaces
  rw [if_neg (by decide)]
  have e : (-(-1 : Int)) = 1 := by decide
  rw [e, Int.ediv_one]
  split <;> omega
theorem sliceApplied_neg {sl : Addr} {vl vu vs : Value} {n : Nat} {Q : Int × Int × Nat → Shared → Prop} (hs : s.heap.IsSliceOf sl vl vu vs) (pl : IsPart vl none) (pu : IsPart vu none) (ps : IsPart vs (some (-1)))
    (h : Q ((n : Int) - 1, -1, n) s) : wpAny (model prog w) A (Builtin.Slice.sliceApplied (.ref sl) (pure (n : Int))) Q E s := by
  obtain ⟨os, hos, hcs, hds⟩ := id hs
  unfold Builtin.Slice.sliceApplied Builtin.Slice.sliceFields
  refine wpAny_bind (wpAny_bind (wpAny_field hos hds (x := vl) rfl (wpAny_bind (wpAny_field hos hds (x := vu) rfl (wpAny_bind (wpAny_field hos hds (x := vs) rfl (wpAny_pure ?_)))))))
  refine wpAny_bind (slicePart_ ps ?_)
  show wpAny _ _ (if ((-1 : Int) == 0) = true then _ else _) _ _ s
  rw [if_neg (by decide)]
  refine wpAny_bind (slicePart_ pl (wpAny_bind (slicePart_ pu (wpAny_bind (wpAny_pure ?_)))))
  show wpAny _ _ (match Builtin.Slice.sliceAdjust none none (-1) (n : Int) with | (lo, hi) => pure (lo, (-1 : Int), Builtin.Slice.slicePlaces lo hi (-1))) _ _ s
  rw [adjust_neg n]
  show wpAny _ _ (pure ((n : Int) - 1, (-1 : Int), Builtin.Slice.slicePlaces ((n : Int) - 1) (-1) (-1))) _ _ s
  rw [places_neg]
  exact wpAny_pure h
theorem fm_all {α : Type} : ∀ l : List α, (List.range l.length).filterMap (fun m => l[m]?) = l
  | [] => rfl
  | x :: l => by
    rw [List.length_cons, List.range_succ_eq_map, List.filterMap_cons]
    simp only [List.getElem?_cons_zero, List.filterMap_map]
    congr 1
    exact fm_all l
theorem fm_congr {α β : Type} {f g : α → Option β} : ∀ {l : List α}, (∀ x ∈ l, f x = g x) → l.filterMap f = l.filterMap g
  | [], _ => rfl
  | x :: l, h => by
    rw [List.filterMap_cons, List.filterMap_cons, h x List.mem_cons_self, fm_congr fun y hy => h y (List.mem_cons_of_mem _ hy)]
theorem pick_neg (xs : Array Value) : ((List.range xs.size).filterMap fun (m : Nat) => xs[((xs.size : Int) - 1 + (m : Int) * (-1)).toNat]?).toArray = xs.toList.reverse.toArray := by
  congr 1
  have e : ∀ m ∈ List.range xs.size, xs[((xs.size : Int) - 1 + (m : Int) * (-1)).toNat]? = xs.toList.reverse[m]? := fun m hm => by
    have hm := List.mem_range.mp hm
    rw [List.getElem?_reverse (by simpa using hm), Array.getElem?_toList, Array.length_toList]
    congr 1
    omega
  rw [fm_congr e]
  have := fm_all xs.toList.reverse
  rw [List.length_reverse, Array.length_toList] at this
  exact this
theorem getItem_tuple_rev {t sl : Addr} {items : Array Value} {vl vu vs : Value} {Q : Value → Shared → Prop} (ht : IsTup s.heap t items) (hs : s.heap.IsSliceOf sl vl vu vs) (pl : IsPart vl none) (pu : IsPart vu none) (ps : IsPart vs (some (-1)))
    (h : Q (.ref s.heap.objs.size) { s with heap := s.heap.push { cls := .type "tuple", data := .seq items.toList.reverse.toArray } })
    (hsz : items.size ≤ sizeLine) : wpAny (model prog w) A (getItem (.ref t) (.ref sl)) Q E s := by
  have htake : sizeOk (.seq items.toList.reverse.toArray) := by
    show items.toList.reverse.toArray.size ≤ sizeLine
    rw [List.size_toArray, List.length_reverse, Array.length_toList]
    exact hsz
  obtain ⟨os, hos, hcs, hds⟩ := id hs
  have hTs : s.TypeIs (.ref sl) "slice" := ⟨os, hos, hcs⟩
  unfold getItem
  try with_reducible refine wpAny_holding ?_
  first | refine wpAny_bind (wpAny_pure ?_) | skip
  refine wpAny_bind (wpAny_sequenceKey ht.typeIs (by decide) ?_)
  refine wpAny_bind (wpAny_callSpecial?_slot (name := Str.ofString "__getitem__") ht.typeIs PyProof.Rows.slot_tuple_getitem
    (wpAny_call_entry PyProof.Rows.slot_tuple_getitem ht.typeIs entry_tuple_getitem ?_ (args_tuple_getitem _ _)))
  show wpAny _ _ (Builtin.Tuple.tupleItemsOf (.ref t) >>= _) _ _ s
  refine wpAny_bind (tupleItemsOf_ ht ?_)
  refine wpAny_bind (wpAny_typeOf hTs ?_)
  rw [if_pos (by decide)]
  refine wpAny_bind (sliceApplied_neg hs pl pu ps ?_)
  have hno : ¬ (((items.size : Int) - 1 == 0 && (-1 : Int) == 1 && items.size == items.size) = true) := by
    intro q
    rw [Bool.and_eq_true, Bool.and_eq_true] at q
    exact absurd q.1.2 (by decide)
  show wpAny _ _ (if ((items.size : Int) - 1 == 0 && (-1 : Int) == 1 && items.size == items.size) = true then _ else _) _ _ s
  rw [if_neg hno, pick_neg]
  first
    | exact wpAny_bind (m := Builtin.Tuple.tupleExact _) (wpAny_newObj_type (wpAny_pure ⟨_, rfl, wpAny_pure h⟩) htake)
    | exact wpAny_bind (m := Builtin.Tuple.tupleExact _) (wpAny_newObj_type (wpAny_bind (wpAny_pure (wpAny_pure ⟨_, rfl, wpAny_pure h⟩))) htake)
    | exact wpAny_bind (wpAny_bind (m := Builtin.Tuple.tupleExact _) (wpAny_newObj_type (wpAny_pure (wpAny_pure ⟨_, rfl, wpAny_pure h⟩)) htake))
    | exact wpAny_bind (wpAny_bind (m := Builtin.Tuple.tupleExact _) (wpAny_newObj_type (wpAny_pure ⟨_, rfl, wpAny_pure h⟩) htake))
end
section
variable {X : Cx} {Er : ErT} {te : TE} {K : PySem.W.Frag}
/-- a list or a tuple turned about -/
def tRevA (K : PySem.W.Frag) (te : TE) : TE := fun σ H Q => te σ H fun x H1 => ∃ a xs, x = .ref a ∧ ((SqL K H1 a xs ∧ ∀ p, H1 p = none → Q (.ref p) (upd H1 p (.lst xs.reverse))) ∨ (SqT K H1 a xs ∧ ∀ p, H1 p = none → Q (.ref p) (upd H1 p (.tup xs.reverse))))
theorem pe_revA {e : Expr} {k : Nat} {p1 p2 p3 pos : Pos} (he : PE X e te) : PE X (.Subscript e (.Slice none none (some (.UnaryOp .USub (.Constant (.int 1) k p1) p2)) p3) pos) (tRevA X.K te) := by
  refine ⟨fun pins s σ H Q I h => ?_⟩
  refine Subscript_ (thn (he.run pins s σ H _ I h) fun v s1 ⟨x, H1, I1, r1, q1⟩ => ?_)
  obtain ⟨a, xs, ex, q⟩ := q1
  subst ex
  cases r1
  have hst : PO X (some (.UnaryOp .USub (.Constant (.int 1) k p1) p2)) (tPart (tUn (rU fun i => .int (-i)) (tC (.int 1)))) := po_some (pe_un un_neg pe_int)
  refine wpAny_Slice (thn (po_none.run pins s1 σ H1 (fun o H2 => o = none ∧ H2 = H1) I1 ⟨rfl, rfl⟩) fun vl s2 ⟨l, H2, I2, pl, el, e2⟩ => ?_)
  subst el e2
  refine thn (po_none.run pins s2 σ H2 (fun o H3 => o = none ∧ H3 = H2) I2 ⟨rfl, rfl⟩) fun vu s3 ⟨u, H3, I3, pu, eu, e3⟩ => ?_
  subst eu e3
  refine thn (hst.run pins s3 σ H3 (fun o H4 => o = some (-1) ∧ H4 = H3) I3 ⟨1, rfl, -1, rfl, rfl, rfl⟩) fun vs s4 ⟨o, H4, I4, ps, eo, e4⟩ => ?_
  subst eo e4
  have I5 : Inv X pins σ H4 { s4 with heap := s4.heap.push { cls := .type "slice", data := .fields #[vl, vu, vs] } } := I4.kept (t' := s4.toks) fun b ob q => Heap.get?_push_of_some _ q
  show wpAny (model X.prog X.w) X.A (subscriptTail e (.Slice none none (some (.UnaryOp .USub (.Constant (.int 1) k p1) p2)) p3) (.ref a) (.ref s4.heap.objs.size)) (EP X pins σ Q) X.xe { s4 with heap := s4.heap.push { cls := .type "slice", data := .fields #[vl, vu, vs] } }
  rcases q with ⟨hx, q⟩ | ⟨hx, q⟩
  · obtain ⟨its, r, ht, hz⟩ := I5.list hx
    have hlen := r.length
    refine tail_any (ops := [.ref a, .ref s4.heap.objs.size]) ht.isList.typeIs (PySem.slot_list_getitem.lookup) ?_ (by with_unfolding_all rfl)
    refine wpAny_getItem_list_slice ht.isList (Heap.IsSliceOf.new _ vl vu vs) pl pu ps (by decide) ?_ (by rw [List.size_toArray]; omega)
    rw [PySem.W.krv_pick]
    refine ⟨.ref _, _, I5.laid (t' := s4.toks) (o := .lst xs.reverse) (fun b ob q => Heap.get?_push_of_some _ q) (Nat.le_refl _) ?_, rfl, q _ (I5.hok.fresh (Nat.le_refl _))⟩
    exact ⟨by rw [List.length_reverse]; exact hz, _, 0, r.reverse, Heap.get?_push_size _ rfl⟩
  · obtain ⟨its, r, ht, hz⟩ := I5.tuple hx
    have hlen := r.length
    refine tail_any (ops := [.ref a, .ref s4.heap.objs.size]) ht.typeIs (PyProof.Rows.slot_tuple_getitem.lookup) ?_ (by with_unfolding_all rfl)
    refine getItem_tuple_rev ht (Heap.IsSliceOf.new _ vl vu vs) pl pu ps ?_ (by rw [List.size_toArray]; omega)
    refine ⟨.ref _, _, I5.laid (t' := s4.toks) (o := .tup xs.reverse) (fun b ob q => Heap.get?_push_of_some _ q) (Nat.le_refl _) ?_, rfl, q _ (I5.hok.fresh (Nat.le_refl _))⟩
    exact ⟨by rw [List.length_reverse]; exact hz, _, r.reverse, IsTup.new _ _⟩
def revD : D → Option D
  | .list xs => some (.list xs.reverse)
  | .tuple xs => some (.tuple xs.reverse)
  | _ => none
theorem de_rev {e : Expr} {k : Nat} {p1 p2 p3 pos : Pos} {f : EF} (h : DE X Er e te f) : DE X Er (.Subscript e (.Slice none none (some (.UnaryOp .USub (.Constant (.int 1) k p1) p2)) p3) pos) (tRevA X.K te) (op1E revD f) := by
  refine ⟨pe_revA h.pe, fun F H σ ρ Q s st p => ?_⟩
  refine h.rd F H σ ρ _ s st (Post.imp (Post.bind p) fun F1 H1 d g1 p1 v dv => ?_)
  unfold oE at p1
  cases dv with
  | lst h1 h2 =>
    refine ⟨_, _, rfl, .inl ⟨same_seqL g1.fh.s h1, fun p hp => ?_⟩⟩
    exact Post.done p1 (Grow.new g1.fh hp) _ (.lst (.inl (.inl upd_same)) (dpAll_mono (Grow.new g1.fh hp).ff _ _ (dpAll_rev h2)))
  | tup h1 h2 =>
    refine ⟨_, _, rfl, .inr ⟨same_seqT g1.fh.s h1, fun p hp => ?_⟩⟩
    exact Post.done p1 (Grow.new g1.fh hp) _ (.tup (.inl (.inl upd_same)) (dpAll_mono (Grow.new g1.fh hp).ff _ _ (dpAll_rev h2)))
  | _ => exact p1.elim
theorem krev (K : PySem.W.Frag) {e : Expr} {k : Nat} {p1 p2 p3 pos : Pos} {f : EF} (h : DE X Er e te f) (hK : X.K = K := by rfl) : DE X Er (.Subscript e (.Slice none none (some (.UnaryOp .USub (.Constant (.int 1) k p1) p2)) p3) pos) (tRevA K te) (op1E revD f) := by subst hK; exact de_rev h
theorem kint (K : PySem.W.Frag) : CallR X (.type "int") rInt1 := call_int1
theorem kabs (K : PySem.W.Frag) : CallR X (.builtin "abs") rAbs1 := call_abs
theorem kmin2 (K : PySem.W.Frag) (hc : X.calm = true := by rfl) : CallR X (.builtin "min") rMin2 := call_min2 hc
end
end DL

set_option maxHeartbeats 1000000
/-! DL8: own exceptions raised. -/
namespace DL
open PySem PySem.Spec L2
open PyProof.Rows hiding St
variable [Mem]
/-- a class over ValueError (at any distance), as it stands behind the top -/
structure ExI (K : PySem.W.Frag) (mg : Str → Option Value) (x : Str) where
  C : Addr
  g : mg x = some (.ref C)
  q : PySem.W.excIn K C [.type "ValueError", .type "Exception", .type "BaseException", .type "object"] "ValueError.__new__" = true
  k : PySem.W.keepIn K (.ref C) = true
  b : PySem.W.subIn K (.ref C) (.type "BaseException") = some true
  t : PySem.W.typeIn K (.ref C) = some (.type "type")
section
variable {X : Cx} {K : PySem.W.Frag} {mg : Str → Option Value} {x m : Str} {j : Nat} {p p2 pos : Pos}
theorem ExI.mk' (T : ExI K mg x) (hg : Gl X x) (hK : X.K = K := by rfl) (hG : X.mg = mg := by rfl) (hdb : (x == ("__debug__" : Str)) = false := by decide) :
    PMk X (.Call (.Name x p) [.Constant (.str m) j p2] [] pos) (fun _ H Q => Q (.ref T.C) none H) := by
  subst hK
  subst hG
  exact pmk_own PySem.F.excBase_ValueError T.q T.g T.k (raises_own T.b T.t) hg hdb
end
end DL

set_option maxHeartbeats 1000000
/-! DL9: dicts of whole numbers: grown by a tally, then read. -/
namespace DL
open PySem PySem.Spec L2
open PyProof.Rows hiding St
variable [Mem]
def dcO : Own := ⟨fun _ v _ o d => ∃ (a : Addr) (kvs : List (Int × Int)), v = .ref a ∧ d = IntDic kvs ∧ o = upd emp a (kvO kvs), fun h _ => h⟩
section
variable {K : PySem.W.Frag} {fr : Fr} {w : List Sh} {F H F' H' : Hp} {σ : St} {ρ : Env}
theorem SR.set_dc {i : Nat} {p : Addr} {kvs : List (Int × Int)} (h : SR K fr w F H σ ρ) (hp : H p = none) (hi : i < w.length) : SR K fr (w.set i (.ob dcO)) F (upd H p (kvO kvs)) (σ.set i (some (.ref p))) (ρ.set i (some (IntDic kvs))) := by
  obtain ⟨os, s⟩ := h
  have nH : ∀ {A : Hp}, Same A H → A p = none := fun {A} sa => none_of_same sa hp
  have sH : Same H (upd H p (kvO kvs)) := same_upd hp
  refine ⟨fun j => if j = i then upd emp p (kvO kvs) else os j, s.fh.upd hp, sameM_trans s.gh (sameM_of sH), s.f0, s.nw, fun j => ?_, fun j a h1 => ?_, fun j e q => ?_, by simpa using s.len, fun j a h1 => by
    by_cases hj : j = i
    · rw [if_pos hj] at h1
      have ha : a = p := by
        by_cases ha : a = p
        · exact ha
        · rw [upd_ne ha] at h1; exact absurd rfl h1
      subst ha
      exact s.fh.no hp
    · rw [if_neg hj] at h1; exact s.om j a h1⟩
  · by_cases hj : j = i
    · rw [if_pos hj]
      intro a o z
      by_cases ha : a = p
      · subst ha; rw [upd_same] at z ⊢; exact z
      · rw [upd_ne ha] at z; cases z
    · rw [if_neg hj]; exact same_trans (s.oh j) sH
  · by_cases hj : j = i
    · rw [if_pos hj] at h1
      have ha : a = p := by
        by_cases ha : a = p
        · exact ha
        · rw [upd_ne ha] at h1; exact absurd rfl h1
      subst ha
      refine ⟨nH s.fh.s, none_of_sameM s.gh s.fh hp, fun k hk => ?_⟩
      rw [if_neg (fun z => hk (z.trans hj.symm))]
      exact nH (s.oh k)
    · rw [if_neg hj] at h1
      obtain ⟨q1, q2, q3⟩ := s.ow j a h1
      refine ⟨q1, q2, fun k hk => ?_⟩
      by_cases hki : k = i
      · rw [if_pos hki]
        have ha : a ≠ p := fun z => h1 (by rw [z]; exact nH (s.oh j))
        rw [upd_ne ha]; rfl
      · rw [if_neg hki]; exact q3 k hk
  · rcases env_set q with ⟨rfl, rfl, hv⟩ | ⟨ne, q⟩
    · refine ⟨.ref p, by rw [List.getElem?_set_self (by rw [← s.len]; exact hv)], ?_⟩
      rw [sh_set_self hi, if_pos rfl]
      exact ⟨p, kvs, rfl, rfl, rfl⟩
    · rw [List.getElem?_set_ne ne, sh_set_ne ne, if_neg (Ne.symm ne)]
      exact s.sl j e q
/-- the dict that slot i owns -/
theorem SR.get_dc {i : Nat} {d : D} (h : SR K fr w F H σ ρ) (hw : sh w i = .ob dcO) (e : ρ[i]? = some (some d)) : ∃ a kvs, σ[i]? = some (some (.ref a)) ∧ d = IntDic kvs ∧ H a = some (kvO kvs) ∧
    (∀ kvs', SR K fr w F (upd H a (kvO kvs')) σ (ρ.set i (some (IntDic kvs')))) ∧ SR K fr (w.set i .fz) (upd F a (kvO kvs)) H σ ρ ∧ Same F (upd F a (kvO kvs)) := by
  obtain ⟨os, s⟩ := h
  obtain ⟨v, e1, hh⟩ := s.sl i d e
  rw [hw] at hh
  obtain ⟨a, kvs, rfl, rfl, eo⟩ := hh
  have ho : os i a = some (kvO kvs) := by rw [eo, upd_same]
  have hH : H a = some (kvO kvs) := s.oh i a _ ho
  obtain ⟨na, ng, no⟩ := s.ow i a (by rw [ho]; simp)
  have nM : ¬ Mem.is a := s.om i a (by rw [ho]; simp)
  have nMb : ∀ b, Mem.is b → b ≠ a := fun b z h => nM (h ▸ z)
  have hil : i < ρ.length := by
    rcases Nat.lt_or_ge i ρ.length with z | z
    · exact z
    · rw [List.getElem?_eq_none z] at e; cases e
  refine ⟨a, kvs, e1, rfl, hH, fun kvs' => ?_, ?_, same_upd na⟩
  · have up : ∀ {A : Hp}, Same A H → A a = none → Same A (upd H a (kvO kvs')) := fun {A} sa n b o z => by
      rw [upd_ne (ne_of_none z n)]; exact sa b o z
    refine ⟨fun j => if j = i then upd emp a (kvO kvs') else os j, ⟨up s.fh.s na, fun b z => by
      obtain ⟨e1, u, e2, e3⟩ := s.fh.m b z
      exact ⟨e1, u, by rw [upd_ne (nMb b z)]; exact e2, e3⟩⟩, fun b o nb z => by rw [upd_ne (ne_of_none z ng)]; exact s.gh b o nb z, s.f0, s.nw, fun j => ?_, fun j b h1 => ?_, fun j e' q => ?_, by simpa using s.len, fun j b h1 => by
      by_cases hj : j = i
      · rw [if_pos hj] at h1
        have hb : b = a := by
          by_cases hb : b = a
          · exact hb
          · rw [upd_ne hb] at h1; exact absurd rfl h1
        subst hb
        exact nM
      · rw [if_neg hj] at h1; exact s.om j b h1⟩
    · by_cases hj : j = i
      · rw [if_pos hj]
        intro b o z
        by_cases hb : b = a
        · subst hb; rw [upd_same] at z ⊢; exact z
        · rw [upd_ne hb] at z; cases z
      · rw [if_neg hj]; exact up (s.oh j) (no j hj)
    · by_cases hj : j = i
      · rw [if_pos hj] at h1
        have hb : b = a := by
          by_cases hb : b = a
          · exact hb
          · rw [upd_ne hb] at h1; exact absurd rfl h1
        subst hb
        exact ⟨na, ng, fun k hk => by rw [if_neg (fun z => hk (z.trans hj.symm))]; exact no k (fun z => hk (z.trans hj.symm))⟩
      · rw [if_neg hj] at h1
        obtain ⟨q1, q2, q3⟩ := s.ow j b h1
        refine ⟨q1, q2, fun k hk => ?_⟩
        by_cases hki : k = i
        · rw [if_pos hki]
          have hb : b ≠ a := fun z => h1 (by rw [z]; exact no j hj)
          rw [upd_ne hb]; rfl
        · rw [if_neg hki]; exact q3 k hk
    · rcases env_set q with ⟨rfl, rfl, hv⟩ | ⟨ne, q⟩
      · refine ⟨.ref a, e1, ?_⟩
        rw [hw, if_pos rfl]
        exact ⟨a, kvs', rfl, rfl, rfl⟩
      · rw [if_neg (Ne.symm ne)]
        exact s.sl j e' q
  · have sF : Same F (upd F a (kvO kvs)) := same_upd na
    refine ⟨fun j => if j = i then emp else os j, ⟨?_, fun b z => by
      obtain ⟨e1, u, e2, e3⟩ := s.fh.m b z
      exact ⟨by rw [upd_ne (nMb b z)]; exact e1, u, e2, Mem.mono e3 sF⟩⟩, s.gh, same_trans s.f0 sF, fun b h1 h2 => ?_, fun j => ?_, fun j b h1 => ?_, fun j e' q => ?_, s.len, fun j b h1 => s.om j b (by
    by_cases hj : j = i
    · rw [if_pos hj] at h1; exact absurd rfl h1
    · rw [if_neg hj] at h1; exact h1)⟩
    · intro b o z
      by_cases hb : b = a
      · subst hb; rw [upd_same] at z; rw [← z]; exact hH
      · rw [upd_ne hb] at z; exact s.fh.s b o z
    · by_cases hb : b = a
      · subst hb; exact absurd ng h2
      · rw [upd_ne hb] at h1; exact s.nw b h1 h2
    · by_cases hj : j = i
      · rw [if_pos hj]; intro b o z; cases z
      · rw [if_neg hj]; exact s.oh j
    · by_cases hj : j = i
      · rw [if_pos hj] at h1; exact absurd rfl h1
      · rw [if_neg hj] at h1
        obtain ⟨q1, q2, q3⟩ := s.ow j b h1
        have hb : b ≠ a := fun z => h1 (by rw [z]; exact no j hj)
        refine ⟨by rw [upd_ne hb]; exact q1, q2, fun k hk => ?_⟩
        by_cases hki : k = i
        · rw [if_pos hki]; rfl
        · rw [if_neg hki]; exact q3 k hk
    · by_cases hj : i = j
      · subst hj
        rw [e] at q
        cases q
        exact ⟨.ref a, e1, by rw [sh_set_fz]; exact .inr (.inl ⟨a, kvs, rfl, rfl, upd_same⟩)⟩
      · rw [sh_set_ne hj, if_neg (Ne.symm hj)]
        obtain ⟨v, q1, q2⟩ := s.sl j e' q
        exact ⟨v, q1, q2.mono sF⟩
theorem SR.freezeD {i : Nat} (h : SR K fr w F H σ ρ) (hw : sh w i = .ob dcO) : ∃ F', Same F F' ∧ SR K fr (w.set i .fz) F' H σ ρ := by
  have none' : (∀ d, ρ[i]? ≠ some (some d)) → ∃ F', Same F F' ∧ SR K fr (w.set i .fz) F' H σ ρ := fun hn => by
    obtain ⟨os, s⟩ := h
    refine ⟨F, same_refl _, os, s.fh, s.gh, s.f0, s.nw, s.oh, s.ow, fun j d q => ?_, s.len, s.om⟩
    have hj : i ≠ j := fun z => by subst z; exact hn d q
    rw [sh_set_ne hj]
    exact s.sl j d q
  cases e : ρ[i]? with
  | none => exact none' fun d z => by rw [e] at z; cases z
  | some o =>
    cases o with
    | none => exact none' fun d z => by rw [e] at z; cases z
    | some d =>
      obtain ⟨a, kvs, _, _, _, _, q, sf⟩ := h.get_dc hw e
      exact ⟨_, sf, q⟩
end
/-! ### the numbers of a dict -/
def getI (kvs : List (Int × Int)) (k : Int) : Option Int := (kvs.find? fun p => decide (p.1 = k)).map (·.2)
def putI (kvs : List (Int × Int)) (k v : Int) : List (Int × Int) := if (kvs.any fun p => decide (p.1 = k)) = true then kvs.map (fun p => if p.1 = k then (p.1, v) else p) else kvs ++ [(k, v)]
abbrev kvM (kvs : List (Int × Int)) : List (Key × V) := kvs.map fun p => (Sum.inl p.1, V.int p.2)
theorem valV_kv (k : Int) : ∀ kvs : List (Int × Int), valV (kvM kvs) (Sum.inl k) = (getI kvs k).map V.int
  | [] => rfl
  | p :: r => by
    by_cases h : p.1 = k
    · rw [show kvM (p :: r) = (Sum.inl p.1, V.int p.2) :: kvM r from rfl, valV_pos (by rw [h])]
      simp [getI, h]
    · rw [show kvM (p :: r) = (Sum.inl p.1, V.int p.2) :: kvM r from rfl, valV_neg (fun z => h (by cases z; rfl)), valV_kv k r]
      simp [getI, h]
theorem putK_kv (k v : Int) (kvs : List (Int × Int)) : putK (kvM kvs) (Sum.inl k) (V.int v) = kvM (putI kvs k v) := by
  unfold putK putI kvM
  have e1 : ((kvs.map fun p => ((Sum.inl p.1 : Key), V.int p.2)).any fun kv => decide (kv.1 = Sum.inl k)) = kvs.any fun p => decide (p.1 = k) := by
    rw [List.any_map]
    congr 1
    funext p
    simp
  rw [e1]
  split
  · simp only [List.map_map]
    refine List.map_congr_left fun p _ => ?_
    simp only [Function.comp]
    by_cases h : p.1 = k
    · simp [h]
    · simp [h]
  · simp
def kvsOf : List (D × D) → Option (List (Int × Int))
  | [] => some []
  | (.int k, .int v) :: r => (kvsOf r).map ((k, v) :: ·)
  | _ => none
theorem kvsOf_map (kvs : List (Int × Int)) : kvsOf (kvs.map fun p => (.int p.1, .int p.2)) = some kvs := by
  induction kvs with
  | nil => rfl
  | cons p r ih => simp [kvsOf, ih]
def dcOf : D → Option (List (Int × Int))
  | .dict ds => kvsOf ds
  | _ => none
theorem dcOf_dic (kvs : List (Int × Int)) : dcOf (IntDic kvs) = some kvs := kvsOf_map kvs
theorem kvsOf_inv : ∀ {ds : List (D × D)} {kvs : List (Int × Int)}, kvsOf ds = some kvs → ds = kvs.map fun p => (.int p.1, .int p.2) := fun {ds} => by
  induction ds with
  | nil => intro kvs h; cases h; rfl
  | cons p ds ih =>
    intro kvs h
    obtain ⟨k, v⟩ := p
    cases k with
    | int k =>
      cases v with
      | int v =>
        have h : (kvsOf ds).map ((k, v) :: ·) = some kvs := h
        cases e : kvsOf ds with
        | none => rw [e] at h; cases h
        | some l => rw [e] at h; cases h; simp [ih e]
      | _ => cases h
    | _ => cases h
theorem dcOf_of {d : D} {kvs : List (Int × Int)} (h : dcOf d = some kvs) : d = IntDic kvs := by
  cases d with
  | dict ds => unfold IntDic; rw [← kvsOf_inv (show kvsOf ds = some kvs from h)]
  | _ => cases h
theorem dcOf_eq {d : D} {kvs kvs2 : List (Int × Int)} (e : d = IntDic kvs) (h : dcOf d = some kvs2) : kvs2 = kvs := by
  subst e
  rw [dcOf_dic] at h
  cases h
  rfl
theorem r1 {k : Nat} {A : Around} (r : Room k A) : A.units + 1 < cLine := by have := r.units; omega
/-! ### x = {} -/
def newD (i : Nat) : SF := fun ρ => .nx (ρ.set i (some (IntDic [])))
/-- x[k] = x.get(k, 0) + e, k in slot j -/
def talO (ρ : Env) (i : Nat) (kvs : List (Int × Int)) (k : Int) (d : D) : Out := match intD d with
  | some m => if kvs.length < 1000000 then .nx (ρ.set i (some (IntDic (putI kvs k ((getI kvs k).getD 0 + m))))) else .bad
  | none => .bad
def talK (k : D) (g : Int → Out) : Out := match intD k with
  | some k => g k
  | none => .bad
def atSlot (ρ : Env) (i : Nat) (k : D → Out) : Out := match ρ[i]? with
  | some (some d) => k d
  | _ => .bad
def talD (ρ : Env) (d : D) (k : List (Int × Int) → Out) : Out := match dcOf d with
  | some kvs => k kvs
  | none => .bad
def talS (w : List Sh) (i j : Nat) (fe : EF) : SF := fun ρ => atSlot ρ i fun d => talD ρ d fun kvs => runR (vE j (hidA w ρ)) ρ fun k => talK k fun k => runR (fe (hidA w ρ)) ρ fun m => talO ρ i kvs k m
section
variable {X : Cx} {Er : ErT} {s0 : Sh} {wl w w' : List Sh} {t : TS} {f : SF} {te : TE} {K : PySem.W.Frag} {pos : Pos} {sts : List Stmt}
theorem ds_frzD (i : Nat) (hi : sh w i = .ob dcO) (h : DS X Er s0 wl (w.set i .fz) sts w' t f) : DS X Er s0 wl w sts w' t f := by
  refine ⟨h.ps, fun fr F H σ ρ Dn st p => ?_⟩
  obtain ⟨F', s, st'⟩ := st.freezeD hi
  exact h.rd fr F' H σ ρ Dn st' (PostS.mono p s)
theorem d_newD (i : Nat) {x : Str} {pos' p2 : Pos} (hN : X.N.Nodup) (hi : X.N[i]? = some x := by rfl) (hx : Loc X.env.scope x := by first | exact Or.inl rfl | exact Or.inr rfl) (hl : i < w.length := by decide) (hs : swapsWith (.Dict [] [] p2) (some (.Name x pos')) pos.line X.env = pure false := by rfl)
    (hf : X.fn x = true ∨ X.env.scope.names.lookup x = some .local := by first | exact .inl rfl | exact .inr rfl | assumption) : D1 X Er s0 wl w (.Assign [.Name x pos'] (.Dict [] [] p2) pos) (w.set i (.ob dcO)) (tAsg tDNewK (gName i)) (newD i) := by
  refine ⟨ps_set hN hi hx pe_dnewK hs hf, fun fr F H σ ρ Dn st p => ?_⟩
  intro q hq
  exact p _ F _ (same_refl _) (st.set_dc (kvs := []) hq hl)
theorem d_tal (i j : Nat) {x y : Str} {e : Expr} {p1 p2 p3 p4 p5 p6 p7 p8 p9 : Pos} {j0 : Nat} {fe : EF} (hu : X.A.units + 1 < cLine) (h : DE X Er e te fe) (hi : sh w i = .ob dcO := by rfl) (hw : sh w 0 = s0 := by rfl) (hN : X.N[i]? = some x := by rfl) (hv : Vis X.env.scope x := by first | exact Or.inl rfl | exact Or.inr (Or.inl rfl) | exact Or.inr (Or.inr rfl))
    (hN2 : X.N[j]? = some y := by rfl) (hv2 : Vis X.env.scope y := by first | exact Or.inl rfl | exact Or.inr (Or.inl rfl) | exact Or.inr (Or.inr rfl))
    (hd : (x == ("__debug__" : Str)) = false := by decide) (hcd : (x == ("__classdict__" : Str)) = false := by decide) (hd2 : (y == ("__debug__" : Str)) = false := by decide) (hcd2 : (y == ("__classdict__" : Str)) = false := by decide)
    (m : M2 X (.Name x p4) "get" p5 (.Name y p6) (.Constant (.int 0) j0 p7) p8 := by exact ⟨by rfl, by rfl, by rfl, by rfl⟩)
    (hs : swapsWith (.BinOp (.Call (.Attribute (.Name x p4) "get" p5) [.Name y p6, .Constant (.int 0) j0 p7] [] p8) .Add e p9) (some (.Subscript (.Name x p1) (.Name y p2) p3)) pos.line X.env = pure false := by rfl) :
    D1 X Er s0 wl w (.Assign [.Subscript (.Name x p1) (.Name y p2) p3] (.BinOp (.Call (.Attribute (.Name x p4) "get" p5) [.Name y p6, .Constant (.int 0) j0 p7] [] p8) .Add e p9) pos) w
      (sDPut (tVar i) (tVar j) (tOp (rI0 fun i j => .int (i + j)) (tDGet2 (tVar i) (tVar j) (tC (.int 0))) te)) (talS w i j fe) := by
  have px : ∀ p, PE X (.Name x p) (tVar i) := fun p => pe_var hN hv hd hcd
  have py : ∀ p, PE X (.Name y p) (tVar j) := fun p => pe_var hN2 hv2 hd2 hcd2
  refine ⟨ps_dput hu (px _) (py _) (pe_op op_add (pe_dget2 hu (px _) (py _) pe_int m) h.pe) hs, fun fr F H σ ρ Dn st p => ?_⟩
  unfold talS atSlot at p
  cases e1 : ρ[i]? with
  | none => rw [e1] at p; exact p.elim
  | some o =>
    cases o with
    | none => rw [e1] at p; exact p.elim
    | some d =>
      rw [e1] at p
      simp only [talD] at p
      cases e2 : dcOf d with
      | none => rw [e2] at p; exact p.elim
      | some kvs =>
        rw [e2] at p
        simp only at p
        obtain ⟨a, kvs', q1, q2, q3, q4, _⟩ := st.get_dc hi e1
        obtain rfl := dcOf_eq q2 e2
        have ga : ∀ {H1 : Hp}, H1 a = some (kvO kvs) → ∀ k : Int, DGet H1 a (.int k) ((getI kvs k).map V.int) := fun hh k => by
          have := DGet.k (k := (Sum.inl k : Key)) hh
          rw [valV_kv] at this
          exact this
        refine ⟨.ref a, q1, a, rfl, .inl ⟨_, .inl q3⟩, ?_⟩
        cases ej : (hidA w ρ)[j]? with
        | none =>
          simp only [vE, ej] at p
          exact p.elim
        | some oj =>
          cases oj with
          | none =>
            simp only [vE, ej] at p
            exact p.elim
          | some dj =>
            simp only [vE, ej] at p
            obtain ⟨vk, hj, dq⟩ := st.envA.sl j dj ej
            have dvk : Dp X.K F vk dj := by
              cases k : okD dj with
              | ok z => exact (dq_dp dq k).1
              | err c => cases dj <;> cases k
              | bad => rw [k] at p; exact p.elim
            cases dvk with
            | int k =>
              have p1 : PostS X.K fr s0 wl w F Er (runR (fe (hidA w ρ)) ρ fun m => talO ρ i kvs k m) Dn := p
              refine ⟨_, hj, _, ga q3 k, ?_⟩
              have eo : ((getI kvs k).map V.int).getD (.int 0) = .int ((getI kvs k).getD 0) := by cases getI kvs k <;> rfl
              refine runA (te := te) hw h.rd st p1 fun dm vm F2 H2 s2 st2 dvm p2 => ?_
              cases dvm with
              | int mm =>
                obtain ⟨a2, kvs2, y1, y2, y3, y4, _⟩ := st2.get_dc hi e1
                rw [q1] at y1
                cases y1
                obtain rfl := dcOf_eq y2 e2
                by_cases hl : kvs.length < 1000000
                · have p2 : PostS X.K fr s0 wl w F2 Er (.nx (ρ.set i (some (IntDic (putI kvs k ((getI kvs k).getD 0 + mm)))))) Dn := by
                    have := p2
                    simp only [talO, intD, if_pos hl] at this
                    exact this
                  refine ⟨_, mm, eo, rfl, .ref a, q1, .int k, hj, a, _, rfl, DPut.k (k := (Sum.inl k : Key)) y3 (sz_lt (by simpa using hl)), ?_⟩
                  have pk := putK_kv k ((getI kvs k).getD 0 + mm) kvs
                  unfold kvM at pk
                  rw [pk]
                  exact p2 _ F2 _ (same_refl _) (y4 _)
                · simp only [talO, intD, if_neg hl] at p2
                  exact False.elim p2
              | _ => exact p2.elim
            | _ => exact p.elim
end
end DL

set_option maxHeartbeats 2000000
/-! DL10: sorted(d.items()) of a dict of whole numbers. -/
namespace DL
open PySem PySem.Spec L2
open PyProof.Rows hiding St
variable [Mem]
open SrtO (Srtd Stb lexB swo_lex list_sort_ord pairs_sortableO)
def leP (p q : Int × Int) : Bool := !lexB q p
def sortI (kvs : List (Int × Int)) : List (Int × Int) := kvs.mergeSort leP
theorem leP_iff {p q : Int × Int} : leP p q = true ↔ p.1 < q.1 ∨ (p.1 = q.1 ∧ p.2 ≤ q.2) := by
  unfold leP
  rw [Bool.not_eq_true', SrtO.lexB_no]
  omega
theorem sortI_of {out kvs : List (Int × Int)} (h1 : out.Pairwise fun x y => lexB y x = false) (h2 : out.Perm kvs) : out = sortI kvs := by
  refine List.Perm.eq_of_pairwise (le := fun x y => leP x y = true) (fun a b _ _ h3 h4 => ?_) ?_ ?_ (h2.trans (List.mergeSort_perm _ _).symm)
  · have a1 := leP_iff.mp h3
    have a2 := leP_iff.mp h4
    exact Prod.ext (by omega) (by omega)
  · exact h1.imp fun h => by unfold leP; rw [h]; rfl
  · refine List.pairwise_mergeSort (fun a b c h3 h4 => ?_) (fun a b => ?_) _
    · have a1 := leP_iff.mp h3
      have a2 := leP_iff.mp h4
      exact leP_iff.mpr (by omega)
    · rw [Bool.or_eq_true, leP_iff, leP_iff]
      omega
/-- the pair that a made tuple stands for -/
def kOf (as : List Addr) (kvs : List (Int × Int)) : Value → Int × Int
  | .ref a => kvs.getD (as.idxOf a) (0, 0)
  | _ => (0, 0)
section
variable {prog : Program} {w : World} {A : Around} {E : Value → Shared → Prop} {s : Shared}
theorem kOf_at {as : List Addr} {kvs : List (Int × Int)} (hn : as.Nodup) {j : Nat} {a : Addr} (h : as[j]? = some a) : kOf as kvs (.ref a) = kvs.getD j (0, 0) := by
  have hj := (List.getElem?_eq_some_iff.mp h).1
  have e : as[j] = a := (List.getElem?_eq_some_iff.mp h).2
  show kvs.getD (as.idxOf a) (0, 0) = _
  rw [← e, hn.idxOf_getElem j hj]
theorem kOf_map {as : List Addr} {kvs : List (Int × Int)} (hn : as.Nodup) (hl : as.length = kvs.length) : (as.map Value.ref).map (kOf as kvs) = kvs := by
  rw [List.map_map]
  apply List.ext_getElem
  · simpa using hl
  · intro j h1 h2
    have hj : j < as.length := by simpa using h1
    simp only [List.getElem_map, Function.comp]
    rw [kOf_at hn (List.getElem?_eq_getElem hj), List.getD_eq_getElem?_getD, List.getElem?_eq_getElem h2]
    rfl
/-- sorted(d.items()) -/
theorem sorted_itemsI {r d : Addr} {kvs : List (Int × Int)} {vs : List (Key × Value)} {ep : Nat} {Q : Value → Shared → Prop} (hh : A.handled = none) (hv : s.heap.IsItemsView r d) (hm : s.heap.DictAt (mixKind prog w) d vs ep) (hn : vs.length ≤ sizeLine) (hz : vs.length = kvs.length)
    (hkv : ∀ (j : Nat) (k : Key) (x : Value), vs[j]? = some (k, x) → ∃ i n t, k = Sum.inl i ∧ x = .int n t ∧ kvs[j]? = some (i, n))
    (hkey : ∀ (i : Int) (v : Value), (mixKind prog w).is (Sum.inl i) v = true → ∃ t, v = .int i t)
    (h : ∀ (h3 : Heap) (tk : Nat) (as : List Addr) (L : Addr) (out : List Value), (∀ b o, s.heap.get? b = some o → h3.get? b = some o) → as.Nodup → as.length = kvs.length → (∀ a ∈ as, s.heap.objs.size ≤ a) → s.heap.get? L = none → L ∉ as →
      (∀ (j : Nat) (a : Addr), as[j]? = some a → ∃ i n t u c, kvs[j]? = some (i, n) ∧ h3.get? a = some { cls := .type "tuple", data := .seq #[.int i t, .int n u] c }) →
      (∃ c, h3.get? L = some (seqObj "list" out.toArray c)) → out.Perm (as.map Value.ref) → out.map (kOf as kvs) = sortI kvs → Q (.ref L) { s with heap := h3, toks := tk }) :
    wpAny (model prog w) A (call (.builtin "sorted") [.ref r]) Q E s := by
  refine Calls.call_function_entry kind_sorted plain_sorted entry_sorted (args_sorted1 _) ?_
  unfold Builtin.«sorted»
  refine wpAny_bind (m := checkCount "sorted" 1 1 _) (wpAny_pure ?_)
  refine wpAny_bind (PySem.W.kdx_collect (A := A.in1) (knd := mixKind prog w) (kvs := vs) (ep := ep) hh hv hm hn fun h' tk as hk hl hG => ?_)
  refine wpAny_bind (wpAny_newList ?_ (by rw [List.length_map, hl]; exact hn))
  have nd : as.Nodup := List.Pairwise.imp (fun {a b} (h : a < b) => Nat.ne_of_lt h) hG.rise
  have lk : as.length = kvs.length := hl.trans hz
  have hoL : (h'.push (seqObj "list" (as.map Value.ref).toArray 0)).get? h'.objs.size = some (seqObj "list" (as.map Value.ref).toArray 0) := Heap.get?_push_size _ rfl
  have pairs : ∀ (j : Nat) (a : Addr), as[j]? = some a → ∃ i n t u, kvs[j]? = some (i, n) ∧ h'.get? a = some { cls := .type "tuple", data := .seq #[.int i t, .int n u] } := fun j a e => by
    obtain ⟨key, k, x, f1, f2, f3⟩ := hG.pairs j a e
    obtain ⟨i, n, t, rfl, rfl, g⟩ := hkv j k x f1
    obtain ⟨t', rfl⟩ := hkey i key f2
    exact ⟨i, n, t', t, g, f3⟩
  have there : ∀ a ∈ as, a < h'.objs.size := fun a ha => by
    obtain ⟨j, hj⟩ := List.mem_iff_getElem?.mp ha
    obtain ⟨_, _, _, _, _, e⟩ := pairs j a hj
    exact Heap.lt_size e
  have hp : ∀ v ∈ as.map Value.ref, Srt.IsPair (h'.push (seqObj "list" (as.map Value.ref).toArray 0)) v (kOf as kvs v).1 (kOf as kvs v).2 := fun v hv => by
    obtain ⟨a, ha, rfl⟩ := List.mem_map.mp hv
    obtain ⟨j, hj⟩ := List.mem_iff_getElem?.mp ha
    obtain ⟨i, n, t, u, e1, e2⟩ := pairs j a hj
    have : kOf as kvs (.ref a) = (i, n) := by rw [kOf_at nd hj, List.getD_eq_getElem?_getD, e1]; rfl
    rw [this]
    exact ⟨a, _, t, u, 0, rfl, Heap.get?_push_of_some _ e2, rfl, rfl⟩
  have hlen : (as.map Value.ref).length ≤ sizeLine := by rw [List.length_map, hl]; exact hn
  refine wpAny_bind (wpAny_holding (wpAny_call_entry slot_list_sort ⟨_, hoL, rfl⟩ entry_list_sort (list_sort_ord (ltv := fun v u => lexB (kOf as kvs v) (kOf as kvs u)) (swo_lex (kOf as kvs)) hoL hlen (fun h2 => ?_) fun out h1 h2 => ⟨_, rfl, ?_⟩) (args_list_sort _)))
  · refine pairs_sortableO (by omega) hp fun o e => ?_
    have e' : some o = some (seqObj "list" (as.map Value.ref).toArray 0) := e.symm.trans hoL
    cases e'
    intro c
    exact absurd (Value.type.inj c) (by decide)
  · have old : ∀ b o, h'.get? b = some o → (sortedHeap (h'.push (seqObj "list" (as.map Value.ref).toArray 0)) h'.objs.size (as.map Value.ref) out.toArray).get? b = some o := fun b o e => by
      have hb : b < h'.objs.size := Heap.lt_size e
      rw [sortedHeap_old (Nat.ne_of_lt hb) (by rw [Heap.size_push]; exact Nat.lt_succ_of_lt hb)]
      exact Heap.get?_push_of_some _ e
    have hLs : s.heap.get? h'.objs.size = none := by
      cases e : s.heap.get? h'.objs.size with
      | none => rfl
      | some o => exact absurd (Heap.lt_size (hk _ _ e)) (Nat.lt_irrefl _)
    refine wpAny_pure ⟨_, rfl, h _ tk as h'.objs.size out (fun b o e => old b o (hk b o e)) nd lk (fun a ha => Nat.le_of_lt (hG.above a ha)) hLs (fun z => Nat.lt_irrefl _ (there _ z)) (fun j a e => ?_) (sortedHeap_at hoL) h2.perm (sortI_of ?_ ?_)⟩
    · obtain ⟨i, n, t, u, e1, e2⟩ := pairs j a e
      exact ⟨i, n, t, u, 0, e1, old _ _ e2⟩
    · rw [List.pairwise_map]
      exact h1
    · have := h2.perm.map (kOf as kvs)
      rw [kOf_map nd lk] at this
      exact this
end
section
variable {X : Cx}
open LiI (putT putT_off putT_at paired_ix)
theorem made_laid {pins : List (Addr × Obj)} {σ : St} {H : Hp} {s : Shared} {h3 : Heap} {tk : Nat} {kvs : List (Int × Int)} {as : List Addr} {L : Addr} {out : List Value} (I : Inv X pins σ H s) (hk : ∀ b o, s.heap.get? b = some o → h3.get? b = some o)
    (nd : as.Nodup) (lk : as.length = kvs.length) (na : ∀ a ∈ as, s.heap.objs.size ≤ a) (nL : s.heap.get? L = none) (hLas : L ∉ as)
    (pairs : ∀ (j : Nat) (a : Addr), as[j]? = some a → ∃ i n t u c, kvs[j]? = some (i, n) ∧ h3.get? a = some { cls := .type "tuple", data := .seq #[.int i t, .int n u] c })
    (hL : ∃ c, h3.get? L = some (seqObj "list" out.toArray c)) (hout : ∀ u ∈ out, ∃ a, u = Value.ref a) (hz : out.length ≤ sizeLine) :
    ∃ H2 : Hp, Same H H2 ∧ (∀ b, H2 b ≠ none → H b ≠ none ∨ b = L ∨ b ∈ as) ∧ H L = none ∧ (∀ t ∈ as, H t = none) ∧ H2 L = some (.lst (out.map backV)) ∧
      (∀ (j : Nat) (a : Addr), as[j]? = some a → ∃ q, kvs[j]? = some q ∧ H2 a = some (.tup [.int q.1, .int q.2])) ∧ Inv X pins σ H2 { s with heap := h3, toks := tk } := by
  have hLn : H L = none := by
    cases e : H L with
    | none => rfl
    | some u =>
      obtain ⟨o, q⟩ := objOk_get (I.hok L u e)
      rw [nL] at q
      cases q
  have hAn : ∀ t ∈ as, H t = none := fun t ht => I.hok.fresh (na t ht)
  let B : Hp := upd H L (.lst (out.map backV))
  let H2 : Hp := putT B as (kvM kvs)
  have offA : ∀ b, b ∉ as → b ≠ L → H2 b = H b := fun b z1 z2 => (putT_off as (kvM kvs) B z1).trans (upd_ne z2)
  have atL : H2 L = some (.lst (out.map backV)) := (putT_off as (kvM kvs) B hLas).trans upd_same
  have atA := putT_at as (kvM kvs) B (by simpa using lk) nd
  have old : ∀ b o, s.heap.get? b = some o → b ∉ as ∧ b ≠ L := fun b o e => ⟨fun z => absurd (Heap.lt_size e) (Nat.not_lt.mpr (na b z)), fun z => by rw [z, nL] at e; cases e⟩
  have same : Same H H2 := fun b u e => by
    rw [offA b (fun z => by rw [hAn b z] at e; cases e) (fun z => by rw [z, hLn] at e; cases e)]
    exact e
  have tup : ∀ (j : Nat) (a : Addr), as[j]? = some a → ∃ q, kvs[j]? = some q ∧ H2 a = some (.tup [.int q.1, .int q.2]) := fun j a e => by
    obtain ⟨j2, pk, f1, f2, f3⟩ := paired_ix atA (List.mem_of_getElem? e)
    have hj : j < as.length := (List.getElem?_eq_some_iff.mp e).1
    have ej : j2 = j := by
      have hj2 : j2 < as.length := (List.getElem?_eq_some_iff.mp f1).1
      have g1 := (List.getElem?_eq_some_iff.mp e).2
      have g2 := (List.getElem?_eq_some_iff.mp f1).2
      exact (List.getElem_inj nd).mp (g2.trans g1.symm)
    subst ej
    rw [List.getElem?_map] at f2
    cases g : kvs[j2]? with
    | none => rw [g] at f2; cases f2
    | some q =>
      rw [g] at f2
      cases f2
      exact ⟨q, rfl, f3⟩
  refine ⟨H2, same, fun b hb => ?_, hLn, hAn, atL, tup, ?_⟩
  · by_cases z1 : b = L
    · exact .inr (.inl z1)
    · by_cases z2 : b ∈ as
      · exact .inr (.inr z2)
      · rw [offA b z2 z1] at hb
        exact .inl hb
  · refine I.call' (ch := []) rfl ⟨fun b o e _ _ _ => hk b o e, fun b o e _ _ _ => ⟨o.slots, hk b o e⟩, fun b o e nn _ => ?_, fun b o e _ => ⟨o, hk b o e⟩, fun b xs e => same b _ e, fun b o u e => same b _ e, fun b ps e => ⟨#[], by rw [same b _ e]; simp⟩⟩ (fun b u e => ?_) I.bare fun b z => by simp at z
    · obtain ⟨z1, z2⟩ := old b o e
      exact (offA b z1 z2).trans nn
    · by_cases hb : b ∈ as
      · obtain ⟨j, hj⟩ := List.mem_iff_getElem?.mp hb
        obtain ⟨q, f1, f2⟩ := tup j b hj
        rw [f2] at e
        cases e
        obtain ⟨i, n, t, u', c, g1, g2⟩ := pairs j b hj
        rw [f1] at g1
        cases g1
        exact ⟨by show 2 ≤ sizeLine; decide, [.int i t, .int n u'], .cons ⟨t, rfl⟩ (.cons ⟨u', rfl⟩ .nil), _, g2, rfl, c, rfl⟩
      · by_cases hb2 : b = L
        · rw [hb2] at e ⊢
          rw [atL] at e
          cases e
          obtain ⟨c, hc⟩ := hL
          exact ⟨by rw [List.length_map]; exact hz, out, c, vals_back hout, hc⟩
        · rw [offA b hb hb2] at e
          exact (I.hok b u e).stay (fun d v _ y => hk d v y) (fun d y => same d _ y) fun d xs y => same d _ y
/-- sorted(x.items()) -/
def rSrtItems : V → Hp → VK → Prop := fun x H Q => ∃ (d : Addr) (kvs : List (Int × Int)), x = .ref d ∧ H d = some (kvO kvs) ∧
  ∀ (H2 : Hp) (p : Addr) (ts : List Addr), Same H H2 → H p = none → (∀ t ∈ ts, H t = none) → p ∉ ts → (∀ b, H2 b ≠ none → H b ≠ none ∨ b = p ∨ b ∈ ts) → H2 p = some (.lst (ts.map V.ref)) → ts.length = (sortI kvs).length →
    (∀ (j : Nat) (t : Addr), ts[j]? = some t → ∃ q, (sortI kvs)[j]? = some q ∧ H2 t = some (.tup [.int q.1, .int q.2])) → Q (.ref p) H2
def tSrtItems (te : TE) : TE := fun σ H Q => te σ H fun x H1 => rSrtItems x H1 Q
theorem outs_of {as : List Addr} : ∀ {out : List Value}, (∀ u ∈ out, ∃ a, u = Value.ref a ∧ a ∈ as) → ∃ ts : List Addr, out = ts.map Value.ref ∧ ∀ t ∈ ts, t ∈ as
  | [], _ => ⟨[], rfl, fun t h => (nomatch h)⟩
  | u :: out, h => by
    obtain ⟨a, rfl, ha⟩ := h u List.mem_cons_self
    obtain ⟨ts, rfl, h2⟩ := outs_of (out := out) fun v hv => h v (List.mem_cons_of_mem _ hv)
    refine ⟨a :: ts, rfl, fun t ht => ?_⟩
    rcases List.mem_cons.mp ht with rfl | ht
    · exact ha
    · exact h2 t ht
theorem pe_srtItems {e : Expr} {te : TE} {p apos cpos pos : Pos} (hc : X.calm = true) (he : PE X e te) (hg : Gl X "sorted") (hm : X.mg "sorted" = none) (hv : bootBuiltins "sorted" = some (.builtin "sorted")) (hbase : attributeBase e "items" X.env (eval e X.env) = eval e X.env := by rfl) (hline : (apos.endLine == cpos.line) = true := by rfl)
    (hs : starEach [.Call (.Attribute e "items" apos) [] [] cpos] X.env = (false, eval (.Call (.Attribute e "items" apos) [] [] cpos) X.env) :: starEach [] X.env := by rfl) :
    PE X (.Call (.Name "sorted" p) [.Call (.Attribute e "items" apos) [] [] cpos] [] pos) (tSrtItems te) := by
  refine ⟨fun pins s σ H Q I hq => ?_⟩
  refine wpAny_Call_Name_kw (ld_blt I hg hm hv ?_)
  refine PyProof.Rows.callWith_builtin1 ?_ hs rfl
  rw [hs]
  show wpAny _ _ (spliced ((false, eval (.Call (.Attribute e "items" apos) [] [] cpos) X.env) :: backTo pos (starEach [] X.env))) _ _ s
  refine Calls.spliced_cons ?_
  refine wpAny_Call_method (T := "dict") (id := "dict.items") hbase rfl hline PySem.F.plainAttrs_dict PySem.F.slot_dict_items PySem.F.type_dict_items (thn (he.run pins s σ H _ I hq) fun u s1 hh => ?_)
  obtain ⟨x, H1, I1, rx, d, kvs, ex, hd, q⟩ := hh
  subst ex
  obtain rfl : u = Value.ref d := rx
  obtain ⟨hz, hs0, vs, kv, hdo⟩ := I1.hok d _ hd
  obtain ⟨ep, hat⟩ := hdo.dictAt
  have lk : (kvM kvs).length = vs.length := Paired.length kv
  have lk2 : vs.length = kvs.length := by rw [← lk]; simp
  have hz2 : kvs.length ≤ sizeLine := by simpa using hz
  have I2 : Inv X pins σ H1 { s1 with heap := s1.heap.push { cls := .type "dict_items", data := .fields #[.ref d] } } := I1.kept (t' := s1.toks) fun b ob z => Heap.get?_push_of_some _ z
  refine ⟨hdo.typeIs, hdo.mapOf.noDict, ?_⟩
  show wpAny _ _ (callWith cpos (.builtin "dict.items") [.ref d] [] []) _ X.xe s1
  refine method_meetsIn PySem.F.slot_dict_items PySem.F.entry_dict_items rfl (PySem.evalArgs_none ⟨rfl, hdo.typeIs, PySem.F.args_dict_items_1 _, _, meets_dict_items (mixKind X.prog X.w) d hs0, ⟨vs, hdo⟩, ?_⟩)
  refine Calls.spliced_nil ?_
  refine sorted_itemsI (kvs := kvs) (vs := vs) (ep := ep) (I1.ok.hd hc) ⟨_, Heap.get?_push_size _ rfl, rfl, rfl⟩ (hat.push _) (by omega) lk2 (fun j k x hj => ?_) (fun i v hi => ?_) fun h3 tk as L out k1 nd l1 na nL hLas pairs hL hperm hsort => ?_
  · obtain ⟨pq, g1, g2, g3⟩ := L2.DX.pget kv hj
    rw [List.getElem?_map] at g1
    cases g : kvs[j]? with
    | none => rw [g] at g1; cases g1
    | some q' =>
      rw [g] at g1
      cases g1
      obtain ⟨t, g3⟩ := g3
      exact ⟨q'.1, q'.2, t, g2.symm, g3, rfl⟩
  · have hi : keyIs (Sum.inl i) v = true := hi
    rcases keyIs_shape hi with ⟨i', t, e1, e2⟩ | ⟨_, _, e1, _⟩
    · cases e1
      exact ⟨t, e2⟩
    · cases e1
  · have hout : ∀ u ∈ out, ∃ a, u = Value.ref a ∧ a ∈ as := fun u hu => by
      obtain ⟨a, ha, e⟩ := List.mem_map.mp (hperm.mem_iff.mp hu)
      exact ⟨a, e.symm, ha⟩
    obtain ⟨ts, rfl, hts⟩ := outs_of hout
    have hlen : (ts.map Value.ref).length ≤ sizeLine := by
      rw [hperm.length_eq, List.length_map, l1]
      exact hz2
    obtain ⟨H2, same, nw, hLn, hAn, atL, tup, J⟩ := made_laid (tk := tk) (kvs := kvs) I2 k1 nd l1 na nL hLas pairs hL (fun u hu => let ⟨a, e, _⟩ := hout u hu; ⟨a, e⟩) hlen
    have hback : (ts.map Value.ref).map backV = ts.map V.ref := by
      rw [List.map_map]
      rfl
    rw [hback] at atL
    have lts : ts.length = (sortI kvs).length := by
      have := congrArg List.length hsort
      simpa using this
    refine ⟨.ref L, H2, J, rfl, q H2 L ts same hLn (fun t ht => hAn t (hts t ht)) (fun z => hLas (hts L z)) (fun b hb => ?_) atL lts fun j t hj => ?_⟩
    · rcases nw b hb with z | z | z
      · exact .inl z
      · exact .inr (.inl z)
      · obtain ⟨u, hu, e⟩ := List.mem_map.mp (hperm.mem_iff.mpr (List.mem_map.mpr ⟨b, z, rfl⟩))
        cases e
        exact .inr (.inr hu)
    · obtain ⟨j2, hj2⟩ := List.mem_iff_getElem?.mp (hts t (List.mem_of_getElem? hj))
      obtain ⟨q', f1, f2⟩ := tup j2 t hj2
      refine ⟨q', ?_, f2⟩
      rw [← hsort, List.map_map, List.getElem?_map, hj]
      show some (kOf as kvs (.ref t)) = _
      rw [kOf_at nd hj2, List.getD_eq_getElem?_getD, f1]
      rfl
variable {Er : ErT} {K : PySem.W.Frag}
/-- sorted(x.items()), x in slot i -/
def itemsD (kvs : List (Int × Int)) : D := .list ((sortI kvs).map fun p => .tuple [.int p.1, .int p.2])
def itO : Option (List (Int × Int)) → R D
  | some kvs => .ok (itemsD kvs)
  | none => .bad
def itE (i : Nat) : EF := fun ρ => match ρ[i]? with
  | some (some d) => itO (dcOf d)
  | _ => .bad
theorem de_srtItems (i : Nat) {x : Str} {p p2 apos cpos pos : Pos} (hm : X.mg "sorted" = none) (hc : X.calm = true := by rfl) (hN : X.N[i]? = some x := by rfl) (hv : Vis X.env.scope x := by first | exact Or.inl rfl | exact Or.inr (Or.inl rfl) | exact Or.inr (Or.inr rfl)) (hg : Gl X "sorted" := by rfl)
    (hd : (x == ("__debug__" : Str)) = false := by decide) (hcd : (x == ("__classdict__" : Str)) = false := by decide) (hb : bootBuiltins "sorted" = some (.builtin "sorted") := by decide +kernel) (hbase : attributeBase (.Name x p2) "items" X.env (eval (.Name x p2) X.env) = eval (.Name x p2) X.env := by rfl) (hline : (apos.endLine == cpos.line) = true := by rfl)
    (hs : starEach [.Call (.Attribute (.Name x p2) "items" apos) [] [] cpos] X.env = (false, eval (.Call (.Attribute (.Name x p2) "items" apos) [] [] cpos) X.env) :: starEach [] X.env := by rfl) :
    DE X Er (.Call (.Name "sorted" p) [.Call (.Attribute (.Name x p2) "items" apos) [] [] cpos] [] pos) (tSrtItems (tVar i)) (itE i) := by
  refine ⟨pe_srtItems hc (pe_var hN hv hd hcd) hg hm hb hbase hline hs, fun F H σ ρ Q s st h => ?_⟩
  unfold itE at h
  cases e : ρ[i]? with
  | none => simp only [e] at h; exact h.elim
  | some o =>
    cases o with
    | none => simp only [e] at h; exact h.elim
    | some d =>
      simp only [e] at h
      obtain ⟨v, e1, h1⟩ := st.sl i d e
      cases ed : dcOf d with
      | none =>
        rw [ed] at h
        exact h.elim
      | some kvs =>
        have ed := dcOf_of ed
        subst ed
        rw [dcOf_dic] at h
        obtain ⟨a, rfl, h3⟩ := dq_int h1
        refine ⟨.ref a, e1, a, kvs, rfl, s.s a _ h3, fun H2 p ts same hp hts hpt nw hp2 hl htup => ?_⟩
        have noF : ∀ b, H b = none → F b = none := fun b hb => none_of_same s.s hb
        let F2 : Hp := fun b => if b = p ∨ b ∈ ts then H2 b else F b
        have fIn : ∀ b, (b = p ∨ b ∈ ts) → F2 b = H2 b := fun b hb => if_pos hb
        have fOut : ∀ b, ¬ (b = p ∨ b ∈ ts) → F2 b = F b := fun b hb => if_neg hb
        have newH : ∀ b, (b = p ∨ b ∈ ts) → H b = none := fun b hb => by
          rcases hb with rfl | hb
          · exact hp
          · exact hts b hb
        have gr : Grow F H F2 H2 := by
          refine ⟨fun b o q => ?_, sameM_of same, ⟨fun b o q => ?_, fun b z => ?_⟩, fun b q1 q2 => ?_⟩
          · rw [fOut b fun z => by rw [noF b (newH b z)] at q; cases q]
            exact q
          · by_cases z : b = p ∨ b ∈ ts
            · rw [fIn b z] at q; exact q
            · rw [fOut b z] at q; exact same b o (s.s b o q)
          · obtain ⟨y1, u, y2, y3⟩ := s.m b z
            have nb : ¬ (b = p ∨ b ∈ ts) := fun k => by rw [newH b k] at y2; cases y2
            exact ⟨by rw [fOut b nb]; exact y1, u, same b u y2, Mem.mono y3 fun c o q => by
              rw [fOut c fun k => by rw [noF c (newH c k)] at q; cases q]
              exact q⟩
          · by_cases z : b = p ∨ b ∈ ts
            · exact absurd (newH b z) q2
            · rw [fOut b z] at q1; exact q1
        refine Post.done h gr _ (.lst (xs := ts.map V.ref) (.inl (.inl ?_)) ?_)
        · rw [fIn p (.inl rfl)]; exact hp2
        · have key : ∀ (us : List Addr) (qs : List (Int × Int)), us.length = qs.length → (∀ t ∈ us, t ∈ ts) → (∀ (j : Nat) (t : Addr), us[j]? = some t → ∃ q, qs[j]? = some q ∧ H2 t = some (.tup [.int q.1, .int q.2])) → DpAll X.K F2 (us.map V.ref) (qs.map fun q => .tuple [.int q.1, .int q.2]) := by
            intro us
            induction us with
            | nil =>
              intro qs hl _ _
              cases qs with
              | nil => exact .nil
              | cons _ _ => cases hl
            | cons t us ih =>
              intro qs hl hin htp
              cases qs with
              | nil => cases hl
              | cons q qs =>
                obtain ⟨q', f1, f2⟩ := htp 0 t rfl
                cases f1
                refine .cons (.tup (.inl (.inl ?_)) (.cons (.int _) (.cons (.int _) .nil))) (ih qs (Nat.succ.inj hl) (fun u hu => hin u (List.mem_cons_of_mem _ hu)) fun j u hu => htp (j + 1) u (by simpa using hu))
                · rw [fIn t (.inr (hin t List.mem_cons_self))]
                  exact f2
          exact key ts (sortI kvs) hl (fun t ht => ht) htup
end
end DL

set_option maxHeartbeats 1000000
/-! DL11: dict(pairs).get(k, x). -/
namespace DL
open PySem PySem.Spec L2
open PyProof.Rows hiding St
variable [Mem]
def pairsOf' : List D → Option (List (Int × Int))
  | [] => some []
  | .tuple [.int k, .int v] :: r => (pairsOf' r).map ((k, v) :: ·)
  | _ => none
theorem pairsOf_eq : ∀ {ds : List D} {kvs : List (Int × Int)}, pairsOf' ds = some kvs → ds = kvs.map fun p => .tuple [.int p.1, .int p.2]
  | [], kvs, h => by cases h; rfl
  | d :: ds, kvs, h => by
    unfold pairsOf' at h
    split at h
    · rename_i e; cases e
    · rename_i k v r e
      cases e
      cases g : pairsOf' ds with
      | none => rw [g] at h; cases h
      | some l =>
        rw [g] at h
        cases h
        rw [pairsOf_eq g]
        rfl
    · cases h
theorem pairsOf_map (kvs : List (Int × Int)) : pairsOf' (kvs.map fun p => .tuple [.int p.1, .int p.2]) = some kvs := by
  induction kvs with
  | nil => rfl
  | cons p r ih => simp [pairsOf', ih]
def mergeI (l : List (Int × Int)) : List (Int × Int) := l.foldl (fun m p => putI m p.1 p.2) []
theorem mergeK_kv (l : List (Int × Int)) : ∀ m : List (Int × Int), mergeK (kvM m) (kvM l) = kvM (l.foldl (fun m p => putI m p.1 p.2) m) := by
  unfold mergeK
  induction l with
  | nil => intro m; rfl
  | cons p l ih =>
    intro m
    have := putK_kv p.1 p.2 m
    unfold kvM at this ih ⊢
    rw [List.map_cons, List.foldl_cons, List.foldl_cons, this]
    exact ih _
def pairsD : D → Option (List (Int × Int))
  | .list ds => pairsOf' ds
  | _ => none
def dgetD (l : List (Int × Int)) (k x : D) : Option D := (intD k).bind fun k => (intD x).map fun x => .int ((getI (mergeI l) k).getD x)
def dgetE (f fk fx : EF) : EF := bE f fun d => bE (oE (pairsD d)) fun l => bE fk fun k => bE fx fun x => oE (dgetD l k x)
theorem pairs_vals {K : PySem.W.Frag} {F : Hp} : ∀ {l : List (Int × Int)} {vs : List V}, DpAll K F vs (l.map fun p => .tuple [.int p.1, .int p.2]) → ∃ ps : List Addr, vs = ps.map V.ref ∧ Paired (fun p (kv : Key × V) => SqT K F p [kV kv.1, kv.2]) ps (kvM l)
  | [], _, .nil => ⟨[], rfl, .nil⟩
  | q :: l, _, .cons h hs => by
    cases h with
    | tup h1 h2 =>
      cases h2 with
      | cons a b =>
        cases a
        cases b with
        | cons a2 b2 =>
          cases a2
          cases b2
          obtain ⟨ps, rfl, e⟩ := pairs_vals hs
          exact ⟨_ :: ps, rfl, .cons h1 e⟩
theorem paired_same {K : PySem.W.Frag} {F H : Hp} (s : Wf F H) : ∀ {ps : List Addr} {kvs : List (Key × V)}, Paired (fun p (kv : Key × V) => SqT K F p [kV kv.1, kv.2]) ps kvs → Paired (fun p (kv : Key × V) => SqT K H p [kV kv.1, kv.2]) ps kvs
  | _, _, .nil => .nil
  | _, _, .cons h t => .cons (same_seqT s.s h) (paired_same s t)
section
variable {X : Cx} {Er : ErT} {te tk tx : TE} {K : PySem.W.Frag}
def rDictI (K : PySem.W.Frag) : List V → Hp → VK → Prop := fun xs H Q => ∃ (a : Addr) (ps : List Addr) (kvs : List (Key × V)), xs = [.ref a] ∧ SqL K H a (ps.map V.ref) ∧ Paired (fun p kv => SqT K H p [kV kv.1, kv.2]) ps kvs ∧ ∀ p, H p = none → Q (.ref p) (upd H p (.dK (mergeK [] kvs)))
theorem de_dictGet {e k x : Expr} {p apos cpos pos : Pos} {fe fk fx : EF} (hu : X.A.units + 1 < cLine) (hg : Gl X "dict") (hm : X.mg "dict" = none) (hr : CallR X (.type "dict") (rDictI X.K)) (h : DE X Er e te fe) (hk : DE X Er k tk fk) (hx : DE X Er x tx fx)
    (hv : bootBuiltins "dict" = some (.type "dict") := by decide +kernel) (m : M2 X (.Call (.Name "dict" p) [e] [] cpos) "get" apos k x pos := by exact ⟨by rfl, by rfl, by rfl, by rfl⟩)
    (hs : starEach [e] X.env = (false, eval e X.env) :: starEach [] X.env := by rfl) :
    DE X Er (.Call (.Attribute (.Call (.Name "dict" p) [e] [] cpos) "get" apos) [k, x] [] pos) (tDGet2 (tCB (rDictI X.K) (tCons te tNil)) tk tx) (dgetE fe fk fx) := by
  refine ⟨pe_dget2 hu (pe_callTy hr hg hm hv (pa_cons h.pe pa_nil hs) (by decide) (by decide) hs (by rfl)) hk.pe hx.pe m, fun F H σ ρ Q s st pq => ?_⟩
  refine h.rd F H σ ρ _ s st (Post.imp (Post.bind pq) fun F1 H1 d g1 p1 v dv => ?_)
  obtain ⟨l, el, p0⟩ := of_ok (Post.bind p1)
  have pb := Post.now p0 g1.fh
  clear p0 p1
  cases dv with
  | lst h1 h2 =>
    obtain rfl := pairsOf_eq el
    obtain ⟨ps, rfl, hp⟩ := pairs_vals h2
    refine ⟨_, ps, kvM l, rfl, same_seqL g1.fh.s h1, paired_same g1.fh hp, fun q hq => ?_⟩
    have em : mergeK [] (kvM l) = kvM (mergeI l) := mergeK_kv l []
    rw [em]
    have gq := Grow.new (o := (HO.dK (kvM (mergeI l)))) g1.fh hq
    have pm := Post.mono pb gq
    refine ⟨q, rfl, .inl ⟨_, .inl upd_same⟩, ?_⟩
    refine hk.rd _ _ σ ρ _ gq.fh ((st.mono g1.ff).mono gq.ff) (Post.imp (Post.bind pm) fun F2 H2 dk g2 p2 vk dvk => ?_)
    refine hx.rd F2 H2 σ ρ _ g2.fh (((st.mono g1.ff).mono gq.ff).mono g2.ff) (Post.imp (Post.bind p2) fun F3 H3 dx g3 p3 vx dvx => ?_)
    have hH3 : H3 q = some (.dK (kvM (mergeI l))) := g3.fh.s q _ (g3.ff q _ (g2.ff q _ upd_same))
    have dvk3 := dp_mono g3.ff _ _ dvk
    cases dvk3 with
    | int k =>
      cases dvx with
      | int x =>
        have dg := DGet.k (k := (Sum.inl k : Key)) hH3
        rw [valV_kv] at dg
        refine ⟨_, dg, ?_⟩
        have p3 : Post F3 H3 Er (R.ok (.int ((getI (mergeI l) k).getD x))) fun F' H' d => ∀ v, Dp X.K F' v d → Q v H' := p3
        have e : ((getI (mergeI l) k).map V.int).getD (.int x) = .int ((getI (mergeI l) k).getD x) := by cases getI (mergeI l) k <;> rfl
        rw [e]
        exact Post.now p3 g3.fh _ (.int _)
      | _ => exact p3.elim
    | _ => exact p3.elim
  | _ => cases el
theorem kdget (K : PySem.W.Frag) {e k x : Expr} {p apos cpos pos : Pos} {fe fk fx : EF} (hu : X.A.units + 1 < cLine) (hg : Gl X "dict") (hm : X.mg "dict" = none) (h : DE X Er e te fe) (hk : DE X Er k tk fk) (hx : DE X Er x tx fx) (hc : X.calm = true := by rfl)
    (hv : bootBuiltins "dict" = some (.type "dict") := by decide +kernel) (m : M2 X (.Call (.Name "dict" p) [e] [] cpos) "get" apos k x pos := by exact ⟨by rfl, by rfl, by rfl, by rfl⟩)
    (hs : starEach [e] X.env = (false, eval e X.env) :: starEach [] X.env := by rfl) (hK : X.K = K := by rfl) :
    DE X Er (.Call (.Attribute (.Call (.Name "dict" p) [e] [] cpos) "get" apos) [k, x] [] pos) (tDGet2 (tCB (rDictI K) (tCons te tNil)) tk tx) (dgetE fe fk fx) := by
  subst hK
  exact de_dictGet hu hg hm (call_dictP hc) h hk hx hv m hs
end
/-! ### list(range(n)) -/
def rangeN : List D → Option (List D)
  | [.int n] => if 0 ≤ n ∧ n ≤ 1000000 then some (rangeL 0 n.toNat) else none
  | _ => none
def rng1E (f : EF) : AF := bE f fun d => oE (rangeN [d])
theorem dpAll_rg {K : PySem.W.Frag} {F : Hp} (n : Int) : DpAll K F (rgV 0 n) (rangeL 0 n.toNat) := by
  unfold rgV rangeL
  rw [Int.sub_zero]
  generalize List.range n.toNat = l
  induction l with
  | nil => exact .nil
  | cons x l ih => exact .cons (.int _) ih
section
variable {X : Cx} {Er : ErT} {te : TE}
theorem dn_listRg {e : Expr} {p p2 pos2 pos : Pos} {f : EF} (hg : Gl X "list") (hm : X.mg "list" = none) (hg2 : Gl X "range") (hm2 : X.mg "range" = none) (h : DE X Er e te f) (hc : X.calm = true := by rfl) (hs2 : starEach [e] X.env = (false, eval e X.env) :: starEach [] X.env := by rfl)
    (hs : starEach [.Call (.Name "range" p2) [e] [] pos2] X.env = (false, eval (.Call (.Name "range" p2) [e] [] pos2) X.env) :: starEach [] X.env := by rfl) :
    DN X Er (.Call (.Name "list" p) [.Call (.Name "range" p2) [e] [] pos2] [] pos) (tLstRg (tRg1 te)) (rng1E f) := by
  refine ⟨pe_listRg hc hg hm (prg_1 hg2 hm2 h.pe hs2) hs, fun F H σ ρ Q s st p => ?_⟩
  refine h.rd F H σ ρ _ s st (Post.imp (Post.bind p) fun F1 H1 d g1 p1 v dv => ?_)
  obtain ⟨r, e, p1⟩ := of_ok p1
  cases dv with
  | int n =>
    simp only [rangeN] at e
    split at e
    · rename_i hn
      cases e
      exact ⟨n, rfl, RgOk.of_le (Int.le_refl _) (by omega) (by omega) (by omega), fun q hq => Post.now p1 g1.fh q _ hq (dpAll_rg n)⟩
    · cases e
  | _ => cases e
end
end DL

set_option maxHeartbeats 1000000
/-! DL12: k not in d. -/
namespace DL
open PySem PySem.Spec L2
open PyProof.Rows hiding St
variable [Mem]
def slotD (ρ : Env) (i : Nat) : Option (List (Int × Int)) := match ρ[i]? with
  | some (some d) => dcOf d
  | _ => none
def dkO (neg : Bool) : D → Option (List (Int × Int)) → R D
  | .int k, some kvs => .ok (.bool (if neg then !(getI kvs k).isSome else (getI kvs k).isSome))
  | _, _ => .bad
def dinE (neg : Bool) (fk : EF) (i : Nat) : EF := fun ρ => (fk ρ).bind fun k => dkO neg k (slotD ρ i)
section
variable {X : Cx} {Er : ErT} {tk : TE} {K : PySem.W.Frag}
theorem slot_dict {F H : Hp} {σ : St} {ρ : Env} {i : Nat} {kvs : List (Int × Int)} (s : Wf F H) (st : EnvR K F σ ρ) (e : slotD ρ i = some kvs) : ∃ a, σ[i]? = some (some (.ref a)) ∧ H a = some (kvO kvs) ∧ F a = some (kvO kvs) := by
  unfold slotD at e
  cases q : ρ[i]? with
  | none => rw [q] at e; cases e
  | some o =>
    cases o with
    | none => rw [q] at e; cases e
    | some d =>
      rw [q] at e
      have e : dcOf d = some kvs := e
      obtain ⟨v, e1, h1⟩ := st.sl i d q
      have ed : d = IntDic kvs := dcOf_of e
      subst ed
      obtain ⟨a, rfl, h3⟩ := dq_int h1
      exact ⟨a, e1, s.s a _ h3, h3⟩
theorem de_dnotin (i : Nat) {k : Expr} {x : Str} {p pos : Pos} {fk : EF} (hu : X.A.units + 1 < cLine) (h : DE X Er k tk fk) (hN : X.N[i]? = some x := by rfl) (hv : Vis X.env.scope x := by first | exact Or.inl rfl | exact Or.inr (Or.inl rfl) | exact Or.inr (Or.inr rfl))
    (hd : (x == ("__debug__" : Str)) = false := by decide) (hcd : (x == ("__classdict__" : Str)) = false := by decide) (hm : behindInMarks .NotIn (.Name x p) = false := by rfl) :
    DE X Er (.Compare k [.NotIn] [.Name x p] pos) (tDNotIn tk (tVar i)) (dinE true fk i) := by
  refine ⟨pe_cmp (pc_dnotin hu h.pe (pe_var hN hv hd hcd)) hm, fun F H σ ρ Q s st q => ?_⟩
  refine h.rd F H σ ρ _ s st (Post.imp (Post.bind q) fun F1 H1 dk g1 p1 vk dvk => ?_)
  cases e : slotD ρ i with
  | none =>
    rw [e] at p1
    cases dvk <;> exact p1.elim
  | some kvs =>
    rw [e] at p1
    obtain ⟨a, e1, _, e3⟩ := slot_dict s st e
    have hH : H1 a = some (.dK (kvM kvs)) := g1.fh.s a _ (g1.ff a _ e3)
    cases dvk with
    | int k =>
      have dg := DGet.k (k := (Sum.inl k : Key)) hH
      rw [valV_kv] at dg
      refine ⟨.ref a, e1, a, _, rfl, dg, ?_⟩
      have p2 : Post F1 H1 Er (R.ok (.bool (!(getI kvs k).isSome))) fun F' H' d => ∀ v, Dp X.K F' v d → Q v H' := p1
      have eo : ((getI kvs k).map V.int).isSome = (getI kvs k).isSome := by cases getI kvs k <;> rfl
      rw [eo]
      exact Post.now p2 g1.fh _ (.bl _)
    | _ => exact p1.elim
theorem dt_dnotin (i : Nat) {k : Expr} {x : Str} {p pos : Pos} {fk : EF} (hu : X.A.units + 1 < cLine) (h : DE X Er k tk fk) (hN : X.N[i]? = some x := by rfl) (hv : Vis X.env.scope x := by first | exact Or.inl rfl | exact Or.inr (Or.inl rfl) | exact Or.inr (Or.inr rfl))
    (hd : (x == ("__debug__" : Str)) = false := by decide) (hcd : (x == ("__classdict__" : Str)) = false := by decide) (hm : behindInMarks .NotIn (.Name x p) = false := by rfl) :
    DT X Er (.Compare k [.NotIn] [.Name x p] pos) (tB (tDNotIn tk (tVar i))) (testE (dinE true fk i)) :=
  ⟨pt_cmp (pc_dnotin hu h.pe (pe_var hN hv hd hcd)) hm, dr_test (de_dnotin (pos := pos) i hu h hN hv hd hcd hm).rd⟩
variable {s0 : Sh} {wl w : List Sh} {pos : Pos}
/-- x, y = {}, {} -/
def newD2 (i j : Nat) : SF := fun ρ => .nx ((ρ.set i (some (IntDic []))).set j (some (IntDic [])))
theorem d_newD2 (i j : Nat) {tg : Expr} {n1 : Nat} {p1 p2 p3 : Pos} (hg : PG X tg (gTup X.K 2 (gNames [i, j]))) (hi : i < w.length := by decide) (hj : j < w.length := by decide) (hs : swapsWithSole [tg] (.Tuple [.Dict [] [] p1, .Dict [] [] p2] n1 p3) pos.line X.env = pure false := by rfl)
    (hsw : swappedStores [tg] (.Tuple [.Dict [] [] p1, .Dict [] [] p2] n1 p3) X.env = pure none := by rfl) (h1 : (assignEach [tg] X.env).map (·.2) = [assign tg X.env] := by rfl) :
    D1 X Er s0 wl w (.Assign [tg] (.Tuple [.Dict [] [] p1, .Dict [] [] p2] n1 p3) pos) ((w.set i (.ob dcO)).set j (.ob dcO)) (tAsg (tTup (tCons tDNewK (tCons tDNewK tNil))) (gTup X.K 2 (gNames [i, j]))) (newD2 i j) := by
  refine ⟨ps_asg (pe_tup (pa_cons pe_dnewK (pa_cons pe_dnewK pa_nil))) hg hs hsw h1, fun fr F H σ ρ Dn st p => ?_⟩
  intro q1 hq1 q2 hq2
  refine ⟨(by show 2 ≤ sizeLine; decide), fun T hT => ?_⟩
  have st1 := st.set_dc (kvs := []) hq1 hi
  have st2 := st1.set_dc (kvs := []) hq2 (by rw [List.length_set]; exact hj)
  have g := Grow.new (o := HO.tup [.ref q1, .ref q2]) st2.fh hT
  refine ⟨T, _, rfl, .inl (.inl upd_same), rfl, gNames_ok [i, j] [.ref q1, .ref q2] σ _ rfl ?_⟩
  exact p _ _ _ g.ff (st2.grow g)
end
end DL

namespace DL
instance (priority := low) memTriv : Mem := Mem.triv
end DL

set_option maxHeartbeats 1000000
/-! DM1: dicts whose keys are nested tuples, tracked by what is true of their object. -/
namespace DL
open PySem PySem.Spec L2
open PyProof.Rows hiding St

def dN (P : Program) (w : World) (k : Addr) (xs : NXs) : HO := .ext (NRaw P w k xs)
theorem nraw_ok {P : Program} {w : World} {H : Hp} {h : Heap} {k : Addr} {xs : NXs} (r : NRaw P w k xs h) : ObjOk P w H h k (dN P w k xs) :=
  let ⟨a, b, o, es, ep, e, c⟩ := r
  ⟨⟨a, b, o, es, ep, e, c⟩, ⟨o, e⟩, fun h1 h2 ⟨a, b, o, es, ep, e, c⟩ k => ⟨a, b, o, es, ep, k o e, c⟩⟩
theorem nraw_of {P : Program} {w : World} {H : Hp} {h : Heap} {k : Addr} {xs : NXs} (ok : HOk P w H h) (e : H k = some (dN P w k xs)) : NRaw P w k xs h := (ok k _ e).1
section
variable {X : Cx} {pins : List (Addr × Obj)} {σ : St} {H : Hp} {s : Shared}
mutual
theorem nested_of (I : Inv X pins σ H s) : ∀ (k : NestedKey) (v : V) (u : Value), Dp X.K H v k.data → RelV v u → NestedIs s.heap k u
  | .none, _, _, h, r => by cases h; cases r; exact .none
  | .num i, _, _, h, r => by cases h; obtain ⟨t, rfl⟩ := r; exact .int _ _
  | .text x, _, _, h, r => by cases h; obtain ⟨t, rfl⟩ := r; exact .text _ _
  | .tup ks, _, _, h, r => by
    cases h with
    | tup h1 h2 =>
      cases r
      obtain ⟨its, rv, ⟨o, ho, hc, n, hd⟩, _⟩ := I.tuple h1
      exact .tup ho hc hd (by simpa using nesteds_of I ks _ its h2 rv)
theorem nesteds_of (I : Inv X pins σ H s) : ∀ (ks : List NestedKey) (vs : List V) (us : List Value), DpAll X.K H vs (NestedKey.datas ks) → Vals vs us → NestedAll s.heap ks us
  | [], _, _, h, r => by cases h; cases r; exact .nil
  | k :: ks, _, _, h, r => by
    cases h with
    | cons h1 h2 =>
      cases r with
      | cons r1 r2 => exact .cons (nested_of I k _ _ h1 r1) (nesteds_of I ks _ _ h2 r2)
end
end
section
variable {X : Cx} {pins : List (Addr × Obj)} {σ : St} {H : Hp} {s : Shared} {d b : Addr} {xs : NXs} {key : NestedKey} {A : Around} {E : Value → Shared → Prop}
theorem nkey_is (I : Inv X pins σ H s) (h : NKey X.K H key b) : (nestedKind X.prog X.w).is s.heap key b := ⟨nested_of I key (.ref b) (.ref b) h.1 rfl, h.2⟩
theorem dictN (I : Inv X pins σ H s) (e : H d = some (dN X.prog X.w d xs)) (hk : ∀ x ∈ xs, NKey X.K H x.1 x.2.1) : (d == sysModules) = false ∧ xs.length ≤ sizeLine ∧ s.heap.DictOfH (nestedKind X.prog X.w) d xs := by
  obtain ⟨a1, a2, o, es, ep, h1, h2, h3, h4, h5⟩ := nraw_of I.hok e
  exact ⟨a1, a2, o, es, ep, h1, h2, h3, h4, fun x hx => nkey_is I (hk x hx), h5⟩
theorem n_notIn {Q : Value → Shared → Prop} (hu : A.units + 16 < cLine) (I : Inv X pins σ H s) (e : H d = some (dN X.prog X.w d xs)) (hk : ∀ x ∈ xs, NKey X.K H x.1 x.2.1) (kb : NKey X.K H key b) (h : ∀ s', Inv X pins σ H s' → Q (.bool (!(atKey xs key).isSome)) s') :
    wpAny (model X.prog X.w) A (compareOp .NotIn (.ref b) (.ref d)) Q E s := by
  obtain ⟨a1, a2, dd⟩ := dictN I e hk
  exact wpAny_notIn_heap (knd := nestedKind X.prog X.w) (by show A.units + 1 + 8 < cLine; omega) (nkey_is I kb) a1 dd (h _ (I.tok _))
theorem n_getItem {p : Addr × Value} {Q : Value → Shared → Prop} (hu : A.units + 16 < cLine) (I : Inv X pins σ H s) (e : H d = some (dN X.prog X.w d xs)) (hk : ∀ x ∈ xs, NKey X.K H x.1 x.2.1) (kb : NKey X.K H key b) (hp : atKey xs key = some p) (h : ∀ s', Inv X pins σ H s' → Q p.2 s') :
    wpAny (model X.prog X.w) A (getItem (.ref d) (.ref b)) Q E s := by
  obtain ⟨a1, a2, dd⟩ := dictN I e hk
  exact wpAny_getItem_heap (knd := nestedKind X.prog X.w) (by show A.units + 1 + 8 < cLine; omega) (nkey_is I kb) dd hp (h _ (I.tok _))
theorem storedH_le {xs : NXs} {k : NestedKey} {a : Addr} {v : Value} : (storedH xs k a v).length ≤ xs.length + 1 := by
  unfold storedH
  split <;> simp
theorem n_setItem {r : Value} {Q : Unit → Shared → Prop} (hu : A.units + 16 < cLine) (I : Inv X pins σ H s) (e : H d = some (dN X.prog X.w d xs)) (hk : ∀ x ∈ xs, NKey X.K H x.1 x.2.1) (kb : NKey X.K H key b) (hl : xs.length < sizeLine)
    (h : ∀ s', Inv X pins σ (upd H d (dN X.prog X.w d (storedH xs key b r))) s' → Q () s') :
    wpAny (model X.prog X.w) A (setItem (.ref d) (.ref b) r) Q E s := by
  obtain ⟨a1, a2, dd⟩ := dictN I e hk
  refine wpAny_setItem_heap (knd := nestedKind X.prog X.w) (hsz := a2) (by show A.units + 1 + 8 < cLine; omega) (nkey_is I kb) dd fun h' dd' hs => h _ ?_
  obtain ⟨q, es, ep, hq, h2, h3, h4, _, h5⟩ := dd'
  exact d_write I (by rw [e]; exact True.intro) hs ⟨q, hq⟩ (nraw_ok ⟨a1, Nat.le_trans storedH_le hl, q, es, ep, hq, h2, h3, h4, h5⟩)
theorem dictN_type (I : Inv X pins σ H s) (e : H d = some (dN X.prog X.w d xs)) : s.TypeIs (.ref d) "dict" := by
  obtain ⟨_, _, o, _, _, h1, h2, _⟩ := nraw_of I.hok e
  exact ⟨o, h1, h2.1⟩
end
/-- the readings -/
def NHas (X : Cx) (H : Hp) (x y : V) (d b : Addr) (xs : NXs) (key : NestedKey) : Prop := x = .ref d ∧ y = .ref b ∧ H d = some (dN X.prog X.w d xs) ∧ (∀ z ∈ xs, NKey X.K H z.1 z.2.1) ∧ NKey X.K H key b
def tNNotIn (X : Cx) (ty td : TE) : TE := fun σ H Q => ty σ H fun y H1 => td σ H1 fun x H2 => ∃ d b xs key, NHas X H2 x y d b xs key ∧ Q (.bl (!(atKey xs key).isSome)) H2
def tNGet (X : Cx) (td ty : TE) : TE := fun σ H Q => td σ H fun x H1 => ty σ H1 fun y H2 => ∃ d b xs key p v, NHas X H2 x y d b xs key ∧ atKey xs key = some p ∧ RelV v p.2 ∧ Q v H2
def sNPut (X : Cx) (td ty tv : TE) : TS := fun D σ H => tv σ H fun v H1 => td σ H1 fun x H2 => ty σ H2 fun y H3 => ∃ d b xs key, NHas X H3 x y d b xs key ∧ xs.length < sizeLine ∧ ∀ u, RelV v u → D.nx σ (upd H3 d (dN X.prog X.w d (storedH xs key b u)))
def tDNewN (X : Cx) : TE := fun _ H Q => ∀ p, H p = none → Q (.ref p) (upd H p (dN X.prog X.w p []))
section
variable {X : Cx} {o i e value : Expr} {pos pos' tpos : Pos} {td ty tv : TE}
theorem pe_nget (hu : X.A.units + 16 < cLine) (ho : PE X o td) (hi : PE X i ty) (hs : NoSl i) : PE X (.Subscript o i pos) (tNGet X td ty) := by
  refine ⟨fun pins s σ H Q I h => ?_⟩
  refine subD_of PySem.F.slot_dict_getitem.lookup hs (thn (ho.run pins s σ H _ I h) fun u s1 ⟨x, H1, I1, rx, q1⟩ => thn (hi.run pins s1 σ H1 _ I1 q1) fun iv s2 ⟨y, H2, I2, ry, d, b, xs, key, p, v, ⟨ex, ey, e, hk, kb⟩, hp, rv, q2⟩ => ?_)
  subst ex ey
  obtain rfl : u = Value.ref d := rx
  obtain rfl : iv = Value.ref b := ry
  exact ⟨dictN_type I2 e, n_getItem hu I2 e hk kb hp fun s3 I3 => ⟨v, H2, I3, rv, q2⟩⟩
theorem pc_nnotin (hu : X.A.units + 16 < cLine) (hi : PE X i ty) (ho : PE X o td) : PC X .NotIn i o (tNNotIn X ty td) := by
  refine ⟨fun pins s σ H Q I h => ?_⟩
  refine thn (hi.run pins s σ H _ I h) fun iv s1 ⟨y, H1, I1, ry, q1⟩ => thn (ho.run pins s1 σ H1 _ I1 q1) fun u s2 ⟨x, H2, I2, rx, d, b, xs, key, ⟨ex, ey, e, hk, kb⟩, q2⟩ => ?_
  subst ex ey
  obtain rfl : u = Value.ref d := rx
  obtain rfl : iv = Value.ref b := ry
  exact n_notIn hu I2 e hk kb fun s3 I3 => ⟨.bl (!(atKey xs key).isSome), H2, I3, rfl, q2⟩
theorem ps_nput (hu : X.A.units + 16 < cLine) (ho : PE X o td) (hi : PE X i ty) (hv : PE X value tv) (hs : swapsWith value (some (.Subscript o i pos')) pos.line X.env = pure false) :
    PS X (.Assign [.Subscript o i pos'] value pos) (sNPut X td ty tv) := by
  refine ⟨fun pins s σ H D I h => ?_⟩
  refine wpAny_Assign_Subscript (thn (hv.run pins s σ H _ I h) fun r s1 ⟨v, H1, I1, rv, q1⟩ => thn (ho.run pins s1 σ H1 _ I1 q1) fun u s2 ⟨x, H2, I2, rx, q2⟩ => thn (hi.run pins s2 σ H2 _ I2 q2) fun iv s3 ⟨y, H3, I3, ry, d, b, xs, key, ⟨ex, ey, e, hk, kb⟩, hl, q3⟩ => ?_) hs
  subst ex ey
  obtain rfl : u = Value.ref d := rx
  obtain rfl : iv = Value.ref b := ry
  exact n_setItem hu I3 e hk kb hl fun s4 I4 => ⟨σ, _, I4, q3 r rv⟩
theorem pe_dnewN : PE X (.Dict [] [] pos) (tDNewN X) := ⟨fun pins s σ H Q I h =>
  wpAny_Dict_empty ⟨.ref s.heap.objs.size, _, I.laid (a := s.heap.objs.size) (o := dN X.prog X.w s.heap.objs.size []) (t' := s.toks) (fun _ _ q => Heap.get?_push_of_some _ q) (Nat.le_refl _)
    (nraw_ok ⟨beq_eq_false_iff_ne.mpr (Ne.symm (Nat.ne_of_lt I.big)), Nat.zero_le _, _, #[], 0, Heap.get?_push_size _ rfl, ⟨rfl, rfl, rfl⟩, rfl, rfl, List.nodup_nil⟩), rfl, h _ (I.hok.fresh (Nat.le_refl _))⟩⟩
end
end DL

set_option maxHeartbeats 1000000
/-! DM2: fields and methods of objects on data. -/
namespace DL
open PySem PySem.Spec L2
open PyProof.Rows hiding St
variable [Mem]

def fldsOf : List (D × D) → Option (List (Str × D))
  | [] => some []
  | (.str f, d) :: r => (fldsOf r).map ((f, d) :: ·)
  | _ => none
theorem fldsOf_map (kvs : List (Str × D)) : fldsOf (kvs.map fun p => (.str p.1, p.2)) = some kvs := by
  induction kvs with
  | nil => rfl
  | cons p r ih => simp [fldsOf, ih]
theorem fldsOf_inv : ∀ {ds : List (D × D)} {kvs : List (Str × D)}, fldsOf ds = some kvs → ds = kvs.map fun p => (.str p.1, p.2) := fun {ds} => by
  induction ds with
  | nil => intro kvs h; cases h; rfl
  | cons p ds ih =>
    intro kvs h
    obtain ⟨k, v⟩ := p
    cases k with
    | str k =>
      have h : (fldsOf ds).map ((k, v) :: ·) = some kvs := h
      cases e : fldsOf ds with
      | none => rw [e] at h; cases h
      | some l => rw [e] at h; cases h; simp [ih e]
    | _ => cases h
def objOf : D → Option (Str × List (Str × D))
  | .dict ((.str o, .str c) :: r) => if o = "obj" then (fldsOf r).map fun l => (c, l) else none
  | _ => none
theorem objOf_obj (c : Str) (kvs : List (Str × D)) : objOf (objD c kvs) = some (c, kvs) := by
  unfold objOf objD
  simp [fldsOf_map]
theorem objOf_inv {d : D} {c : Str} {kvs : List (Str × D)} (h : objOf d = some (c, kvs)) : d = objD c kvs := by
  unfold objOf at h
  split at h
  · split at h
    · rename_i e
      subst e
      cases e2 : fldsOf ‹_› with
      | none => rw [e2] at h; cases h
      | some l =>
        rw [e2] at h
        cases h
        unfold objD
        rw [← fldsOf_inv e2]
    · cases h
  · cases h
theorem objD_inj {c c' : Str} {kvs kvs' : List (Str × D)} (h : objD c kvs = objD c' kvs') : c = c' ∧ kvs = kvs' := by
  have := objOf_obj c kvs
  rw [h, objOf_obj] at this
  cases this
  exact ⟨rfl, rfl⟩
theorem excD_obj (c : Str) : objOf (excD c) = none := by
  unfold objOf excD
  rfl
theorem dq_obj {K : PySem.W.Frag} {F : Hp} {v : V} {d : D} {c : Str} {kvs : List (Str × D)} (h : DQ K F v d) (e : objOf d = some (c, kvs)) : ObQ K F v (objD c kvs) := by
  have ed := objOf_inv e
  subst ed
  rcases h with h | ⟨a, l, _, e1, _⟩ | ⟨c', e1, _⟩ | h | h | h
  · cases h
  · exfalso
    cases l with
    | nil => cases e1
    | cons p l => simp [IntDic, objD] at e1
  · rw [e1, excD_obj] at e; cases e
  · exact h
  · obtain ⟨_, _, _, _, e1, _⟩ := h
    exact absurd e1 (ord_ne (by decide +kernel))
  · obtain ⟨_, _, _, _, e1, _⟩ := h
    exact absurd e1 (tup_ne (by decide +kernel))
/-- a class of the program's own, as it stands behind the top -/
structure ClI (K : PySem.W.Frag) (mg : Str → Option Value) (x : Str) where
  C : Addr
  n : PySem.W.nsIn K mainGlobals x = some (some (.ref C))
  m : mg x = some (.ref C)
  cl : Cls K C
theorem ns_inj {K : PySem.W.Frag} {x : Str} {C C' : Addr} (h : PySem.W.nsIn K mainGlobals x = some (some (.ref C))) (k : PySem.W.nsIn K mainGlobals x = some (some (.ref C'))) : C' = C := by
  rw [h] at k; cases k; rfl
/-- what stands at f of an object of one of the classes cns -/
def fldO (cns : List Str) (f : Str) : Option (Str × List (Str × D)) → R D
  | some (c, kvs) => if c ∈ cns then R.of (kvs.lookup f) else .bad
  | none => .bad
/-- e.f, whatever it is -/
def fldQ (cns : List Str) (f : Str) (fe : EF) : EF := bE fe fun d _ => fldO cns f (objOf d)
/-- e.f, data -/
def fldE (cns : List Str) (f : Str) (fe : EF) : EF := bE (fldQ cns f fe) fun d _ => okD d
section
variable {X : Cx} {Er : ErT} {te : TE} {ta : TA} {e : Expr} {fe : EF} {pos : Pos}
theorem deq_fld {cns : List Str} {f : Str} (h : DEq X Er e te fe) (hc : ∀ c ∈ cns, ∀ C, PySem.W.nsIn X.K mainGlobals c = some (some (.ref C)) → Cls X.K C ∧ NoAttr X.K C f) (hb : attributeBase e f X.env (eval e X.env) = eval e X.env := by rfl) :
    DEq X Er (.Attribute e f pos) (tFld X.K te f) (fldQ cns f fe) := by
  refine ⟨pe_fld h.pe hb, fun F H σ ρ Q s st p => ?_⟩
  refine h.rd F H σ ρ _ s st (Post.imp (Post.bind p) fun F1 H1 d g1 p1 v dv => ?_)
  cases eo : objOf d with
  | none => simp only [eo] at p1; exact p1.elim
  | some q =>
    obtain ⟨c, kvs⟩ := q
    simp only [eo, fldO] at p1
    by_cases hcm : c ∈ cns
    · rw [if_pos hcm] at p1
      obtain ⟨a, fs, c', kvs', rfl, e2, e3, e4, e5, e6⟩ := dq_obj dv eo
      obtain ⟨rfl, rfl⟩ := objD_inj e2
      obtain ⟨C, dx, n1, n2, n3⟩ := e4.at_
      obtain ⟨k1, k2⟩ := hc c hcm C n1
      cases el : kvs.lookup f with
      | none => rw [el] at p1; exact p1.elim
      | some d' =>
        rw [el] at p1
        have hm : (f, d') ∈ kvs := by
          have : ∀ l : List (Str × D), l.lookup f = some d' → (f, d') ∈ l := fun l => by
            induction l with
            | nil => intro h; cases h
            | cons x l ih =>
              intro h
              obtain ⟨x1, x2⟩ := x
              by_cases hx : f = x1
              · subst hx
                simp at h
                subst h
                exact List.mem_cons_self
              · rw [List.lookup_cons] at h
                rw [show (f == x1) = false from beq_eq_false_iff_ne.mpr hx] at h
                exact List.mem_cons_of_mem _ (ih h)
          exact this kvs el
        obtain ⟨u, l1, l2⟩ := e5 (f, d') hm
        refine ⟨a, C, dx, fs, u, rfl, g1.fh.s a _ n2, k1, k2, l1, ?_⟩
        refine Post.now p1 g1.fh u ?_
        rcases l2 with l2 | l2
        · exact .inl l2
        · obtain ⟨a, fs, c, kvs, q1, q2, q3, q4, q5, q6⟩ := l2
          exact .inr (.inr (.inr (.inl ⟨a, fs, c, kvs, q1, q2, q3, q4, fun p hp => let ⟨u, y1, y2⟩ := q5 p hp; ⟨u, y1, .inl y2⟩, q6⟩)))
    · rw [if_neg hcm] at p1; exact p1.elim
theorem dr_okq {te : TE} {fe : EF} {K : PySem.W.Frag} (h : DRe K Er te fe) : DRd K Er te (bE fe fun d _ => okD d) := by
  intro F H σ ρ Q s st p
  refine h F H σ ρ _ s st (Post.imp (Post.bind p) fun F1 H1 d g1 p1 v dv => ?_)
  cases k : okD d with
  | ok z =>
    obtain ⟨q1, rfl⟩ := dq_dp dv k
    simp only [k] at p1
    exact Post.now p1 g1.fh v q1
  | err c => cases d <;> cases k
  | bad => simp only [k] at p1; exact p1.elim
theorem de_fld {cns : List Str} {f : Str} (h : DEq X Er e te fe) (hc : ∀ c ∈ cns, ∀ C, PySem.W.nsIn X.K mainGlobals c = some (some (.ref C)) → Cls X.K C ∧ NoAttr X.K C f) (hb : attributeBase e f X.env (eval e X.env) = eval e X.env := by rfl) :
    DE X Er (.Attribute e f pos) (tFld X.K te f) (fldE cns f fe) :=
  ⟨(deq_fld (pos := pos) h hc hb).pe, dr_okq (deq_fld (pos := pos) h hc hb).rd⟩
/-- e.m(..), a method of the class cn -/
def methO (cn m : Str) : Option (Str × List (Str × D)) → Bool
  | some (c, kvs) => decide (c = cn) && (kvs.lookup m).isNone && decide (m ≠ "known")
  | none => false
def methE (cn m : Str) (g : List D → R D) (fe : EF) (fa : AF) : EF := bE fe fun d => if methO cn m (objOf d) = true then bE fa fun ds _ => g (d :: ds) else fun _ => .bad
theorem lookup_none {kvs : List (Str × D)} {m : Str} (h : (kvs.lookup m).isNone = true) : m ∉ kvs.map (·.1) := by
  induction kvs with
  | nil => simp
  | cons x l ih =>
    obtain ⟨x1, x2⟩ := x
    rw [List.lookup_cons] at h
    by_cases hx : m = x1
    · subst hx; simp at h
    · rw [show (m == x1) = false from beq_eq_false_iff_ne.mpr hx] at h
      simp only at h
      have := ih h
      simp only [List.map_cons, List.mem_cons, not_or]
      exact ⟨hx, this⟩
theorem dr_meth {K : PySem.W.Frag} {mg : Str → Option Value} {E : XK} {C : Addr} {cn m : Str} {n : Nat} {g : List D → R D} {fa : AF} (hC : PySem.W.nsIn K mainGlobals cn = some (some (.ref C))) (he : ∀ c H', Er c H' → erX mg E c H') (hn : ∀ ρ ds, fa ρ = .ok ds → ds.length + 1 = n) (h : DRe K Er te fe) (ha : DRq K Er ta fa) :
    DRd K Er (tMeth C m (spD K mg n g) [] E te ta) (methE cn m g fe fa) := by
  intro F H σ ρ Q s st p
  refine h F H σ ρ _ s st (Post.imp (Post.bind p) fun F1 H1 d g1 p1 v dv => ?_)
  cases eo : objOf d with
  | none => simp only [eo, methO] at p1; exact p1.elim
  | some q =>
    obtain ⟨c, kvs⟩ := q
    simp only [eo] at p1
    by_cases hm : methO cn m (some (c, kvs)) = true
    · rw [if_pos hm] at p1
      simp only [methO, Bool.and_eq_true, decide_eq_true_eq] at hm
      obtain ⟨⟨rfl, hm1⟩, hm2⟩ := hm
      have dv' := dv
      obtain ⟨a, fs, c', kvs', rfl, e2, e3, e4, e5, e6⟩ := dq_obj dv eo
      obtain ⟨rfl, rfl⟩ := objD_inj e2
      obtain ⟨C', dx, n1, n2, n3⟩ := e4.at_
      have := ns_inj hC n1
      subst this
      refine ⟨a, dx, fs, rfl, g1.fh.s a _ n2, e6 m hm2 (lookup_none hm1), ?_⟩
      refine ha F1 H1 σ ρ _ g1.fh (st.mono g1.ff) ?_
      have q := Post.bind p1
      cases hr : fa ρ with
      | ok ds =>
        rw [hr] at q
        intro F' H' g' vs dvs
        rw [List.append_nil]
        have := dqAll_len dvs
        have := hn ρ ds hr
        exact ⟨by simp; omega, ‹Mem›, F', d :: ds, g'.fh, ⟨dq_mono g'.ff dv', dvs⟩, Post.er (q F' H' g') he⟩
      | err c => rw [hr] at q; exact q
      | bad => rw [hr] at q; exact q
    · rw [if_neg hm] at p1; exact p1.elim
theorem de_meth {pl : Sem Bool} {CX : CXT} {k n : Nat} {f : Addr} {fd : FuncData} {ps : List Str} {E : XK} {C : Addr} {cn m : Str} {g : List D → R D} {fa : AF} {e1 : Expr} {es : List Expr} {apos : Pos} (h : DEq X Er e te fe) (hC : PySem.W.nsIn X.K mainGlobals cn = some (some (.ref C))) (c : Cls X.K C) (hm : Meth X.K C m f)
    (F : FnOk X.prog X.w X.K X.mg X.base CX k f fd ps (spD X.K X.mg n g)) (hr : Room k X.A) (hb : Binds X.K fd ps []) (hx : Passes CX X E) (he : ∀ c H', Er c H' → erX X.mg E c H') (ha : DAq X Er (e1 :: es) ta fa) (hn : ∀ ρ ds, fa ρ = .ok ds → ds.length + 1 = n)
    (hst : starEach (e1 :: es) X.env = (false, eval e1 X.env) :: starEach es X.env := by rfl) (hpl : (backTo pos (starEach es X.env)).any (·.1) = false := by rfl)
    (ht : eval (.Call (.Attribute e m apos) (e1 :: es) [] pos) X.env = (do
      let ov ← eval e X.env
      standAt apos.atName
      let (f, first) ← holding [ov] (getMethod ov m pl)
      callWith pos f first (backTo pos (starEach (e1 :: es) X.env)) (backToKw pos (keywordEach [] X.env))) := by rfl) :
    DE X Er (.Call (.Attribute e m apos) (e1 :: es) [] pos) (tMeth C m (spD X.K X.mg n g) [] E te ta) (methE cn m g fe fa) :=
  ⟨pe_meth h.pe c hm F hr hb .nil hx ha.pe hst hpl ht, dr_meth hC he hn h.rd ha.rd⟩
end
end DL

set_option maxHeartbeats 1000000
/-! DM3: a memo: if k not in self.known: .. self.known[k] = e; return self.known[k] -/
namespace DL
open PySem PySem.Spec L2
open PyProof.Rows hiding St

/-! ### which keys there can be -/
def allL : Nat → List (List Nat)
  | 0 => [[]]
  | k + 1 => [] :: (List.range 16).flatMap fun d => (allL k).map (d :: ·)
theorem sum_const {α : Type} (c : Nat) (l : List α) : (l.map fun _ => c).sum = l.length * c := by
  induction l with
  | nil => simp
  | cons x l ih => rw [List.map_cons, List.sum_cons, ih, List.length_cons, Nat.succ_mul, Nat.add_comm]
theorem allL_len (k : Nat) : (allL (k + 1)).length = 1 + 16 * (allL k).length := by
  show ([] :: (List.range 16).flatMap fun d => (allL k).map (d :: ·)).length = _
  rw [List.length_cons, List.length_flatMap]
  simp only [List.length_map]
  rw [sum_const, List.length_range, Nat.add_comm]
theorem mem_allL : ∀ (k : Nat) (l : List Nat), l.length ≤ k → (∀ x ∈ l, x < 16) → l ∈ allL k
  | 0, l, h, _ => by rw [List.eq_nil_of_length_eq_zero (Nat.le_zero.mp h)]; simp [allL]
  | k + 1, [], _, _ => by simp [allL]
  | k + 1, x :: l, h, hx => by
    refine List.mem_cons_of_mem _ (List.mem_flatMap.mpr ⟨x, List.mem_range.mpr (hx x List.mem_cons_self), List.mem_map.mpr ⟨l, mem_allL k l (by simpa using h) fun y hy => hx y (List.mem_cons_of_mem _ hy), rfl⟩⟩)
def allKeys : List NestedKey := (List.range 9).flatMap fun at_ => (allL 4).map fun ls => .tup [.num (at_ : Nat), .tup (ls.map fun n => .num (n : Nat))]
theorem allKeys_len : allKeys.length = 629145 := by
  have h : (allL 4).length = 69905 := by
    rw [allL_len 3, allL_len 2, allL_len 1, allL_len 0]
    rfl
  unfold allKeys
  rw [List.length_flatMap]
  simp only [List.length_map, h]
  rw [sum_const, List.length_range]
theorem nodup_len {α : Type} [DecidableEq α] : ∀ (l D : List α), l.Nodup → (∀ x ∈ l, x ∈ D) → l.length ≤ D.length
  | [], _, _, _ => Nat.zero_le _
  | x :: l, D, hn, h => by
    rw [List.nodup_cons] at hn
    have ih := nodup_len l (D.erase x) hn.2 fun y hy => by
      have hyx : y ≠ x := fun e => hn.1 (e ▸ hy)
      exact (List.mem_erase_of_ne hyx).mpr (h y (List.mem_cons_of_mem _ hy))
    have hx := h x List.mem_cons_self
    rw [List.length_erase_of_mem hx] at ih
    have : 0 < D.length := List.length_pos_of_mem hx
    rw [List.length_cons]
    omega
def natOf : D → Option Nat
  | .int i => if 0 ≤ i ∧ i < 16 then some i.toNat else none
  | _ => none
def natsOf : List D → Option (List Nat)
  | [] => some []
  | d :: ds => (natOf d).bind fun n => (natsOf ds).map (n :: ·)
/-- a key (at, last): at below 9, at most four numbers below 16 -/
def keyD : D → Option NestedKey
  | .tuple [.int a, .tuple ls] => if 0 ≤ a ∧ a < 9 ∧ ls.length ≤ 4 then (natsOf ls).map fun l => .tup [.num a, .tup (l.map fun n => .num (n : Nat))] else none
  | _ => none
theorem natsOf_ok : ∀ {ds : List D} {l : List Nat}, natsOf ds = some l → ds = l.map (fun n => .int (n : Nat)) ∧ ∀ x ∈ l, x < 16
  | [], l, h => by cases h; simp
  | d :: ds, l, h => by
    unfold natsOf at h
    cases e : natOf d with
    | none => rw [e] at h; cases h
    | some n =>
      rw [e] at h
      cases e2 : natsOf ds with
      | none => rw [e2] at h; cases h
      | some m =>
        rw [e2] at h
        cases h
        obtain ⟨q1, q2⟩ := natsOf_ok e2
        have q3 : d = .int (n : Nat) ∧ n < 16 := by
          cases d with
          | int i =>
            simp only [natOf] at e
            split at e
            · cases e
              rename_i hi
              exact ⟨by congr 1; omega, by omega⟩
            · cases e
          | _ => cases e
        refine ⟨by rw [q1, q3.1]; rfl, fun x hx => ?_⟩
        rcases List.mem_cons.mp hx with rfl | hx
        · exact q3.2
        · exact q2 x hx
theorem datas_nums (l : List Nat) : NestedKey.datas (l.map fun n => .num (n : Nat)) = l.map fun n => .int (n : Nat) := by
  induction l with
  | nil => rfl
  | cons x l ih => simp [NestedKey.datas, NestedKey.data, ih]
theorem depth_nums (l : List Nat) : NestedKey.depthAll (l.map fun n => .num (n : Nat)) = 0 := by
  induction l with
  | nil => rfl
  | cons x l ih => simp [NestedKey.depthAll, NestedKey.depth, ih]
theorem keyD_ok {d : D} {key : NestedKey} (h : keyD d = some key) : key.data = d ∧ key.depth ≤ 8 ∧ key ∈ allKeys ∧ ∃ (a : Int) (ls : List D), d = .tuple [.int a, .tuple ls] ∧ noList d = true := by
  unfold keyD at h
  split at h
  · rename_i a ls
    split at h
    · rename_i hc
      cases e : natsOf ls with
      | none => rw [e] at h; cases h
      | some l =>
        rw [e] at h
        cases h
        obtain ⟨q1, q2⟩ := natsOf_ok e
        have hl : l.length ≤ 4 := by rw [q1] at hc; simpa using hc.2.2
        refine ⟨?_, ?_, ?_, a, ls, rfl, ?_⟩
        · simp only [NestedKey.data, NestedKey.datas, datas_nums, q1]
        · simp [NestedKey.depth, NestedKey.depthAll, depth_nums]
        · refine List.mem_flatMap.mpr ⟨a.toNat, List.mem_range.mpr (by omega), List.mem_map.mpr ⟨l, mem_allL 4 l hl q2, ?_⟩⟩
          rw [Int.toNat_of_nonneg hc.1]
        · have : ∀ l : List Nat, noListA (l.map fun n => PyData.int (n : Nat)) = true := fun l => by
            induction l with
            | nil => rfl
            | cons x l ih => simp [noListA, noList, ih]
          rw [q1]
          simp [noList, noListA, this]
    · cases h
  · cases h
theorem keyD_inj {d : D} {k k' : NestedKey} (h : keyD d = some k) (h' : keyD k'.data = some k') (e : k'.data = d) : k' = k := by
  rw [e, h] at h'; cases h'; rfl

/-! ### a good memo -/
def memGood (P : Program) (w : World) (K : PySem.W.Frag) (G : D → R D) (F : Hp) (k : Addr) (o : HO) : Prop :=
  ∃ xs, o = dN P w k xs ∧ (xs.map (·.1)).Nodup ∧ ∀ x ∈ xs, NKey K F x.1 x.2.1 ∧ keyD x.1.data = some x.1 ∧ ∃ v d, RelV v x.2.2 ∧ Dp K F v d ∧ noList d = true ∧ G x.1.data = .ok d
theorem memGood_mono {P : Program} {w : World} {K : PySem.W.Frag} {G : D → R D} {F F' : Hp} {k : Addr} {o : HO} (h : memGood P w K G F k o) (s : Same F F') : memGood P w K G F' k o := by
  obtain ⟨xs, e, n, q⟩ := h
  refine ⟨xs, e, n, fun x hx => ?_⟩
  obtain ⟨a, b, v, d, c, e, f⟩ := q x hx
  exact ⟨a.mono s, b, v, d, c, dp_mono s _ _ e, f⟩
theorem memGood_drop {P : Program} {w : World} {K : PySem.W.Frag} {G : D → R D} {F W : Hp} {k : Addr} {o : HO} (s : ∀ a, F a = W a ∨ ∃ xs, W a = some (.lst xs)) (h : memGood P w K G W k o) : memGood P w K G F k o := by
  obtain ⟨xs, e, n, q⟩ := h
  refine ⟨xs, e, n, fun x hx => ?_⟩
  obtain ⟨a, b, v, d, c, e, f, g⟩ := q x hx
  obtain ⟨_, _, _, _, _, _, nl⟩ := keyD_ok b
  exact ⟨⟨dp_drop s _ _ nl a.1, a.2⟩, b, v, d, c, dp_drop s _ _ f e, f, g⟩
theorem mem_len {xs : NXs} (n : (xs.map (·.1)).Nodup) (h : ∀ x ∈ xs, keyD x.1.data = some x.1) : xs.length < sizeLine := by
  have := nodup_len (xs.map (·.1)) allKeys n fun k hk => by
    obtain ⟨x, hx, rfl⟩ := List.mem_map.mp hk
    exact (keyD_ok (h x hx)).2.2.1
  rw [List.length_map, allKeys_len] at this
  exact sz_lt (by omega)
theorem atKey_mem {xs : NXs} {k : NestedKey} {p : Addr × Value} (h : atKey xs k = some p) : (k, p) ∈ xs := by
  unfold atKey at h
  cases e : xs.find? (fun x => decide (x.1 = k)) with
  | none => rw [e] at h; cases h
  | some x =>
    rw [e] at h
    cases h
    have h1 := List.mem_of_find?_eq_some e
    have h2 := List.find?_some e
    have : x.1 = k := by simpa using h2
    rw [← this]
    exact h1
theorem atKey_stored {xs : NXs} {k : NestedKey} (a : Addr) (u : Value) : ∃ b, atKey (storedH xs k a u) k = some (b, u) := by
  unfold storedH
  by_cases h : (atKey xs k).isSome = true
  · rw [if_pos h]
    obtain ⟨p, hp⟩ := Option.isSome_iff_exists.mp h
    refine ⟨p.1, ?_⟩
    have key : ∀ l : NXs, atKey l k = some p → atKey (l.map (putAt k u)) k = some (p.1, u) := fun l => by
      induction l with
      | nil => intro h; cases h
      | cons x l ih =>
        intro h
        by_cases hx : x.1 = k
        · have : x.2 = p := by simpa [atKey, hx] using h
          simp [atKey, putAt, hx, ← this]
        · have h' : atKey l k = some p := by simpa [atKey, hx] using h
          have := ih h'
          simpa [atKey, putAt, hx] using this
    exact key xs hp
  · rw [if_neg h]
    have hn : atKey xs k = none := by simpa using h
    refine ⟨a, ?_⟩
    have key : ∀ l : NXs, atKey l k = none → atKey (l ++ [(k, a, u)]) k = some (a, u) := fun l => by
      induction l with
      | nil => intro _; simp [atKey]
      | cons x l ih =>
        intro h
        by_cases hx : x.1 = k
        · simp [atKey, hx] at h
        · have h' : atKey l k = none := by simpa [atKey, hx] using h
          have := ih h'
          simpa [atKey, hx] using this
    exact key xs hn
theorem memGood_put {P : Program} {w : World} {K : PySem.W.Frag} {G : D → R D} {F : Hp} {k b : Addr} {xs : NXs} {key : NestedKey} {v : V} {d : D} {u : Value} (n : (xs.map (·.1)).Nodup) (q : ∀ x ∈ xs, NKey K F x.1 x.2.1 ∧ keyD x.1.data = some x.1 ∧ ∃ v d, RelV v x.2.2 ∧ Dp K F v d ∧ noList d = true ∧ G x.1.data = .ok d)
    (kb : NKey K F key b) (hk : keyD key.data = some key) (rv : RelV v u) (dv : Dp K F v d) (nl : noList d = true) (hg : G key.data = .ok d) : memGood P w K G F k (dN P w k (storedH xs key b u)) := by
  refine ⟨_, rfl, ?_, fun x hx => ?_⟩
  · unfold storedH
    split
    · rw [List.map_map]
      have : ((fun x : NestedKey × Addr × Value => x.1) ∘ putAt key u) = fun x => x.1 := by
        funext x
        simp only [Function.comp, putAt]
        split <;> rfl
      rw [this]
      exact n
    · rename_i hn
      rw [List.map_append, List.nodup_append]
      refine ⟨n, by simp, fun x hx y hy e => ?_⟩
      simp only [List.map_cons, List.map_nil, List.mem_singleton] at hy
      subst hy; subst e
      obtain ⟨z, hz, e⟩ := List.mem_map.mp hx
      apply hn
      unfold atKey
      rw [Option.isSome_map, List.find?_isSome]
      exact ⟨z, hz, by simpa using e⟩
  · unfold storedH at hx
    split at hx
    · obtain ⟨y, hy, rfl⟩ := List.mem_map.mp hx
      unfold putAt
      split
      · rename_i e
        obtain ⟨a1, a2, _⟩ := q y hy
        exact ⟨a1, a2, v, d, rv, dv, nl, by rw [e]; exact hg⟩
      · exact q y hy
    · rcases List.mem_append.mp hx with hx | hx
      · exact q x hx
      · rw [List.mem_singleton] at hx
        subst hx
        exact ⟨kb, hk, v, d, rv, dv, nl, hg⟩
/-- the memos that are linked are good by G -/
def MemV [Mem] (P : Program) (w : World) (K : PySem.W.Frag) (cn : Str) (G : D → D → R D) : Prop := ∀ kvs k, Mem.lk (objD cn kvs) k → Mem.is k ∧ ∀ F o, Mem.good F k o ↔ memGood P w K (G (objD cn kvs)) F k o
/-- the promise of a method that uses the memo -/
def spW (P : Program) (w : World) (K : PySem.W.Frag) (mg : Str → Option Value) (cn : Str) (G : D → D → R D) (n : Nat) (g : List D → R D) : Sp := fun vs H Q E =>
  vs.length = n ∧ ∃ (M : Mem) (F : Hp) (ds : List D), MemV P w K cn G ∧ Wf F H ∧ DQAll K F vs ds ∧ Post F H (erX mg E) (g ds) (fun F' H' d => ∀ v, Dp K F' v d → Q v H')
end DL

set_option maxHeartbeats 1000000
/-! DM4: the memo's statement, and a method that holds it. -/
namespace DL
open PySem PySem.Spec L2
open PyProof.Rows hiding St
variable [Mem]

def outM : Out → R D
  | .nx _ => .ok .none
  | .rt d _ => .ok d
  | .err c _ => .err c
  | _ => .bad
def clsIs (cn : Str) (d : D) : Bool := match objOf d with
  | some (c, _) => decide (c = cn)
  | none => false
/-- what runs ahead of the store changes none of the first three slots -/
def AOk (o : Out) (ρ : Env) : Prop := match o with
  | .nx ρ' => ρ'.length = ρ.length ∧ ∀ i, i < 3 → ρ'[i]? = ρ[i]?
  | .err _ ρ' => ρ'.length = ρ.length
  | .bad => True
  | _ => False
def memoO (m : Nat) (b : Bool) (r : R D) : Out := if b = true then (match r with
  | .ok d => if noList d = true then .rt d (List.replicate m none) else .bad
  | .err c => .err c (List.replicate m none)
  | .bad => .bad) else .bad
def memoS (cn : Str) (G : D → D → R D) (cond : D → D → Bool) (m : Nat) : SF := fun ρ => match ρ with
  | some d0 :: some k1 :: some k2 :: r => memoO (r.length + 3) (clsIs cn d0 && (keyD (.tuple [k1, k2])).isSome && cond d0 (.tuple [k1, k2]) && (r.all (·.isNone) && decide (r.length = m))) (G d0 (.tuple [k1, k2]))
  | _ => .bad
abbrev tKey : TE := tTup (tCons (tVar 1) (tCons (tVar 2) tNil))
abbrev tKnown (K : PySem.W.Frag) : TE := tFld K (tVar 0) "known"
section
variable {X : Cx} {Er : ErT} {s0 : Sh} {wl w w1 w' : List Sh} {fr : Fr} {F H : Hp} {σ : St} {ρ : Env}
theorem SR.memo {k : Addr} {o : HO} (h : SR X.K fr w F H σ ρ) (hk : Mem.is k) (g : Mem.good F k o) : SR X.K fr w F (upd H k o) σ ρ := by
  obtain ⟨os, s⟩ := h
  have fk := (s.fh.m k hk).1
  refine ⟨os, ⟨fun a u e => ?_, fun a z => ?_⟩, fun a u n e => ?_, s.f0, s.nw, fun i a u e => ?_, s.ow, s.sl, s.len, s.om⟩
  · rw [upd_ne (ne_of_none e fk)]; exact s.fh.s a u e
  · by_cases ha : a = k
    · subst ha; exact ⟨fk, o, upd_same, g⟩
    · rw [upd_ne ha]; exact s.fh.m a z
  · rw [upd_ne (fun z => n (by rw [z]; exact hk))]; exact s.gh a u n e
  · rw [upd_ne (fun z => s.om i a (by rw [e]; simp) (by rw [z]; exact hk))]; exact s.oh i a u e
/-- the object in slot 0 and its memo -/
theorem self_at {cn : Str} {G : D → D → R D} {d0 : D} (hv : MemV X.prog X.w X.K cn G) (hcl : ∀ C, PySem.W.nsIn X.K mainGlobals cn = some (some (.ref C)) → Cls X.K C ∧ NoAttr X.K C "known") (st : SR X.K fr w F H σ ρ) (e : ρ[0]? = some (some d0)) (hw : sh w 0 = .fz) (hc : clsIs cn d0 = true) :
    ∃ a C dx fs kad, σ[0]? = some (some (.ref a)) ∧ F a = some (.ins C dx fs) ∧ Cls X.K C ∧ NoAttr X.K C "known" ∧ fs.lookup ("known" : Str) = some (.ref kad) ∧ Mem.is kad ∧ ∀ F o, Mem.good F kad o ↔ memGood X.prog X.w X.K (G d0) F kad o := by
  obtain ⟨os, s⟩ := st
  obtain ⟨v, q1, q2⟩ := s.sl 0 d0 e
  rw [hw] at q2
  unfold clsIs at hc
  cases eo : objOf d0 with
  | none => rw [eo] at hc; cases hc
  | some q =>
    obtain ⟨c, kvs⟩ := q
    rw [eo] at hc
    simp only [decide_eq_true_eq] at hc
    subst hc
    obtain ⟨a, fs, c', kvs', rfl, e2, ⟨kad, l1, l2⟩, e4, _, _⟩ := dq_obj q2 eo
    obtain ⟨rfl, rfl⟩ := objD_inj e2
    obtain ⟨C, dx, n1, n2, n3⟩ := e4.at_
    obtain ⟨k1, k2⟩ := hcl C n1
    obtain ⟨m1, m2⟩ := hv kvs kad l2
    rw [objOf_inv eo]
    exact ⟨a, C, dx, fs, kad, q1, n2, k1, k2, l1, m1, m2⟩
/-- the key laid anew -/
theorem key_at {k1 k2 : D} {key : NestedKey} {Q : VK} (st : SR X.K fr w F H σ ρ) (e1 : ρ[1]? = some (some k1)) (e2 : ρ[2]? = some (some k2)) (h1 : sh w 1 = .fz) (h2 : sh w 2 = .fz) (hk : keyD (.tuple [k1, k2]) = some key)
    (q : ∀ (b : Addr) (o : HO) (F1 : Hp), H b = none → SR X.K fr w F1 (upd H b o) σ ρ → Same F F1 → NKey X.K F1 key b → Q (.ref b) (upd H b o)) : tKey σ H Q := by
  obtain ⟨hd, h8, _, a, ls, ed, nl⟩ := keyD_ok hk
  cases ed
  have st0 := st
  obtain ⟨os, s⟩ := st
  obtain ⟨v1, a1, b1⟩ := s.sl 1 _ e1
  obtain ⟨v2, a2, b2⟩ := s.sl 2 _ e2
  rw [h1] at b1
  rw [h2] at b2
  have c1 := (dq_dp b1 rfl).1
  have c2 := (dq_dp b2 rfl).1
  refine ⟨v1, a1, v2, a2, sz_of (by simp), fun b hb => ?_⟩
  have g := Grow.new (o := .tup [v1, v2]) s.fh hb
  refine q b _ _ hb (st0.grow g) g.ff ⟨?_, h8⟩
  rw [hd]
  exact .tup (.inl (.inl upd_same)) (.cons (dp_mono g.ff _ _ c1) (.cons (dp_mono g.ff _ _ c2) .nil))
theorem SR.blank {r : List (Option D)} (h : SR X.K fr w F H σ ρ) (hl : r.length = ρ.length) (hn : ∀ (i : Nat) (d : D), r[i]? ≠ some (some d)) : SR X.K fr w F H σ r := h.weak hl fun i d e => absurd e (hn i d)
theorem rep_none {m i : Nat} {d : D} : (List.replicate m (none : Option D))[i]? ≠ some (some d) := fun e => by
  have := List.mem_of_getElem? e
  rw [List.mem_replicate] at this
  cases this.2
theorem dr_memo {cn : Str} {G : D → D → R D} {cond : D → D → Bool} {m : Nat} {tA : TS} {tE : TE} {fA : SF} {fE : EF} (hv : MemV X.prog X.w X.K cn G) (hcl : ∀ C, PySem.W.nsIn X.K mainGlobals cn = some (some (.ref C)) → Cls X.K C ∧ NoAttr X.K C "known")
    (hw : ∀ j, j < 3 → sh w j = .fz) (hw1 : ∀ j, j < 3 → sh w1 j = .fz) (h0 : s0 = .fz) (hA : DRs X.K Er s0 wl w w1 tA fA) (hE : DRd X.K Er tE fE)
    (hA1 : ∀ ρ, AOk (fA ρ) ρ)
    (hG : ∀ d0 k1 k2, cond d0 (.tuple [k1, k2]) = true → outM (seqS fA (retS w1 fE) (some d0 :: some k1 :: some k2 :: List.replicate m none)) = G d0 (.tuple [k1, k2])) :
    DRs X.K Er s0 wl w w' (tSeq (tIfS (tB (tNNotIn X tKey (tKnown X.K))) (tSeq tA (sNPut X (tKnown X.K) tKey tE)) tNext) (tRet (tNGet X (tKnown X.K) tKey))) (memoS cn G cond m) := by
  subst h0
  intro fr F H σ ρ Dn st p
  match ρ, st, p with
  | some d0 :: some k1 :: some k2 :: r, st, p =>
    simp only [memoS] at p
    generalize hb : (clsIs cn d0 && (keyD (.tuple [k1, k2])).isSome && cond d0 (.tuple [k1, k2]) && (r.all (·.isNone) && decide (r.length = m))) = bb at p
    cases bb with
    | false => exact p.elim
    | true =>
    simp only [Bool.and_eq_true] at hb
    obtain ⟨⟨⟨hc, hk⟩, hcd⟩, hr, hrl⟩ := hb
    obtain ⟨key, hk⟩ := Option.isSome_iff_exists.mp hk
    have hr' : r = List.replicate m none := List.eq_replicate_iff.mpr ⟨by simpa using hrl, fun x hx => by simpa using List.all_eq_true.mp hr x hx⟩
    have hg := hG d0 k1 k2 hcd
    rw [← hr'] at hg
    obtain ⟨kd, k8, _, _, _, _, knl⟩ := keyD_ok hk
    have hkk : keyD key.data = some key := by rw [kd]; exact hk
    obtain ⟨a, C, dx, fs, kad, z1, z2, z3, z4, z5, z6, z7⟩ := self_at hv hcl st rfl (hw 0 (by omega)) hc
    simp only [memoO, if_pos] at p
    -- the test
    dsimp only [tSeq, tIfS, tB, tNNotIn]
    refine key_at st rfl rfl (hw 1 (by omega)) (hw 2 (by omega)) hk fun b o F1 hb st1 sF1 kb => ?_
    have nkb : kad ≠ b := fun e => by subst e; exact st.fh.no hb z6
    refine ⟨.ref a, z1, a, C, dx, fs, .ref kad, rfl, st1.fh.s a _ (sF1 a _ z2), z3, z4, z5, ?_⟩
    obtain ⟨fk, om, ho, hgood⟩ := st1.fh.m kad z6
    obtain ⟨xs, rfl, nd, hxs⟩ := (z7 _ _).mp hgood
    have lift : ∀ {H2 : Hp} {F2 : Hp} {k : NestedKey} {c : Addr}, Same F2 H2 → NKey X.K F2 k c → NKey X.K H2 k c := fun s h => h.mono s
    refine ⟨kad, b, xs, key, ⟨rfl, rfl, ho, fun x hx => (hxs x hx).1.mono st1.fh.s, kb.mono st1.fh.s⟩, _, rfl, ?_⟩
    -- what is read at the end
    have fin : ∀ (a : Addr) (C dx : Addr) (fs : List (Str × V)) (kad : Addr), Cls X.K C → NoAttr X.K C "known" → fs.lookup ("known" : Str) = some (.ref kad) → ∀ (σ3 : St) (H3 F3 : Hp) (ρ3 : Env) (w3 : List Sh) (ys : NXs) (p3 : Addr × Value) (v3 : V) (d3 : D), (∀ j, j < 3 → sh w3 j = .fz) → SR X.K fr w3 F3 H3 σ3 ρ3 → ρ3.length = r.length + 3 → (∀ i, i < 3 → ρ3[i]? = (some d0 :: some k1 :: some k2 :: r)[i]?) → σ3[0]? = some (some (.ref a)) → F3 a = some (.ins C dx fs) → H3 kad = some (dN X.prog X.w kad ys) → (∀ x ∈ ys, NKey X.K F3 x.1 x.2.1) →
        atKey ys key = some p3 → RelV v3 p3.2 → Dp X.K F3 v3 d3 → noList d3 = true → G d0 (.tuple [k1, k2]) = .ok d3 → tRet (tNGet X (tKnown X.K) tKey) Dn σ3 H3 := fun a C dx fs kad z3 z4 z5 σ3 H3 F3 ρ3 w3 ys p3 v3 d3 hw3 st3 hl3 hρ3 q1 q2 q3 q4 q5 q6 q7 q8 q9 => by
      refine ⟨.ref a, q1, a, C, dx, fs, .ref kad, rfl, st3.fh.s a _ q2, z3, z4, z5, ?_⟩
      refine key_at st3 (hρ3 1 (by omega)) (hρ3 2 (by omega)) (hw3 1 (by omega)) (hw3 2 (by omega)) hk fun b2 o2 F4 hb2 st4 sF4 kb2 => ?_
      have nkb2 : kad ≠ b2 := fun e => by rw [e, hb2] at q3; cases q3
      refine ⟨kad, b2, ys, key, p3, v3, ⟨rfl, rfl, by rw [upd_ne nkb2]; exact q3, fun x hx => ((q4 x hx).mono sF4).mono st4.fh.s, kb2.mono st4.fh.s⟩, q5, q6, ?_⟩
      rw [q9] at p
      simp only [if_pos q8] at p
      exact p σ3 F4 _ v3 w3 (hw3 0 (by omega)) (st4.blank (by rw [List.length_replicate, hl3]) fun i d => rep_none) (dp_mono sF4 _ _ q7)
    cases hf : atKey xs key with
    | some pr =>
      -- it is there
      simp only [Option.isSome_some, Bool.not_true, Bool.false_eq_true, if_false]
      obtain ⟨y1, y2, v, d, y3, y4, y5, y6⟩ := hxs (key, pr) (atKey_mem hf)
      rw [kd] at y6
      exact fin a C dx fs kad z3 z4 z5 σ _ F1 _ w xs pr v d hw st1 (by simp) (fun _ _ => rfl) z1 (sF1 a _ z2) ho (fun x hx => (hxs x hx).1) hf y3 y4 y5 y6
    | none =>
      simp only [Option.isSome_none, Bool.not_false, if_true]
      have errs : ∀ c, G d0 (.tuple [k1, k2]) = .err c → ∀ σ' F' H' w'' (ρ' : Env), ρ'.length = r.length + 3 → sh w'' 0 = .fz → SR X.K fr w'' F' H' σ' ρ' → Er c H' := fun c hc σ' F' H' w'' ρ' hl hw st' => by
        rw [hc] at p
        exact p σ' F' H' w'' hw (st'.blank (by rw [List.length_replicate, hl]) fun i d => rep_none)
      refine hA fr F1 _ σ _ _ st1 ?_
      unfold seqS at hg
      have hok := hA1 (some d0 :: some k1 :: some k2 :: r)
      cases ef : fA (some d0 :: some k1 :: some k2 :: r) with
      | rt d ρ' => rw [ef] at hok; exact hok.elim
      | bk ρ' => rw [ef] at hok; exact hok.elim
      | bad =>
        rw [ef] at hg
        have hg : R.bad = G d0 (.tuple [k1, k2]) := hg
        rw [← hg] at p
        exact p.elim
      | err c ρ' =>
        rw [ef] at hg hok
        have hg : R.err c = G d0 (.tuple [k1, k2]) := hg
        exact fun σ' F' H' w'' hw'' st' => errs c hg.symm σ' F' H' w'' ρ' (by have hok : ρ'.length = _ := hok; simpa using hok) hw'' st'
      | nx ρ' =>
        rw [ef, then_nx] at hg
        rw [ef] at hok
        obtain ⟨hl, hs⟩ := hok
        have hl : ρ'.length = r.length + 3 := by simpa using hl
        intro σ2 F2 H2 s2 st2
        have q0 : ρ'[0]? = some (some d0) := (hs 0 (by omega)).trans rfl
        obtain ⟨a', C', dx', fs', kad', y1, y2, y3, y4, y5, y6, y7⟩ := self_at hv hcl st2 q0 (hw1 0 (by omega)) hc
        unfold retS at hg
        refine hE F2 H2 σ2 (hidA w1 ρ') _ st2.fh st2.envA ?_
        cases ee : fE (hidA w1 ρ') with
        | bad =>
          rw [ee] at hg
          have hg : R.bad = G d0 (.tuple [k1, k2]) := hg
          rw [← hg] at p
          exact p.elim
        | err c =>
          rw [ee] at hg
          have hg : R.err c = G d0 (.tuple [k1, k2]) := hg
          exact fun F' H' gr => errs c hg.symm σ2 F' H' w1 ρ' hl (hw1 0 (by omega)) (st2.grow gr)
        | ok d =>
          rw [ee] at hg
          have hg : R.ok d = G d0 (.tuple [k1, k2]) := hg
          have nl : noList d = true := by
            rw [← hg] at p
            by_cases n : noList d = true
            · exact n
            · simp only [if_neg n] at p; exact p.elim
          intro F3 H3 gr v dv
          have st3 := st2.grow gr
          refine ⟨.ref a', y1, a', C', dx', fs', .ref kad', rfl, st3.fh.s a' _ (gr.ff a' _ y2), y3, y4, y5, ?_⟩
          refine key_at st3 ((hs 1 (by omega)).trans rfl) ((hs 2 (by omega)).trans rfl) (hw1 1 (by omega)) (hw1 2 (by omega)) hk fun b2 o2 F4 hb2 st4 sF4 kb2 => ?_
          obtain ⟨fk4, om4, ho4, hgood4⟩ := st4.fh.m kad' y6
          obtain ⟨ys, rfl, nd4, hys⟩ := (y7 _ _).mp hgood4
          refine ⟨kad', b2, ys, key, ⟨rfl, rfl, ho4, fun x hx => (hys x hx).1.mono st4.fh.s, kb2.mono st4.fh.s⟩, mem_len nd4 fun x hx => (hys x hx).2.1, fun u ru => ?_⟩
          have good5 : memGood X.prog X.w X.K (G d0) F4 kad' (dN X.prog X.w kad' (storedH ys key b2 u)) := memGood_put nd4 hys kb2 hkk ru (dp_mono sF4 _ _ dv) nl (by rw [kd]; exact hg.symm)
          have st5 := st4.memo y6 ((y7 _ _).mpr good5)
          obtain ⟨b3, hb3⟩ := atKey_stored (xs := ys) (k := key) b2 u
          have keys5 : ∀ x ∈ storedH ys key b2 u, NKey X.K F4 x.1 x.2.1 := by
            obtain ⟨zs, ez, _, hz⟩ := good5
            intro x hx
            unfold storedH at hx
            split at hx
            · obtain ⟨y, hy, rfl⟩ := List.mem_map.mp hx
              unfold putAt
              split
              · exact (hys y hy).1
              · exact (hys y hy).1
            · rcases List.mem_append.mp hx with hx | hx
              · exact (hys x hx).1
              · rw [List.mem_singleton] at hx
                subst hx
                exact kb2
          have sF24 : Same F2 F4 := same_trans gr.ff sF4
          exact fin a' C' dx' fs' kad' y3 y4 y5 σ2 _ F4 ρ' w1 _ (b3, u) v d hw1 st5 hl (fun i hi => hs i hi) y1 (sF24 a' _ y2) upd_same keys5 hb3 ru (dp_mono sF4 _ _ dv) nl hg.symm
  | [], _, p => exact p.elim
  | [_], _, p => cases ‹Option D› <;> exact p.elim
  | [some _, some _], _, p => exact p.elim
  | [none, _], _, p => exact p.elim
  | [some _, none], _, p => exact p.elim
  | none :: _ :: _ :: _, _, p => exact p.elim
  | some _ :: none :: _ :: _, _, p => exact p.elim
  | some _ :: some _ :: none :: _, _, p => exact p.elim
end
end DL

set_option maxHeartbeats 1000000
/-! DM5: methods that use the memo; an object made, with its memo. -/
namespace DL
open PySem PySem.Spec L2
open PyProof.Rows hiding St

section
variable {P : Program} {w' : World} {K : PySem.W.Frag} {mg : Str → Option Value} {base : Heap}
theorem fn_okW {x qual : Str} {st : Stmt} {f : Addr} {fd : FuncData} {N ps : List Str} {k : Nat} {n : Nat} {fb : SF} {ws : List Sh} {cn : Str} {G : D → D → R D} (F : Fun K x qual st f fd) (S : FnScope N ps (defScope st)) (hn : ps.length = n) (hws : fzAll ws = true)
    (body : ∀ [Mem] (_ : MemV P w' K cn G) (cdv : Value) (A : Around) (outer : List PySem.Env) (s : Shared) (H : Hp) (E : XK), Room k (A.deeper (envOfC qual (defScope st) s.heap.objs.size f cdv)) →
      ∃ t ws', DS (cxOf (L2.CX P w') P w' K mg base N qual (defScope st) f cdv A outer s H E) (erX mg E) .fz [] ws (defBody st) ws' t fb) : FnOk P w' K mg base (L2.CX P w') (k + 1) f fd ps (spW P w' K mg cn G n (runD N.length fb)) := by
  refine F.okX S (fun vs H Q E h => by rw [hn]; exact h.1) (fun cdv A outer s H vs Q E hr h => ?_)
  obtain ⟨hl, M, F0, ds, hv, s0, dv, p⟩ := h
  obtain ⟨t, ws', h1, h2⟩ := body hv cdv A outer s H E hr
  refine ⟨t, h1, ?_⟩
  refine h2 ⟨F0, H⟩ F0 H _ (ds.map some ++ List.replicate (N.length - ds.length) none) _ ⟨fun _ => emp, s0, fun _ _ _ h => h, same_refl _, fun a h _ => h, fun i a o z => by (cases z), fun i a z => absurd rfl z, fun i d e => ?_, ?_, fun i a z => absurd rfl z⟩ ?_
  · obtain ⟨v, q1, q2⟩ := start_env dv N i d e
    exact ⟨v, q1, by rw [fzAll_ok hws i]; exact q2⟩
  · have := dqAll_len dv
    simp [L2.start, this]
  · have gr : ∀ {w'' σ' F' H' ρ'}, SR K ⟨F0, H⟩ w'' F' H' σ' ρ' → Grow F0 H F' H' := fun {w'' σ' F' H' ρ'} st => by
      obtain ⟨os, q⟩ := st
      exact ⟨q.f0, q.gh, q.fh, q.nw⟩
    unfold runD at p
    cases e : fb (ds.map some ++ List.replicate (N.length - ds.length) none) with
    | nx ρ' =>
      rw [e] at p
      exact fun σ' F' H' s' st' => p F' H' (gr st') _ .non
    | rt d ρ' =>
      rw [e] at p
      exact fun σ' F' H' v w'' _ st' dv' => p F' H' (gr st') v dv'
    | err c ρ' =>
      rw [e] at p
      exact fun σ' F' H' w'' _ st' => p F' H' (gr st')
    | bk ρ' => rw [e] at p; exact p.elim
    | bad => rw [e] at p; exact p.elim
end
section
variable [Mem] {X : Cx} {Er : ErT} {te : TE} {ta : TA} {e : Expr} {fe : EF} {pos : Pos}
theorem dr_methW {P : Program} {w : World} {K : PySem.W.Frag} {mg : Str → Option Value} {E : XK} {C : Addr} {cn m : Str} {G : D → D → R D} {n : Nat} {g : List D → R D} {fa : AF} (hv : MemV P w K cn G) (hC : PySem.W.nsIn K mainGlobals cn = some (some (.ref C))) (he : ∀ c H', Er c H' → erX mg E c H') (hn : ∀ ρ ds, fa ρ = .ok ds → ds.length + 1 = n) (h : DRe K Er te fe) (ha : DRq K Er ta fa) :
    DRd K Er (tMeth C m (spW P w K mg cn G n g) [] E te ta) (methE cn m g fe fa) := by
  intro F H σ ρ Q s st p
  refine h F H σ ρ _ s st (Post.imp (Post.bind p) fun F1 H1 d g1 p1 v dv => ?_)
  cases eo : objOf d with
  | none => simp only [eo, methO] at p1; exact p1.elim
  | some q =>
    obtain ⟨c, kvs⟩ := q
    simp only [eo] at p1
    by_cases hm : methO cn m (some (c, kvs)) = true
    · rw [if_pos hm] at p1
      simp only [methO, Bool.and_eq_true, decide_eq_true_eq] at hm
      obtain ⟨⟨rfl, hm1⟩, hm2⟩ := hm
      have dv' := dv
      obtain ⟨a, fs, c', kvs', rfl, e2, e3, e4, e5, e6⟩ := dq_obj dv eo
      obtain ⟨rfl, rfl⟩ := objD_inj e2
      obtain ⟨C', dx, n1, n2, n3⟩ := e4.at_
      have := ns_inj hC n1
      subst this
      refine ⟨a, dx, fs, rfl, g1.fh.s a _ n2, e6 m hm2 (lookup_none hm1), ?_⟩
      refine ha F1 H1 σ ρ _ g1.fh (st.mono g1.ff) ?_
      have q := Post.bind p1
      cases hr : fa ρ with
      | ok ds =>
        rw [hr] at q
        intro F' H' g' vs dvs
        rw [List.append_nil]
        have := dqAll_len dvs
        have := hn ρ ds hr
        exact ⟨by simp; omega, ‹Mem›, F', d :: ds, hv, g'.fh, ⟨dq_mono g'.ff dv', dvs⟩, Post.er (q F' H' g') he⟩
      | err c => rw [hr] at q; exact q
      | bad => rw [hr] at q; exact q
    · rw [if_neg hm] at p1; exact p1.elim
theorem de_methW {pl : Sem Bool} {CX : CXT} {k n : Nat} {f : Addr} {fd : FuncData} {ps : List Str} {E : XK} {C : Addr} {cn m : Str} {G : D → D → R D} {g : List D → R D} {fa : AF} {e1 : Expr} {es : List Expr} {apos : Pos} (hv : MemV X.prog X.w X.K cn G) (h : DEq X Er e te fe) (hC : PySem.W.nsIn X.K mainGlobals cn = some (some (.ref C))) (c : Cls X.K C) (hm : Meth X.K C m f)
    (F : FnOk X.prog X.w X.K X.mg X.base CX k f fd ps (spW X.prog X.w X.K X.mg cn G n g)) (hr : Room k X.A) (hb : Binds X.K fd ps []) (hx : Passes CX X E) (he : ∀ c H', Er c H' → erX X.mg E c H') (ha : DAq X Er (e1 :: es) ta fa) (hn : ∀ ρ ds, fa ρ = .ok ds → ds.length + 1 = n)
    (hst : starEach (e1 :: es) X.env = (false, eval e1 X.env) :: starEach es X.env := by rfl) (hpl : (backTo pos (starEach es X.env)).any (·.1) = false := by rfl)
    (ht : eval (.Call (.Attribute e m apos) (e1 :: es) [] pos) X.env = (do
      let ov ← eval e X.env
      standAt apos.atName
      let (f, first) ← holding [ov] (getMethod ov m pl)
      callWith pos f first (backTo pos (starEach (e1 :: es) X.env)) (backToKw pos (keywordEach [] X.env))) := by rfl) :
    DE X Er (.Call (.Attribute e m apos) (e1 :: es) [] pos) (tMeth C m (spW X.prog X.w X.K X.mg cn G n g) [] E te ta) (methE cn m g fe fa) :=
  ⟨pe_meth h.pe c hm F hr hb .nil hx ha.pe hst hpl ht, dr_methW hv hC he hn h.rd ha.rd⟩
end
/-! ### an object made -/
/-- one object's memo -/
@[reducible] def memK (P : Program) (w : World) (K : PySem.W.Frag) (G : D → R D) (d0 : D) (kad : Addr) : Mem where
  is := fun a => a = kad
  good := fun F k o => memGood P w K G F k o
  mono := memGood_mono
  drop := memGood_drop
  lk := fun d k => d = d0 ∧ k = kad
theorem memK_v {P : Program} {w : World} {K : PySem.W.Frag} {G : D → D → R D} {cn : Str} {d0 : D} {kad : Addr} : @MemV (memK P w K (G d0) d0 kad) P w K cn G := fun kvs k ⟨e1, e2⟩ => by
  subst e2
  rw [e1]
  exact ⟨rfl, fun _ _ => .rfl⟩
theorem grow_leave {M M' : Mem} {F1 H1 F2 H2 F' H' : Hp} (w : @Wf M F1 H1) (hk : ∀ a, M'.is a → H1 a = none) (sF : Same F1 F2) (sH : Same H1 H2) (nw : ∀ a, F2 a ≠ none → H1 a ≠ none → F1 a ≠ none) (g : @Grow M' F2 H2 F' H') : @Grow M F1 H1 F' H' := by
  have keep : ∀ a o, H1 a = some o → H' a = some o := fun a o e => g.hh a o (fun z => by rw [hk a z] at e; cases e) (sH a o e)
  have nw' : ∀ a, F' a ≠ none → H1 a ≠ none → F1 a ≠ none := fun a h1 h2 => nw a (g.nw a h1 (same_ne sH h2)) h2
  have sf : Same F1 F' := same_trans sF g.ff
  refine @Grow.mk M F1 H1 F' H' sf (fun a o _ e => keep a o e) (@Wf.mk M F' H' g.fh.s fun a z => ?_) nw'
  obtain ⟨e1, o, e2, e3⟩ := @Wf.m M F1 H1 w a z
  refine ⟨?_, o, keep a o e2, M.mono e3 sf⟩
  cases q : F' a with
  | none => rfl
  | some u => exact absurd e1 (nw' a (by rw [q]; simp) (by rw [e2]; simp))
def ctrF (v1 v2 vp vc : V) (kad : Addr) : List (Str × V) := [("tiles", v1), ("goal", v2), ("places", vp), ("columns", vc), ("known", .ref kad)]
def ctrD (cn : Str) (T G pl c : D) : D := objD cn [("tiles", T), ("goal", G), ("places", pl), ("columns", c)]
/-- the promise of Counter's __init__ -/
def spI (P : Program) (w : World) (K : PySem.W.Frag) (C : Addr) (g : D → R (D × D)) : Sp := fun vs H Q _ =>
  ∃ (M : Mem) (F Hb : Hp) (v1 v2 : V) (T G : D) (a dx : Addr), vs = [.ref a, v1, v2] ∧ Hb a = none ∧ H = upd Hb a (.ins C dx []) ∧ Hb dx = some (.own a) ∧ Wf F Hb ∧ Dp K F v1 T ∧ Dp K F v2 G ∧
    Post F Hb (fun _ _ => False) (g G) (fun F' Hb' pc => ∀ vp vc kad, Dp K F' vp pc.1 → Dp K F' vc pc.2 → Hb' a = none → Hb' kad = none → kad ≠ a → Q .non (upd (upd Hb' a (.ins C dx (ctrF v1 v2 vp vc kad))) kad (dN P w kad [])))
/-- what Counter(T, G) is -/
def newO (cn : Str) (g : D → R (D × D)) : List D → R D
  | [T, G] => (g G).noErr.bind fun pc => .ok (ctrD cn T G pc.1 pc.2)
  | _ => .bad
theorem new_laid {P : Program} {w : World} {K : PySem.W.Frag} {cn : Str} {G : D → D → R D} {C a dx kad : Addr} {F1 F' Hb' : Hp} {v1 v2 vp vc : V} {T Gd pl c : D} (hC : PySem.W.nsIn K mainGlobals cn = some (some (.ref C)))
    (wf : Same F' Hb') (d1 : Dp K F' v1 T) (d2 : Dp K F' v2 Gd) (d3 : Dp K F' vp pl) (d4 : Dp K F' vc c) (ha : Hb' a = none) (hk : Hb' kad = none) (hka : kad ≠ a) (hdx : Hb' dx = some (.own a)) (hF : F' dx = none) :
    ∃ F2, F2 = upd (upd F' a (.ins C dx (ctrF v1 v2 vp vc kad))) dx (.own a) ∧ Same F' F2 ∧ @Wf (memK P w K (G (ctrD cn T Gd pl c)) (ctrD cn T Gd pl c) kad) F2 (upd (upd Hb' a (.ins C dx (ctrF v1 v2 vp vc kad))) kad (dN P w kad [])) ∧
      @ObQ (memK P w K (G (ctrD cn T Gd pl c)) (ctrD cn T Gd pl c) kad) K F2 (.ref a) (ctrD cn T Gd pl c) := by
  have nda : dx ≠ a := fun z => by rw [z, ha] at hdx; cases hdx
  have ndk : dx ≠ kad := fun z => by rw [z, hk] at hdx; cases hdx
  have fa : F' a = none := none_of_same wf ha
  have fk : F' kad = none := none_of_same wf hk
  have s2 : Same F' (upd (upd F' a (.ins C dx (ctrF v1 v2 vp vc kad))) dx (.own a)) := fun b o e => by
    rw [upd_ne (ne_of_none e hF), upd_ne (ne_of_none e fa)]; exact e
  refine ⟨_, rfl, s2, @Wf.mk (memK P w K (G (ctrD cn T Gd pl c)) (ctrD cn T Gd pl c) kad) _ _ (fun b o e => ?_) (fun b z => ?_), a, ctrF v1 v2 vp vc kad, cn, _, rfl, rfl, ⟨kad, by rfl, rfl, rfl⟩, ⟨⟨C, dx, hC, ?_, upd_same⟩⟩, ?_, fun f h1 h2 => ?_⟩
  · by_cases hb : b = dx
    · subst hb
      rw [upd_same] at e
      rw [upd_ne ndk, upd_ne nda, hdx]; exact e
    · rw [upd_ne hb] at e
      by_cases hb2 : b = a
      · subst hb2
        rw [upd_same] at e
        rw [upd_ne (Ne.symm hka), upd_same]; exact e
      · rw [upd_ne hb2] at e
        rw [upd_ne (ne_of_none e fk), upd_ne hb2]; exact wf b o e
  · obtain rfl : b = kad := z
    exact ⟨by rw [upd_ne (Ne.symm ndk), upd_ne hka]; exact fk, _, upd_same, [], rfl, List.nodup_nil, fun x hx => (nomatch hx)⟩
  · rw [upd_ne (Ne.symm nda), upd_same]
  · intro p hp
    simp only [List.mem_cons, List.not_mem_nil, or_false] at hp
    rcases hp with rfl | rfl | rfl | rfl
    · exact ⟨v1, rfl, .inl (dp_mono s2 _ _ d1)⟩
    · exact ⟨v2, rfl, .inl (dp_mono s2 _ _ d2)⟩
    · exact ⟨vp, rfl, .inl (dp_mono s2 _ _ d3)⟩
    · exact ⟨vc, rfl, .inl (dp_mono s2 _ _ d4)⟩
  · simp only [List.map_cons, List.map_nil, List.mem_cons, List.not_mem_nil, or_false, not_or] at h2
    obtain ⟨n1, n2, n3, n4⟩ := h2
    have b : ∀ x : Str, f ≠ x → (f == x) = false := fun x h => beq_eq_false_iff_ne.mpr h
    simp only [ctrF, List.lookup_cons, b _ n1, b _ n2, b _ n3, b _ n4, b _ h1]
    rfl
/-! ### x = C(tiles, floor), and what follows with its memo -/
def plainE (ρ : Env) : Bool := ρ.all fun o => match o with
  | none => true
  | some d => (match okD d with | .ok _ => true | _ => false)
def mkS (w : List Sh) (i : Nat) (cn : Str) (g : D → R (D × D)) (fa : AF) : SF := fun ρ => if (fzAll w && plainE ρ) = true then runR ((fa ρ).noErr.bind (newO cn g)) ρ fun d => .nx (ρ.set i (some d)) else .bad
/-- what the rest of a def gives, its slots forgotten -/
def endS (f : SF) : SF := fun ρ => match f ρ with
  | .rt d ρ' => .rt d (List.replicate ρ'.length none)
  | .err c ρ' => .err c (List.replicate ρ'.length none)
  | _ => .bad
theorem ne_ok' {α : Type} (a : α) : (R.ok a).noErr = .ok a := rfl
section
variable {X : Cx} {Er : ErT} {s0 : Sh} {wl w w' : List Sh} {ta : TA} {t : TS} {f : SF} {pos : Pos}
theorem fz_hid {w : List Sh} (h : fzAll w = true) : ∀ ρ : Env, hidA w ρ = ρ := by
  induction w with
  | nil => intro ρ; cases ρ <;> rfl
  | cons s w ih =>
    intro ρ
    unfold fzAll at h ih
    simp only [List.all_cons, Bool.and_eq_true] at h
    cases s with
    | fz => cases ρ with
      | nil => rfl
      | cons x ρ => simp [hidA, ih h.2 ρ]
    | _ => cases h.1
theorem plain_dp {K : PySem.W.Frag} [Mem] {ρ : Env} {j : Nat} {d : D} {F : Hp} {v : V} (h : plainE ρ = true) (e : ρ[j]? = some (some d)) (q : DQ K F v d) : Dp K F v d := by
  have := List.all_eq_true.mp h (some d) (List.mem_of_getElem? e)
  simp only at this
  cases k : okD d with
  | ok z => exact (dq_dp q k).1
  | err c => rw [k] at this; cases this
  | bad => rw [k] at this; cases this
theorem ds_ps (M : Mem) {rest : List Stmt} (h : @DS M X Er s0 wl w rest w' t f) : PSs X rest t := by cases h; assumption
theorem ds_rd (M : Mem) {rest : List Stmt} (h : @DS M X Er s0 wl w rest w' t f) : @DRs M X.K Er s0 wl w w' t f := by cases h; assumption
theorem sr_grow [M : Mem] {K : PySem.W.Frag} {fr : Fr} {w : List Sh} {F H : Hp} {σ : St} {ρ : Env} (h : SR K fr w F H σ ρ) : Grow fr.F0 fr.G F H ∧ ρ.length = σ.length := by
  obtain ⟨os, s⟩ := h
  exact ⟨⟨s.f0, s.gh, s.fh, s.nw⟩, s.len⟩
theorem sr_end [M : Mem] {K : PySem.W.Frag} {fr : Fr} {w w'' : List Sh} {F H : Hp} {σ σ' : St} {ρ r : Env} (h : SR K fr w F H σ ρ) (hl : r.length = σ'.length) (hn : ∀ (i : Nat) (d : D), r[i]? ≠ some (some d)) : SR K fr w'' F H σ' r := by
  obtain ⟨os, s⟩ := h
  exact ⟨fun _ => emp, s.fh, s.gh, s.f0, s.nw, fun i a o z => (by cases z), fun i a z => absurd rfl z, fun i d e => absurd e (hn i d), hl, fun i a z => absurd rfl z⟩
theorem ds_mk [M : Mem] {CX : CXT} {k : Nat} {fi C : Addr} {fd : FuncData} {ps : List Str} {E : XK} {cn x cx : Str} {i : Nat} {p p' pn : Pos} {e : Expr} {es : List Expr} {rest : List Stmt} {fa : AF} {g : D → R (D × D)} {G : D → D → R D}
    (hC : PySem.W.nsIn X.K mainGlobals cn = some (some (.ref C))) (M0 : Mk X.K C fi) (F0 : FnOk X.prog X.w X.K X.mg X.base CX k fi fd ps (spI X.prog X.w X.K C g)) (hr : Room (k + 1) X.A) (hg : Gl X cx) (hm : X.mg cx = some (.ref C)) (hb : Binds X.K fd ps []) (hx : Passes CX X E)
    (hN : X.N.Nodup) (hi : X.N[i]? = some x) (hxl : Loc X.env.scope x) (ha : DA X (fun _ _ => False) (e :: es) ta fa)
    (hrest : ∀ [Mem], MemV X.prog X.w X.K cn G → DS X Er .fz wl (w.set i .fz) rest w' t f) (hw0 : s0 = .fz)
    (hdb : (cx == ("__debug__" : Str)) = false := by decide) (he : starEach (e :: es) X.env = (false, eval e X.env) :: starEach es X.env := by rfl) (hpl : (backTo p' (starEach es X.env)).any (·.1) = false := by rfl)
    (hs : swapsWith (.Call (.Name cx p) (e :: es) [] p') (some (.Name x pn)) pos.line X.env = pure false := by rfl) (hf : X.fn x = true ∨ X.env.scope.names.lookup x = some .local := by first | exact .inl rfl | exact .inr rfl) :
    DS X Er s0 wl w (.Assign [.Name x pn] (.Call (.Name cx p) (e :: es) [] p') pos :: rest) w' (tSeq (tAsg (tMake C (spI X.prog X.w X.K C g) [] E ta) (gName i)) t) (seqS (mkS w i cn g fa) (endS f)) := by
  subst hw0
  refine ⟨pss_cons (ps_set hN hi hxl (pe_make M0 F0 hr hg hm hb .nil hx ha.pe hdb he hpl) hs hf) (ds_ps (memK X.prog X.w X.K (G .none) .none 0) (@hrest (memK X.prog X.w X.K (G .none) .none 0) memK_v)), fun fr F H σ ρ Dn st q => ?_⟩
  unfold seqS mkS at q
  by_cases hc : (fzAll w && plainE ρ) = true
  · rw [if_pos hc] at q
    simp only [Bool.and_eq_true] at hc
    obtain ⟨hfz, hpn⟩ := hc
    have env := st.envA
    rw [fz_hid hfz] at env
    refine ha.rd F H σ ρ _ st.fh env ?_
    cases er : fa ρ with
    | err c => rw [er] at q; exact q.elim
    | bad => rw [er] at q; exact q.elim
    | ok ds =>
      rw [er] at q
      simp only [ne_ok', R.bind_ok] at q
      intro F1 H1 g1 vs dvs a dx hxn hdn hne
      match ds, vs, dvs, q with
      | [T, Gd], [v1, v2], .cons d1 (.cons d2 .nil), q =>
        simp only [newO] at q
        have st1 := st.grow g1
        refine ⟨M, F1, upd H1 dx (.own a), v1, v2, T, Gd, a, dx, rfl, by rw [upd_ne (Ne.symm hne)]; exact hxn, rfl, upd_same, g1.fh.upd hdn, d1, d2, ?_⟩
        cases eg : g Gd with
        | err c => rw [eg] at q; exact q.elim
        | bad => rw [eg] at q; exact q.elim
        | ok pc =>
          rw [eg] at q
          simp only [ne_ok', R.bind_ok, runR_ok, then_nx] at q
          intro F' Hb' gr vp vc kad d3 d4 hxb hkb hka
          refine ⟨rfl, ?_⟩
          have nd : ¬ Mem.is dx := g1.fh.no hdn
          have hdx : Hb' dx = some (.own a) := gr.hh dx _ nd upd_same
          have hF1 : F1 dx = none := none_of_same g1.fh.s hdn
          have hF' : F' dx = none := by
            cases z : F' dx with
            | none => rfl
            | some o => exact absurd hF1 (gr.nw dx (by rw [z]; simp) (by rw [upd_same]; simp))
          obtain ⟨F2, eF2, sF2, wf2, ob⟩ := new_laid (P := X.prog) (w := X.w) (cn := cn) (G := G) (C := C) (F1 := F1) hC gr.fh.s (dp_mono gr.ff _ _ d1) (dp_mono gr.ff _ _ d2) d3 d4 hxb hkb hka hdx hF'
          have g' : Grow F1 H1 F' (remH Hb' dx) := grow_hide g1.fh hdn gr
          have st2 := st1.grow g'
          have nxd : a ≠ dx := fun z => by rw [z, hdx] at hxb; cases hxb
          have nkd : kad ≠ dx := fun z => by rw [z, hdx] at hkb; cases hkb
          have hs12 : Same (remH Hb' dx) (upd (upd Hb' a (.ins C dx (ctrF v1 v2 vp vc kad))) kad (dN X.prog X.w kad [])) := fun b o e => by
            by_cases hb : b = dx
            · rw [hb, remH_same] at e; cases e
            · rw [remH_ne hb] at e
              rw [upd_ne (ne_of_none e hkb), upd_ne (ne_of_none e hxb)]; exact e
          have hnw : ∀ b, F2 b ≠ none → remH Hb' dx b ≠ none → F' b ≠ none := fun b y1 y2 => by
            by_cases hb : b = dx
            · rw [hb, remH_same] at y2; exact absurd rfl y2
            · rw [remH_ne hb] at y2
              rw [eF2, upd_ne hb] at y1
              by_cases hb2 : b = a
              · rw [hb2, hxb] at y2; exact absurd rfl y2
              · rw [upd_ne hb2] at y1; exact y1
          have hk2 : ∀ b, b = kad → remH Hb' dx b = none := fun b z => by rw [z, remH_ne nkd]; exact hkb
          have hle : ∀ j, sh (w.set i .fz) j = .fz := fun j => by
            by_cases hj : i = j
            · subst hj; exact sh_set_fz
            · rw [sh_set_ne hj]; exact fzAll_ok hfz j
          have back : ∀ {w'' : List Sh} {σ' : St} {F'' H'' : Hp} {ρ'' : Env}, @SR (memK X.prog X.w X.K (G (ctrD cn T Gd pc.1 pc.2)) (ctrD cn T Gd pc.1 pc.2) kad) X.K ⟨F', remH Hb' dx⟩ w'' F'' H'' σ' ρ'' → SR X.K fr w'' F'' H'' σ' (List.replicate ρ''.length none) := fun {w'' σ' F'' H'' ρ''} z => by
            obtain ⟨gM, hl⟩ := @sr_grow (memK X.prog X.w X.K (G (ctrD cn T Gd pc.1 pc.2)) (ctrD cn T Gd pc.1 pc.2) kad) _ _ _ _ _ _ _ z
            have gL := grow_leave (M := M) (M' := (memK X.prog X.w X.K (G (ctrD cn T Gd pc.1 pc.2)) (ctrD cn T Gd pc.1 pc.2) kad)) g'.fh hk2 (same_refl _) (same_refl _) (fun _ h _ => h) gM
            exact @sr_end M _ _ w _ _ _ σ _ ρ _ (st2.grow gL) (by rw [List.length_replicate]; exact hl) fun i d => rep_none
          refine ds_rd (memK X.prog X.w X.K (G (ctrD cn T Gd pc.1 pc.2)) (ctrD cn T Gd pc.1 pc.2) kad) (@hrest (memK X.prog X.w X.K (G (ctrD cn T Gd pc.1 pc.2)) (ctrD cn T Gd pc.1 pc.2) kad) memK_v) ⟨F', remH Hb' dx⟩ F2 _ _ (ρ.set i (some (ctrD cn T Gd pc.1 pc.2))) Dn ?_ ?_
          · refine ⟨fun _ => emp, @StR.mk (memK X.prog X.w X.K (G (ctrD cn T Gd pc.1 pc.2)) (ctrD cn T Gd pc.1 pc.2) kad) _ _ _ _ _ _ _ _ wf2 (@sameM_of (memK X.prog X.w X.K (G (ctrD cn T Gd pc.1 pc.2)) (ctrD cn T Gd pc.1 pc.2) kad) _ _ hs12) sF2 hnw (fun i a o z => (by cases z)) (fun i a z => absurd rfl z) (fun j d ej => ?_) (by simpa using st2.len) (fun i a z => absurd rfl z)⟩
            rw [hle j]
            rcases env_set ej with ⟨rfl, rfl, hv⟩ | ⟨ne, ej⟩
            · exact ⟨.ref a, by rw [List.getElem?_set_self (by rw [← st2.len]; exact hv)], .inr (.inr (.inr (.inl ob)))⟩
            · obtain ⟨os, s⟩ := st2
              obtain ⟨v, y1, y2⟩ := s.sl j d ej
              rw [fzAll_ok hfz j] at y2
              exact ⟨v, by rw [List.getElem?_set_ne ne]; exact y1, .inl (dp_mono sF2 _ _ (plain_dp hpn ej y2))⟩
          · have hq : PostS X.K fr .fz wl w' F Er (endS f (ρ.set i (some (ctrD cn T Gd pc.1 pc.2)))) Dn := q
            unfold endS at hq
            cases ef : f (ρ.set i (some (ctrD cn T Gd pc.1 pc.2))) with
            | rt d ρ'' =>
              rw [ef] at hq
              exact fun σ' F'' H'' v w'' hw'' z dv => hq σ' F'' H'' v w'' hw'' (back z) dv
            | err c ρ'' =>
              rw [ef] at hq
              exact fun σ' F'' H'' w'' hw'' z => hq σ' F'' H'' w'' hw'' (back z)
            | nx ρ'' => rw [ef] at hq; exact hq.elim
            | bk ρ'' => rw [ef] at hq; exact hq.elim
            | bad => rw [ef] at hq; exact hq.elim
      | [], _, _, q => exact q.elim
      | [_], _, _, q => exact q.elim
      | _ :: _ :: _ :: _, _, _, q => exact q.elim
  · rw [if_neg hc] at q
    exact q.elim
end
end DL

set_option maxHeartbeats 1000000
/-! DM6: C(tiles, floor).m(..) -/
namespace DL
open PySem PySem.Spec L2
open PyProof.Rows hiding St
theorem mk_core [M : Mem] {P : Program} {w : World} {K : PySem.W.Frag} {cn : Str} {G : D → D → R D} {g : D → R (D × D)} {C a dx : Addr} {F1 H1 : Hp} {v1 v2 : V} {T Gd : D} {pc : D × D} {Q : VK} {E : XK} (hC : PySem.W.nsIn K mainGlobals cn = some (some (.ref C)))
    (w1 : Wf F1 H1) (d1 : Dp K F1 v1 T) (d2 : Dp K F1 v2 Gd) (hxn : H1 a = none) (hdn : H1 dx = none) (hne : dx ≠ a) (eg : g Gd = .ok pc)
    (k : ∀ (kad : Addr) (F' Hd F2 H2 : Hp) (fs : List (Str × V)), Grow F1 H1 F' Hd → Same F' F2 → Same Hd H2 → (∀ b, F2 b ≠ none → Hd b ≠ none → F' b ≠ none) → (∀ b, b = kad → Hd b = none) →
      @Wf (memK P w K (G (ctrD cn T Gd pc.1 pc.2)) (ctrD cn T Gd pc.1 pc.2) kad) F2 H2 → @ObQ (memK P w K (G (ctrD cn T Gd pc.1 pc.2)) (ctrD cn T Gd pc.1 pc.2) kad) K F2 (.ref a) (ctrD cn T Gd pc.1 pc.2) →
      H2 a = some (.ins C dx fs) → (∀ f : Str, f ≠ ("known" : Str) → f ∉ (["tiles", "goal", "places", "columns"] : List Str) → fs.lookup f = none) → Q .non H2) :
    spI P w K C g [.ref a, v1, v2] (upd (upd H1 dx (.own a)) a (.ins C dx [])) Q E := by
  refine ⟨M, F1, upd H1 dx (.own a), v1, v2, T, Gd, a, dx, rfl, by rw [upd_ne (Ne.symm hne)]; exact hxn, rfl, upd_same, w1.upd hdn, d1, d2, ?_⟩
  rw [eg]
  intro F' Hb' gr vp vc kad d3 d4 hxb hkb hka
  have nd : ¬ Mem.is dx := w1.no hdn
  have hdx : Hb' dx = some (.own a) := gr.hh dx _ nd upd_same
  have hF1 : F1 dx = none := none_of_same w1.s hdn
  have hF' : F' dx = none := by
    cases z : F' dx with
    | none => rfl
    | some o => exact absurd hF1 (gr.nw dx (by rw [z]; simp) (by rw [upd_same]; simp))
  obtain ⟨F2, eF2, sF2, wf2, ob⟩ := new_laid (P := P) (w := w) (cn := cn) (G := G) (C := C) (F1 := F1) hC gr.fh.s (dp_mono gr.ff _ _ d1) (dp_mono gr.ff _ _ d2) d3 d4 hxb hkb hka hdx hF'
  have nkd : kad ≠ dx := fun z => by rw [z, hdx] at hkb; cases hkb
  refine k kad F' (remH Hb' dx) F2 _ (ctrF v1 v2 vp vc kad) (grow_hide w1 hdn gr) sF2 (fun b o e => ?_) (fun b y1 y2 => ?_) (fun b z => by rw [z, remH_ne nkd]; exact hkb) wf2 ob ?_ fun f h1 h2 => ?_
  · by_cases hb : b = dx
    · rw [hb, remH_same] at e; cases e
    · rw [remH_ne hb] at e
      rw [upd_ne (ne_of_none e hkb), upd_ne (ne_of_none e hxb)]; exact e
  · by_cases hb : b = dx
    · rw [hb, remH_same] at y2; exact absurd rfl y2
    · rw [remH_ne hb] at y2
      rw [eF2, upd_ne hb] at y1
      by_cases hb2 : b = a
      · rw [hb2, hxb] at y2; exact absurd rfl y2
      · rw [upd_ne hb2] at y1; exact y1
  · rw [upd_ne (Ne.symm hka), upd_same]
  · simp only [List.mem_cons, List.not_mem_nil, or_false, not_or] at h2
    obtain ⟨n1, n2, n3, n4⟩ := h2
    have b : ∀ x : Str, f ≠ x → (f == x) = false := fun x h => beq_eq_false_iff_ne.mpr h
    simp only [ctrF, List.lookup_cons, b _ n1, b _ n2, b _ n3, b _ n4, b _ h1]
    rfl
theorem envR_plain {K : PySem.W.Frag} {F F2 : Hp} {σ : St} {ρ : Env} {M M' : Mem} (h : @EnvR M K F σ ρ) (hp : plainE ρ = true) (s : Same F F2) : @EnvR M' K F2 σ ρ := by
  obtain ⟨sl, len⟩ := h
  refine @EnvR.mk M' _ _ _ _ (fun i d e => ?_) len
  obtain ⟨v, y1, y2⟩ := sl i d e
  exact ⟨v, y1, .inl (dp_mono s _ _ (@plain_dp K M ρ i d F v hp e y2))⟩
/-- C(..).m(..) -/
def mkmE (cn m : Str) (gI : D → R (D × D)) (fa fb : AF) (gm : List D → R D) : EF := fun ρ => if plainE ρ = true then ((fa ρ).noErr.bind (newO cn gI)).bind fun d => if m ≠ ("known" : Str) ∧ m ∉ (["tiles", "goal", "places", "columns"] : List Str) then (fb ρ).noErr.bind fun es => gm (d :: es) else .bad else .bad
section
variable {X : Cx} {Er : ErT} {ta tb : TA} {pos : Pos}
theorem dr_mkm [M : Mem] {C : Addr} {cn m : Str} {fa fb : AF} {g : D → R (D × D)} {G : D → D → R D} {gm : List D → R D} {n : Nat} {E E' : XK} (hC : PySem.W.nsIn X.K mainGlobals cn = some (some (.ref C))) (ha : DRa X.K (fun _ _ => False) ta fa) (hb : ∀ [Mem], DRq X.K (fun _ _ => False) tb fb) (hn : ∀ ρ ds, fb ρ = .ok ds → ds.length + 1 = n) (he : ∀ c H', Er c H' → erX X.mg E c H') :
    DRd X.K Er (tMeth C m (spW X.prog X.w X.K X.mg cn G n gm) [] E (tMake C (spI X.prog X.w X.K C g) [] E' ta) tb) (mkmE cn m g fa fb gm) := by
  intro F H σ ρ Q s st q
  unfold mkmE at q
  by_cases hp : plainE ρ = true
  · rw [if_pos hp] at q
    refine ha F H σ ρ _ s st ?_
    cases er : fa ρ with
    | err c => rw [er] at q; exact q.elim
    | bad => rw [er] at q; exact q.elim
    | ok ds =>
      rw [er] at q
      simp only [ne_ok', R.bind_ok] at q
      intro F1 H1 g1 vs dvs a dx hxn hdn hne
      match ds, vs, dvs, q with
      | [T, Gd], [v1, v2], .cons d1 (.cons d2 .nil), q =>
        simp only [newO] at q
        cases eg : g Gd with
        | err c => rw [eg] at q; exact q.elim
        | bad => rw [eg] at q; exact q.elim
        | ok pc =>
          rw [eg] at q
          simp only [ne_ok', R.bind_ok] at q
          by_cases hm : m ≠ ("known" : Str) ∧ m ∉ (["tiles", "goal", "places", "columns"] : List Str)
          · rw [if_pos hm] at q
            refine mk_core (G := G) hC g1.fh d1 d2 hxn hdn hne eg fun kad F' Hd F2 H2 fs gr s1 s2 nw hk wf2 ob hH hl => ⟨rfl, a, dx, fs, rfl, hH, hl m hm.1 hm.2, ?_⟩
            refine @hb (memK X.prog X.w X.K (G (ctrD cn T Gd pc.1 pc.2)) (ctrD cn T Gd pc.1 pc.2) kad) F2 H2 σ ρ _ wf2 (envR_plain (M := M) st hp (same_trans (same_trans g1.ff gr.ff) s1)) ?_
            cases eb : fb ρ with
            | err c => rw [eb] at q; exact q.elim
            | bad => rw [eb] at q; exact q.elim
            | ok es =>
              rw [eb] at q
              simp only [ne_ok', R.bind_ok] at q
              intro F3 H3 g3 us dus
              rw [List.append_nil]
              have l1 := @dqAll_len (memK X.prog X.w X.K (G (ctrD cn T Gd pc.1 pc.2)) (ctrD cn T Gd pc.1 pc.2) kad) _ _ _ _ dus
              have l2 := hn ρ es eb
              have tot : ∀ {F4 H4 : Hp}, @Grow (memK X.prog X.w X.K (G (ctrD cn T Gd pc.1 pc.2)) (ctrD cn T Gd pc.1 pc.2) kad) F3 H3 F4 H4 → Grow F H F4 H4 := fun {F4 H4} g4 =>
                g1.trans (gr.trans (grow_leave (M := M) (M' := memK X.prog X.w X.K (G (ctrD cn T Gd pc.1 pc.2)) (ctrD cn T Gd pc.1 pc.2) kad) gr.fh hk s1 s2 nw (@Grow.trans (memK X.prog X.w X.K (G (ctrD cn T Gd pc.1 pc.2)) (ctrD cn T Gd pc.1 pc.2) kad) _ _ _ _ _ _ g3 g4)))
              refine ⟨by simp; omega, memK X.prog X.w X.K (G (ctrD cn T Gd pc.1 pc.2)) (ctrD cn T Gd pc.1 pc.2) kad, F3, ctrD cn T Gd pc.1 pc.2 :: es, memK_v, @Grow.fh (memK X.prog X.w X.K (G (ctrD cn T Gd pc.1 pc.2)) (ctrD cn T Gd pc.1 pc.2) kad) _ _ _ _ g3, ⟨@dq_mono (memK X.prog X.w X.K (G (ctrD cn T Gd pc.1 pc.2)) (ctrD cn T Gd pc.1 pc.2) kad) _ _ _ (@Grow.ff (memK X.prog X.w X.K (G (ctrD cn T Gd pc.1 pc.2)) (ctrD cn T Gd pc.1 pc.2) kad) _ _ _ _ g3) _ _ (.inr (.inr (.inr (.inl ob)))), dus⟩, ?_⟩
              cases em : gm (ctrD cn T Gd pc.1 pc.2 :: es) with
              | bad => rw [em] at q; exact q.elim
              | err c => rw [em] at q; exact fun F4 H4 g4 => he c H4 (q F4 H4 (tot g4))
              | ok r => rw [em] at q; exact fun F4 H4 g4 => q F4 H4 (tot g4)
          · rw [if_neg hm] at q; exact q.elim
      | [], _, _, q => exact q.elim
      | [_], _, _, q => exact q.elim
      | _ :: _ :: _ :: _, _, _, q => exact q.elim
  · rw [if_neg hp] at q; exact q.elim
theorem abase_callA {id attr : Str} {p pos : Pos} {env : PySem.Env} {args : List Expr} {whole : Sem Value} (h : (id != ("super" : Str)) = true) : attributeBase (.Call (.Name id p) args [] pos) attr env whole = whole := by
  unfold attributeBase
  first
    | (simp only [h, Bool.true_or, if_true, bind_pure]; done)
    | (rw [h]; simp only [Bool.true_or, if_true, bind_pure]; done)
    | (simp [h]; done)
    | (cases args <;> simp [h])
theorem daq_rd (M : Mem) {es : List Expr} {fb : AF} {tb : TA} (h : @DAq M X Er es tb fb) : @DRq M X.K Er tb fb := by cases h; assumption
theorem de_mkm [M : Mem] {pl : Sem Bool} {CX CX' : CXT} {k k' : Nat} {fi fm C : Addr} {fd fd' : FuncData} {ps ps' : List Str} {E E' : XK} {cn cx m : Str} {p p' apos : Pos} {e e2 : Expr} {es es2 : List Expr} {fa fb : AF} {g : D → R (D × D)} {G : D → D → R D} {gm : List D → R D} {n : Nat}
    (hC : PySem.W.nsIn X.K mainGlobals cn = some (some (.ref C))) (c : Cls X.K C) (M0 : Mk X.K C fi) (F0 : FnOk X.prog X.w X.K X.mg X.base CX k fi fd ps (spI X.prog X.w X.K C g)) (hr : Room (k + 1) X.A) (hg : Gl X cx) (hm : X.mg cx = some (.ref C)) (hb : Binds X.K fd ps []) (hx : Passes CX X E')
    (ha : DA X (fun _ _ => False) (e :: es) ta fa) (hme : Meth X.K C m fm) (F1 : FnOk X.prog X.w X.K X.mg X.base CX' k' fm fd' ps' (spW X.prog X.w X.K X.mg cn G n gm)) (hr' : Room k' X.A) (hb' : Binds X.K fd' ps' []) (hx' : Passes CX' X E) (he : ∀ c H', Er c H' → erX X.mg E c H')
    (hbq : ∀ [Mem], DAq X (fun _ _ => False) (e2 :: es2) tb fb) (hn : ∀ ρ ds, fb ρ = .ok ds → ds.length + 1 = n)
    (hdb : (cx == ("__debug__" : Str)) = false := by decide) (hs1 : starEach (e :: es) X.env = (false, eval e X.env) :: starEach es X.env := by rfl) (hpl1 : (backTo p' (starEach es X.env)).any (·.1) = false := by rfl)
    (hst : starEach (e2 :: es2) X.env = (false, eval e2 X.env) :: starEach es2 X.env := by rfl) (hpl : (backTo pos (starEach es2 X.env)).any (·.1) = false := by rfl)
    (ht : eval (.Call (.Attribute (.Call (.Name cx p) (e :: es) [] p') m apos) (e2 :: es2) [] pos) X.env = (do
      let ov ← eval (.Call (.Name cx p) (e :: es) [] p') X.env
      standAt apos.atName
      let (f, first) ← holding [ov] (getMethod ov m pl)
      callWith pos f first (backTo pos (starEach (e2 :: es2) X.env)) (backToKw pos (keywordEach [] X.env))) := by exact mcall_of (abase_callA (by decide)) fun _ => rfl) :
    DE X Er (.Call (.Attribute (.Call (.Name cx p) (e :: es) [] p') m apos) (e2 :: es2) [] pos) (tMeth C m (spW X.prog X.w X.K X.mg cn G n gm) [] E (tMake C (spI X.prog X.w X.K C g) [] E' ta) tb) (mkmE cn m g fa fb gm) :=
  ⟨pe_meth (pe_make M0 F0 hr hg hm hb .nil hx ha.pe hdb hs1 hpl1) c hme F1 hr' hb' .nil hx' hbq.pe hst hpl ht, dr_mkm hC ha.rd (@fun M' => daq_rd M' (@hbq M')) hn he⟩
end
end DL

set_option maxHeartbeats 1000000
/-! DM7: short forms; what all counters share. -/
namespace DL
open PySem PySem.Spec L2
open PyProof.Rows hiding St
/-- a class of the program's own, as it stands behind the top: these names are no attributes of it -/
structure KlI (K : PySem.W.Frag) (mg : Str → Option Value) (x : Str) (fl : List Str) where
  C : Addr
  n : PySem.W.nsIn K mainGlobals x = some (some (.ref C))
  m : mg x = some (.ref C)
  cl : Cls K C
  mks : PySem.W.makesIn K C = true
  kc : PySem.W.keepIn K (.ref C) = true
  na : ∀ f ∈ fl, NoAttr K C f
/-- a method -/
structure MeI (K : PySem.W.Frag) (C : Addr) (m q : Str) (st : Stmt) (ps : List Str) where
  f : Addr
  fd : FuncData
  F : Fun K m q st f fd
  me : Meth K C m f
  b : Binds K fd ps []
def MeI.mk0 {K : PySem.W.Frag} {mg : Str → Option Value} {x q : Str} {fl : List Str} {st : Stmt} {ps : List Str} (T : KlI K mg x fl) (I : MeI K T.C "__init__" q st ps) : Mk K T.C I.f := ⟨T.mks, I.me.at_, I.me.fn, T.kc⟩
theorem KlI.fld {K : PySem.W.Frag} {mg : Str → Option Value} {x : Str} {fl : List Str} (T : KlI K mg x fl) {f : Str} (hf : f ∈ fl) : ∀ C, PySem.W.nsIn K mainGlobals x = some (some (.ref C)) → Cls K C ∧ NoAttr K C f := fun C h => by
  have := ns_inj T.n h
  subst this
  exact ⟨T.cl, T.na f hf⟩
theorem KlI.flds {K : PySem.W.Frag} {mg : Str → Option Value} {x : Str} {fl : List Str} (T : KlI K mg x fl) {f : Str} (hf : f ∈ fl) : ∀ c ∈ ([x] : List Str), ∀ C, PySem.W.nsIn K mainGlobals c = some (some (.ref C)) → Cls K C ∧ NoAttr K C f := fun c hc C h => by
  rw [List.mem_singleton] at hc
  subst hc
  exact T.fld hf C h
theorem FnOk.any {P : Program} {w : World} {K : PySem.W.Frag} {mg : Str → Option Value} {base : Heap} {CX : CXT} {k : Nat} {f : Addr} {fd : FuncData} {ps : List Str} {n : Nat} {sp : Nat → Sp} {sp' : Sp} (F : ∀ j, j ≤ n → FnOk P w K mg base CX k f fd ps (sp j)) (h : ∀ vs H Q E, sp' vs H Q E → ∃ j, j ≤ n ∧ sp j vs H Q E) :
    FnOk P w K mg base CX k f fd ps sp' :=
  ⟨fun vs H Q E q => let ⟨j, hj, q⟩ := h vs H Q E q; (F j hj).len vs H Q E q, fun A outer s H args us vs Q E hr he hb hv hs => let ⟨j, hj, q⟩ := h vs H Q E hs; (F j hj).run A outer s H args us vs Q E hr he hb hv q⟩
theorem FnOk.never {P : Program} {w : World} {K : PySem.W.Frag} {mg : Str → Option Value} {base : Heap} {CX : CXT} {k : Nat} {f : Addr} {fd : FuncData} {ps : List Str} {cn : Str} {G : D → D → R D} {n : Nat} : FnOk P w K mg base CX k f fd ps (spW P w K mg cn G n fun _ => .bad) :=
  ⟨fun _ _ _ _ ⟨_, _, _, _, _, _, _, h⟩ => h.elim, fun _ _ _ _ _ _ _ _ _ _ _ _ _ ⟨_, _, _, _, _, _, _, h⟩ => h.elim⟩
/-! fuel: how many places are left -/
def lenP (f : Str) (d0 : D) : Nat := match objOf d0 with
  | some (_, kvs) => (match kvs.lookup f with
    | some (.list l) => l.length
    | _ => 0)
  | none => 0
def fuelC (f : Str) (d0 k1 : D) : Nat := match k1 with
  | .int i => lenP f d0 - i.toNat
  | _ => 0
def condC (f : Str) (j : Nat) (d0 kd : D) : Bool := match kd with
  | .tuple [k1, _] => decide (fuelC f d0 k1 = j)
  | _ => false
/-- by its own fuel -/
def gwAll (f : Str) (gw : Nat → D → D → R D) (d0 kd : D) : R D := match kd with
  | .tuple [k1, _] => gw (fuelC f d0 k1) d0 kd
  | _ => .bad
theorem memo_fuel {f cn : Str} {gw : Nat → D → D → R D} {j m : Nat} : memoS cn (gwAll f gw) (condC f j) m = memoS cn (gw j) (condC f j) m := by
  funext ρ
  match ρ with
  | some d0 :: some k1 :: some k2 :: r =>
    simp only [memoS]
    by_cases h : condC f j d0 (.tuple [k1, k2]) = true
    · have e : fuelC f d0 k1 = j := by simpa [condC] using h
      simp only [gwAll, e]
    · have h : condC f j d0 (.tuple [k1, k2]) = false := by simpa using h
      simp only [h, Bool.and_false, Bool.false_and, memoO]
      rfl
  | [] => rfl
  | [some _] => rfl
  | [none] => rfl
  | [some _, some _] => rfl
  | [some _, none] => rfl
  | [none, _] => rfl
  | none :: _ :: _ :: _ => rfl
  | some _ :: none :: _ :: _ => rfl
  | some _ :: some _ :: none :: _ => rfl
theorem aok_asg {w : List Sh} {i : Nat} {f : EF} (hi : 3 ≤ i) (ρ : Env) : AOk (asgS w i f ρ) ρ := by
  unfold asgS
  cases f (hidA w ρ) with
  | ok d => exact ⟨by simp, fun j hj => List.getElem?_set_ne (by omega)⟩
  | err c => rfl
  | bad => trivial
theorem aok_nx (ρ : Env) : AOk (nxS ρ) ρ := ⟨rfl, fun _ _ => rfl⟩
section
variable [Mem] {X : Cx} {Er : ErT} {te : TE} {ta : TA} {e : Expr} {fe : EF} {pos : Pos}
theorem dvq (i : Nat) {x : Str} {pos : Pos} (hN : X.N[i]? = some x := by rfl) (hv : Vis X.env.scope x := by first | exact Or.inl rfl | exact Or.inr (Or.inl rfl) | exact Or.inr (Or.inr rfl)) (hd : (x == ("__debug__" : Str)) = false := by decide) (hcd : (x == ("__classdict__" : Str)) = false := by decide) : DEq X Er (.Name x pos) (tVar i) (vqE i) :=
  deq_var hN hv hd hcd
theorem kfld (K : PySem.W.Frag) {mg : Str → Option Value} {x f : Str} {fl : List Str} (T : KlI K mg x fl) (h : DEq X Er e te fe) (hf : f ∈ fl := by decide +kernel) (hK : X.K = K := by rfl) (hb : attributeBase e f X.env (eval e X.env) = eval e X.env := by rfl) : DE X Er (.Attribute e f pos) (tFld K te f) (fldE [x] f fe) := by
  subst hK
  exact de_fld h (T.flds hf) hb
theorem kfldq (K : PySem.W.Frag) {mg : Str → Option Value} {x f : Str} {fl : List Str} (T : KlI K mg x fl) (h : DEq X Er e te fe) (hf : f ∈ fl := by decide +kernel) (hK : X.K = K := by rfl) (hb : attributeBase e f X.env (eval e X.env) = eval e X.env := by rfl) : DEq X Er (.Attribute e f pos) (tFld K te f) (fldQ [x] f fe) := by
  subst hK
  exact deq_fld h (T.flds hf) hb
theorem kmeth (K : PySem.W.Frag) (mg : Str → Option Value) {pl : Sem Bool} {CX : CXT} {k n : Nat} {fd : FuncData} {ps : List Str} {E : XK} {x m : Str} {fl : List Str} {f : Addr} {g : List D → R D} {fa : AF} {e1 : Expr} {es : List Expr} {apos : Pos} (T : KlI K mg x fl) (h : DEq X Er e te fe) (hm : Meth K T.C m f)
    (F : FnOk X.prog X.w K mg X.base CX k f fd ps (spD K mg n g)) (hr : Room k X.A) (hb : Binds K fd ps []) (hx : Passes CX X E) (he : ∀ c H', Er c H' → erX mg E c H') (ha : DAq X Er (e1 :: es) ta fa) (hn : ∀ ρ ds, fa ρ = .ok ds → ds.length + 1 = n)
    (hK : X.K = K := by rfl) (hG : X.mg = mg := by rfl) (hst : starEach (e1 :: es) X.env = (false, eval e1 X.env) :: starEach es X.env := by rfl) (hpl : (backTo pos (starEach es X.env)).any (·.1) = false := by rfl)
    (ht : eval (.Call (.Attribute e m apos) (e1 :: es) [] pos) X.env = (do
      let ov ← eval e X.env
      standAt apos.atName
      let (f, first) ← holding [ov] (getMethod ov m pl)
      callWith pos f first (backTo pos (starEach (e1 :: es) X.env)) (backToKw pos (keywordEach [] X.env))) := by rfl) :
    DE X Er (.Call (.Attribute e m apos) (e1 :: es) [] pos) (tMeth T.C m (spD K mg n g) [] E te ta) (methE x m g fe fa) := by
  subst hK; subst hG
  exact de_meth h T.n T.cl hm F hr hb hx he ha hn hst hpl ht
theorem kmethW (K : PySem.W.Frag) (mg : Str → Option Value) {P : Program} {w : World} {pl : Sem Bool} {CX : CXT} {k n : Nat} {fd : FuncData} {ps : List Str} {E : XK} {x m : Str} {fl : List Str} {f : Addr} {G : D → D → R D} {g : List D → R D} {fa : AF} {e1 : Expr} {es : List Expr} {apos : Pos} (T : KlI K mg x fl) (hv : MemV P w K x G) (h : DEq X Er e te fe) (hm : Meth K T.C m f)
    (F : FnOk P w K mg X.base CX k f fd ps (spW P w K mg x G n g)) (hr : Room k X.A) (hb : Binds K fd ps []) (hx : Passes CX X E) (he : ∀ c H', Er c H' → erX mg E c H') (ha : DAq X Er (e1 :: es) ta fa) (hn : ∀ ρ ds, fa ρ = .ok ds → ds.length + 1 = n)
    (hK : X.K = K := by rfl) (hG : X.mg = mg := by rfl) (hP : X.prog = P := by rfl) (hW : X.w = w := by rfl) (hst : starEach (e1 :: es) X.env = (false, eval e1 X.env) :: starEach es X.env := by rfl) (hpl : (backTo pos (starEach es X.env)).any (·.1) = false := by rfl)
    (ht : eval (.Call (.Attribute e m apos) (e1 :: es) [] pos) X.env = (do
      let ov ← eval e X.env
      standAt apos.atName
      let (f, first) ← holding [ov] (getMethod ov m pl)
      callWith pos f first (backTo pos (starEach (e1 :: es) X.env)) (backToKw pos (keywordEach [] X.env))) := by rfl) :
    DE X Er (.Call (.Attribute e m apos) (e1 :: es) [] pos) (tMeth T.C m (spW P w K mg x G n g) [] E te ta) (methE x m g fe fa) := by
  subst hK; subst hG; subst hP; subst hW
  exact de_methW hv h T.n T.cl hm F hr hb hx he ha hn hst hpl ht
theorem methA_len {a : EF} {r : AF} {n : Nat} (h : ∀ ρ ds, r ρ = .ok ds → ds.length = n) : ∀ ρ ds, consA a r ρ = .ok ds → ds.length + 1 = n + 2 := fun ρ ds e => by
  have := args_lenS (a := a) h ρ ds e
  omega
end
end DL

set_option maxHeartbeats 1000000
/-! DM8: __init__ of a counter; its ways. -/
namespace DL
open PySem PySem.Spec L2
open PyProof.Rows hiding St
abbrev ErN : ErT := fun _ _ => False
def tInit (X : Cx) (t3 t4 : TE) : TS := tSeq (sFld X.K (tVar 0) (tVar 1) "tiles") (tSeq (sFld X.K (tVar 0) (tVar 2) "goal") (tSeq (sFld X.K (tVar 0) t3 "places") (tSeq (sFld X.K (tVar 0) t4 "columns") (sFld X.K (tVar 0) (tDNewN X) "known"))))
section
variable [Mem] {X : Cx} {e3 e4 : Expr} {t3 t4 : TE} {f3 f4 : EF} {xs x1 x2 : Str} {a1 a2 a3 a4 a5 b1 b2 b3 b4 b5 c1 c2 c5 d1 d2 d3 d4 d5 : Pos}
theorem ps_init5 (h3 : DE X ErN e3 t3 f3) (h4 : DE X ErN e4 t4 f4) (h0 : ∀ p, PE X (.Name xs p) (tVar 0)) (h1 : ∀ p, PE X (.Name x1 p) (tVar 1)) (h2 : ∀ p, PE X (.Name x2 p) (tVar 2))
    (s1 : swapsWith (.Name x1 c1) (some (.Attribute (.Name xs a1) "tiles" b1)) d1.line X.env = pure false := by rfl) (s2 : swapsWith (.Name x2 c2) (some (.Attribute (.Name xs a2) "goal" b2)) d2.line X.env = pure false := by rfl) (s3 : swapsWith e3 (some (.Attribute (.Name xs a3) "places" b3)) d3.line X.env = pure false := by rfl)
    (s4 : swapsWith e4 (some (.Attribute (.Name xs a4) "columns" b4)) d4.line X.env = pure false := by rfl) (s5 : swapsWith (.Dict [] [] c5) (some (.Attribute (.Name xs a5) "known" b5)) d5.line X.env = pure false := by rfl) :
    PSs X [.Assign [.Attribute (.Name xs a1) "tiles" b1] (.Name x1 c1) d1, .Assign [.Attribute (.Name xs a2) "goal" b2] (.Name x2 c2) d2, .Assign [.Attribute (.Name xs a3) "places" b3] e3 d3, .Assign [.Attribute (.Name xs a4) "columns" b4] e4 d4, .Assign [.Attribute (.Name xs a5) "known" b5] (.Dict [] [] c5) d5] (tInit X t3 t4) ∧ DRd X.K ErN t3 f3 ∧ DRd X.K ErN t4 f4 :=
  ⟨pss_cons (ps_fld (h0 _) (h1 _) s1) (pss_cons (ps_fld (h0 _) (h2 _) s2) (pss_cons (ps_fld (h0 _) h3.pe s3) (pss_cons (ps_fld (h0 _) h4.pe s4) (pss_one (ps_fld (h0 _) pe_dnewN s5))))), h3.rd, h4.rd⟩
end
def gIof (f3 f4 : EF) (G : D) : R (D × D) := (f3 [none, none, some G]).noErr.bind fun pl => (f4 [none, none, some G]).noErr.bind fun c => .ok (pl, c)
theorem upd_comm {H : Hp} {a b : Addr} {o u : HO} (h : a ≠ b) : upd (upd H a o) b u = upd (upd H b u) a o := by
  funext c
  unfold upd
  by_cases c1 : c = b
  · subst c1
    rw [if_pos rfl, if_neg (Ne.symm h), if_pos rfl]
  · rw [if_neg c1, if_neg c1]
theorem upd_hide {H H2 : Hp} {a : Addr} {o o' : HO} : upd H2 a o' = upd (remH H2 a) a o' := upd_rem.symm
section
variable {P : Program} {w : World} {K : PySem.W.Frag} {mg : Str → Option Value} {base : Heap}
theorem env3 [Mem] {F : Hp} {v0 v1 v2 : V} {G : D} (h : Dp K F v2 G) : EnvR K F [some v0, some v1, some v2] [none, none, some G] := ⟨fun i d e => by
  match i, e with
  | 0, e => cases e
  | 1, e => cases e
  | 2, e => cases e; exact ⟨v2, rfl, .inl h⟩
  | i + 3, e => simp at e, rfl⟩
theorem init_ok {qual : Str} {st : Stmt} {f C : Addr} {fd : FuncData} {N : List Str} {k : Nat} {f3 f4 : EF} (Fn : Fun K "__init__" qual st f fd) (S : FnScope N ["self", "tiles", "floor"] (defScope st)) (hN : N.length = 3) (hcl : Cls K C) (hna : ∀ f ∈ (["tiles", "goal", "places", "columns", "known"] : List Str), NoAttr K C f)
    (body : ∀ [Mem] (cdv : Value) (A : Around) (outer : List PySem.Env) (s : Shared) (H : Hp) (E : XK), Room k (A.deeper (envOfC qual (defScope st) s.heap.objs.size f cdv)) →
      ∃ t3 t4, PSs (cxOf (L2.CX P w) P w K mg base N qual (defScope st) f cdv A outer s H E) (defBody st) (tInit (cxOf (L2.CX P w) P w K mg base N qual (defScope st) f cdv A outer s H E) t3 t4) ∧ DRd K ErN t3 f3 ∧ DRd K ErN t4 f4) :
    FnOk P w K mg base (L2.CX P w) (k + 1) f fd ["self", "tiles", "floor"] (spI P w K C (gIof f3 f4)) := by
  refine Fn.okX S (fun vs H Q E h => by obtain ⟨_, _, _, _, _, _, _, _, _, rfl, _⟩ := h; rfl) (fun cdv A outer s H vs Q E hr h => ?_)
  obtain ⟨M, F, Hb, v1, v2, Td, Gd, a, dx, rfl, ha, rfl, hdx, wf, d1, d2, p⟩ := h
  obtain ⟨t3, t4, hp, r3, r4⟩ := body cdv A outer s (upd Hb a (.ins C dx [])) E hr
  refine ⟨_, hp, ?_⟩
  have hσ : L2.start N [.ref a, v1, v2] = [some (.ref a), some v1, some v2] := by
    unfold L2.start
    simp [hN]
  rw [hσ]
  have n1 := hna "tiles" (by simp)
  have n2 := hna "goal" (by simp)
  have n3 := hna "places" (by simp)
  have n4 := hna "columns" (by simp)
  have n5 := hna "known" (by simp)
  refine ⟨v1, rfl, .ref a, rfl, a, C, dx, [], rfl, upd_same, hcl, n1, by simp, ?_⟩
  refine ⟨v2, rfl, .ref a, rfl, a, C, dx, [("tiles", v1)], rfl, upd_same, hcl, n2, by simp, ?_⟩
  have e2 : putF "goal" v2 [("tiles", v1)] = ([("tiles", v1), ("goal", v2)] : List (Str × V)) := by
    simp only [putF]
    rw [if_neg (by decide +kernel)]
  rw [e2, upd_upd, upd_upd]
  have no : ¬ Mem.is a := wf.no ha
  refine r3 F _ _ [none, none, some Gd] _ (wf.upd ha) (env3 d2) (Post.imp (Post.hide (Er2 := ErN) p wf ha) fun F2 H2 pl g2 p2 vp dvp => ?_)
  have g2' := grow_hide wf ha g2
  have h2a : H2 a = some (.ins C dx [("tiles", v1), ("goal", v2)]) := g2.hh a _ no upd_same
  have e3 : putF "places" vp [("tiles", v1), ("goal", v2)] = ([("tiles", v1), ("goal", v2), ("places", vp)] : List (Str × V)) := by
    simp only [putF]
    rw [if_neg (by decide +kernel), if_neg (by decide +kernel)]
  refine ⟨.ref a, rfl, a, C, dx, _, rfl, h2a, hcl, n3, by simp, ?_⟩
  have u3 : upd H2 a (.ins C dx ([("tiles", v1), ("goal", v2), ("places", vp)] : List (Str × V))) = upd (remH H2 a) a (.ins C dx [("tiles", v1), ("goal", v2), ("places", vp)]) := upd_rem.symm
  rw [e3, u3]
  have no2 : ¬ Mem.is a := no
  refine r4 F2 _ _ [none, none, some Gd] _ (g2'.fh.upd remH_same) (env3 (dp_mono g2.ff _ _ d2)) (Post.imp (Post.hide (Er2 := ErN) p2 g2'.fh remH_same) fun F3 H3 c g3 p3 vc dvc => ?_)
  have g3' := grow_hide g2'.fh remH_same g3
  have h3a : H3 a = some (.ins C dx [("tiles", v1), ("goal", v2), ("places", vp)]) := g3.hh a _ no upd_same
  have e4 : putF "columns" vc [("tiles", v1), ("goal", v2), ("places", vp)] = ([("tiles", v1), ("goal", v2), ("places", vp), ("columns", vc)] : List (Str × V)) := by
    simp only [putF]
    rw [if_neg (by decide +kernel), if_neg (by decide +kernel), if_neg (by decide +kernel)]
  refine ⟨.ref a, rfl, a, C, dx, _, rfl, h3a, hcl, n4, by simp, ?_⟩
  have u4 : upd H3 a (.ins C dx ([("tiles", v1), ("goal", v2), ("places", vp), ("columns", vc)] : List (Str × V))) = upd (remH H3 a) a (.ins C dx [("tiles", v1), ("goal", v2), ("places", vp), ("columns", vc)]) := upd_rem.symm
  rw [e4, u4]
  intro kad hk
  have hka : kad ≠ a := fun z => by rw [z, upd_same] at hk; cases hk
  have e5 : putF "known" (.ref kad) [("tiles", v1), ("goal", v2), ("places", vp), ("columns", vc)] = ctrF v1 v2 vp vc kad := by
    simp only [putF]
    rw [if_neg (by decide +kernel), if_neg (by decide +kernel), if_neg (by decide +kernel), if_neg (by decide +kernel)]
    rfl
  refine ⟨.ref a, rfl, a, C, dx, [("tiles", v1), ("goal", v2), ("places", vp), ("columns", vc)], rfl, by rw [upd_ne (Ne.symm hka)]; exact upd_same, hcl, n5, by simp, ?_⟩
  rw [e5, upd_comm hka, upd_upd]
  exact Post.now p3 g3'.fh vp vc kad (dp_mono g3.ff _ _ dvp) dvc remH_same (by rw [upd_ne hka] at hk; exact hk) hka
end
/-! ### ways -/
theorem kmkm (K : PySem.W.Frag) (mg : Str → Option Value) [M : Mem] {X : Cx} {Er : ErT} {ta tb : TA} {pos : Pos} {pl : Sem Bool} {CX CX' : CXT} {k k' : Nat} {fi fm : Addr} {fd fd' : FuncData} {ps ps' : List Str} {E E' : XK} {x m : Str} {fl : List Str} {p p' apos : Pos} {e e2 : Expr} {es es2 : List Expr} {fa fb : AF} {g : D → R (D × D)} {G : D → D → R D} {gm : List D → R D} {n : Nat}
    (T : KlI K mg x fl) (M0 : Mk K T.C fi) (F0 : FnOk X.prog X.w K mg X.base CX k fi fd ps (spI X.prog X.w K T.C g)) (hr : Room (k + 1) X.A) (hg : Gl X x) (hb : Binds K fd ps []) (hx : Passes CX X E')
    (ha : DA X ErN (e :: es) ta fa) (hme : Meth K T.C m fm) (F1 : FnOk X.prog X.w K mg X.base CX' k' fm fd' ps' (spW X.prog X.w K mg x G n gm)) (hr' : Room k' X.A) (hb' : Binds K fd' ps' []) (hx' : Passes CX' X E) (he : ∀ c H', Er c H' → erX mg E c H')
    (hbq : ∀ [Mem], DAq X ErN (e2 :: es2) tb fb) (hn : ∀ ρ ds, fb ρ = .ok ds → ds.length + 1 = n) (hK : X.K = K := by rfl) (hG : X.mg = mg := by rfl)
    (hdb : (x == ("__debug__" : Str)) = false := by decide) (hs1 : starEach (e :: es) X.env = (false, eval e X.env) :: starEach es X.env := by rfl) (hpl1 : (backTo p' (starEach es X.env)).any (·.1) = false := by rfl)
    (hst : starEach (e2 :: es2) X.env = (false, eval e2 X.env) :: starEach es2 X.env := by rfl) (hpl : (backTo pos (starEach es2 X.env)).any (·.1) = false := by rfl)
    (ht : eval (.Call (.Attribute (.Call (.Name x p) (e :: es) [] p') m apos) (e2 :: es2) [] pos) X.env = (do
      let ov ← eval (.Call (.Name x p) (e :: es) [] p') X.env
      standAt apos.atName
      let (f, first) ← holding [ov] (getMethod ov m pl)
      callWith pos f first (backTo pos (starEach (e2 :: es2) X.env)) (backToKw pos (keywordEach [] X.env))) := by exact mcall_of (abase_callA (by decide)) fun _ => rfl) :
    DE X Er (.Call (.Attribute (.Call (.Name x p) (e :: es) [] p') m apos) (e2 :: es2) [] pos) (tMeth T.C m (spW X.prog X.w K mg x G n gm) [] E (tMake T.C (spI X.prog X.w K T.C g) [] E' ta) tb) (mkmE x m g fa fb gm) := by
  subst hK; subst hG
  exact de_mkm T.n T.cl M0 F0 hr hg T.m hb hx ha hme F1 hr' hb' hx' he hbq hn hdb hs1 hpl1 hst hpl ht
theorem kds_mk (K : PySem.W.Frag) (mg : Str → Option Value) [M : Mem] {X : Cx} {Er : ErT} {s0 : Sh} {wl w w' : List Sh} {ta : TA} {t : TS} {f : SF} {pos : Pos} {CX : CXT} {k : Nat} {fi : Addr} {fd : FuncData} {ps : List Str} {E : XK} {cx x : Str} {fl : List Str} (i : Nat) {p p' pn : Pos} {e : Expr} {es : List Expr} {rest : List Stmt} {fa : AF} {g : D → R (D × D)} {G : D → D → R D}
    (T : KlI K mg cx fl) (M0 : Mk K T.C fi) (F0 : FnOk X.prog X.w K mg X.base CX k fi fd ps (spI X.prog X.w K T.C g)) (hr : Room (k + 1) X.A) (hg : Gl X cx) (hb : Binds K fd ps []) (hx : Passes CX X E)
    (hN : X.N.Nodup) (ha : DA X ErN (e :: es) ta fa) (hrest : ∀ [Mem], MemV X.prog X.w K cx G → DS X Er .fz wl (w.set i .fz) rest w' t f) (hw0 : s0 = .fz := by rfl)
    (hi : X.N[i]? = some x := by rfl) (hxl : Loc X.env.scope x := by first | exact Or.inl rfl | exact Or.inr rfl) (hK : X.K = K := by rfl) (hG : X.mg = mg := by rfl)
    (hdb : (cx == ("__debug__" : Str)) = false := by decide) (he : starEach (e :: es) X.env = (false, eval e X.env) :: starEach es X.env := by rfl) (hpl : (backTo p' (starEach es X.env)).any (·.1) = false := by rfl)
    (hs : swapsWith (.Call (.Name cx p) (e :: es) [] p') (some (.Name x pn)) pos.line X.env = pure false := by rfl) (hf : X.fn x = true ∨ X.env.scope.names.lookup x = some .local := by first | exact .inl rfl | exact .inr rfl) :
    DS X Er s0 wl w (.Assign [.Name x pn] (.Call (.Name cx p) (e :: es) [] p') pos :: rest) w' (tSeq (tAsg (tMake T.C (spI X.prog X.w K T.C g) [] E ta) (gName i)) t) (seqS (mkS w i cx g fa) (endS f)) := by
  subst hK; subst hG
  exact ds_mk T.n M0 F0 hr hg T.m hb hx hN hi hxl ha hrest hw0 hdb he hpl hs hf
section
variable [Mem] {X : Cx} {Er : ErT} {s0 : Sh} {wl w w1 w' : List Sh} {xs x1 x2 : Str} {p1 p2 p3 p4 p5 p6 p7 p8 p9 q1 q2 q3 q4 q5 q6 q7 q8 q9 r1 r2 r3 r4 r5 : Pos} {ka kb kc : Nat}
/-- the memo's statements, something run ahead of the store -/
theorem ds_memo {cn : Str} {G : D → D → R D} {cond : D → D → Bool} {m : Nat} {tA : TS} {tE : TE} {fA : SF} {fE : EF} {stA : Stmt} {eE : Expr} (hv : MemV X.prog X.w X.K cn G) (hcl : ∀ C, PySem.W.nsIn X.K mainGlobals cn = some (some (.ref C)) → Cls X.K C ∧ NoAttr X.K C "known") (hu : X.A.units + 64 < cLine)
    (h0 : ∀ p, PE X (.Name xs p) (tVar 0)) (h1 : ∀ p, PE X (.Name x1 p) (tVar 1)) (h2 : ∀ p, PE X (.Name x2 p) (tVar 2)) (hA : D1 X Er s0 wl w stA w1 tA fA) (hE : DE X Er eE tE fE)
    (hA1 : ∀ ρ, AOk (fA ρ) ρ) (hG : ∀ d0 k1 k2, cond d0 (.tuple [k1, k2]) = true → outM (seqS fA (retS w1 fE) (some d0 :: some k1 :: some k2 :: List.replicate m none)) = G d0 (.tuple [k1, k2]))
    (hw : ∀ j, j < 3 → sh w j = .fz := by exact fun j _ => fzAll_ok rfl j) (hw1 : ∀ j, j < 3 → sh w1 j = .fz := by exact fun j _ => fzAll_ok rfl j) (hs0 : s0 = .fz := by rfl)
    (hsw : swapsWith eE (some (.Subscript (.Attribute (.Name xs q1) "known" q2) (.Tuple [.Name x1 q3, .Name x2 q4] kb q5) q6)) q7.line X.env = pure false := by rfl)
    (hbm : behindInMarks .NotIn (.Attribute (.Name xs p5) "known" p6) = false := by rfl)
    (ht : ∀ (a b d : Pos), starEach [.Name x1 a, .Name x2 b] X.env = (false, eval (.Name x1 a) X.env) :: starEach [.Name x2 b] X.env ∧ starEach [.Name x2 d] X.env = (false, eval (.Name x2 d) X.env) :: starEach [] X.env := by intros; exact ⟨rfl, rfl⟩)
    (hb : ∀ p, attributeBase (.Name xs p) "known" X.env (eval (.Name xs p) X.env) = eval (.Name xs p) X.env := by intros; rfl) :
    DS X Er s0 wl w [.If (.Compare (.Tuple [.Name x1 p1, .Name x2 p2] ka p3) [.NotIn] [.Attribute (.Name xs p5) "known" p6] p7)
      [stA, .Assign [.Subscript (.Attribute (.Name xs q1) "known" q2) (.Tuple [.Name x1 q3, .Name x2 q4] kb q5) q6] eE q7] [] p8,
      .Return (some (.Subscript (.Attribute (.Name xs r1) "known" r2) (.Tuple [.Name x1 r3, .Name x2 r4] kc r5) p4)) p9] w'
      (tSeq (tIfS (tB (tNNotIn X tKey (tKnown X.K))) (tSeq tA (sNPut X (tKnown X.K) tKey tE)) tNext) (tRet (tNGet X (tKnown X.K) tKey))) (memoS cn G cond m) := by
  have hu16 : X.A.units + 16 < cLine := by omega
  have key : ∀ (a b c : Pos) (k : Nat), PE X (.Tuple [.Name x1 a, .Name x2 b] k c) tKey := fun a b c k => pe_tup (pa_cons (h1 a) (pa_cons (h2 b) pa_nil (ht a b b).2) (ht a b b).1)
  have kn : ∀ (a b : Pos), PE X (.Attribute (.Name xs a) "known" b) (tKnown X.K) := fun a b => pe_fld (h0 a) (hb a)
  exact ⟨pss_cons (ps_if (pt_cmp (pc_nnotin hu16 (key _ _ _ _) (kn _ _)) hbm) (pss_cons hA.ps (pss_one (ps_nput hu16 (kn _ _) (key _ _ _ _) hE.pe hsw))) pss_nil) (pss_one (ps_ret (pe_nget hu16 (kn _ _) (key _ _ _ _) (fun _ _ => rfl)))), dr_memo hv hcl hw hw1 hs0 hA.rd hE.rd hA1 hG⟩
end
end DL

set_option maxHeartbeats 2000000
/-! DX1: a caught exception, kept in a slot: tracked from there on. -/
namespace DL
open PySem PySem.Spec L2
open PyProof.Rows hiding St
section
variable {X : Cx} {pins : List (Addr × Obj)} {σ : St} {H : Hp} {s : Shared} {a : Addr} {o : HO}
theorem upd_keeps (hn : H a = none) {b : Addr} {u : HO} (e : H b = some u) : upd H a o b = some u := by
  rw [upd_ne (ne_of_none e hn)]
  exact e
/-- an object that stands in the heap and isn't tracked is tracked from here on -/
theorem inv_track (I : Inv X pins σ H s) (hn : H a = none) (h0 : X.s_0.heap.get? a = none) (nL : a ≠ X.env.locals) (nC : ∀ x c, X.env.cells.lookup x = some c → c ≠ a) (nP : ∀ p ∈ X.pn ++ pins, p.1 ≠ a) (new : ObjOk X.prog X.w (upd H a o) s.heap a o) : Inv X pins σ (upd H a o) s := by
  have ne0 : ∀ b u, X.s_0.heap.get? b = some u → b ≠ a := fun b u e z => by
    rw [z, h0] at e
    cases e
  refine ⟨I.ok, I.os, I.bare, ⟨I.base.keep, I.base.slot, fun b u e n hx => ?_, I.base.there, fun b xs e => ?_, fun b u v e => ?_, fun b ps e => ?_⟩, I.loc, I.cell, ?_, fun x c e => ?_, fun p hp => ?_, fun b u e => ?_, I.len⟩
  · rw [upd_ne (ne0 b u e)]
    exact I.base.free b u e n hx
  · exact upd_keeps hn (I.base.tups b xs e)
  · exact upd_keeps hn (I.base.frzs b u v e)
  · obtain ⟨m, q⟩ := I.base.tbls b ps e
    exact ⟨m, upd_keeps hn q⟩
  · rw [upd_ne (Ne.symm nL)]
    exact I.free
  · rw [upd_ne (nC x c e)]
    exact I.freeC x c e
  · obtain ⟨q1, q2, q3⟩ := I.pin p hp
    exact ⟨q1, by rw [upd_ne (nP p hp)]; exact q2, q3⟩
  · by_cases hb : b = a
    · subst hb
      rw [upd_same] at e
      cases e
      exact new
    · rw [upd_ne hb] at e
      exact (I.hok b u e).stay (fun _ _ _ q => q) (fun c q => by rw [upd_ne (ne_of_none q hn)]; exact q) fun c xs q => upd_keeps hn q
end
/-- what the body may let out: an own exception of a class that the clause names; slot i is the clause's name, slot k keeps it -/
def wKeep (K : PySem.W.Frag) (c : Value) (i k : Nat) (D : Ends) : WX := fun cls d σ H =>
  d = none ∧ PySem.W.exmOne K cls c = some true ∧ ∀ a, H a = none → D.nx (((σ.set i (some (.ref a))).set k (some (.ref a))).set i none) (upd H a (CxO cls a))
section
variable {X : Cx} {x n m : Str} {c : Value} {i k : Nat} {body : List Stmt} {np p1 p2 p3 pos pos' : Pos} {tb : WX → TS}
theorem off_frames {B h : Heap} {l : List PySem.Env} {a : Addr} {o : Obj} {vs : Array Value} (ff : h.FunFrames B l) (e : h.get? a = some o) (dd : o.data = .fields vs) : a ∉ frs l := fun hm => by
  obtain ⟨_, o', e', nf⟩ := ff.mem hm
  rw [e] at e'
  cases e'
  exact nf _ dd
/-- try: .. except x as n: m = n -/
theorem ps_try_keep (hs : X.stack = X.env :: X.outer) (hf : X.env.frame = some X.env.locals) (hx0 : X.ex = []) (hN : X.N.Nodup) (hi : X.N[i]? = some n) (hln : X.env.kindOf n = some .local) (hv : Vis X.env.scope n)
    (hk : X.N[k]? = some m) (hm : Loc X.env.scope m) (hc : Names X x c)
    (hb : ∀ (W : WX) (pn : List (Addr × Obj)) (xe : Value → Shared → Prop), Takes (X.tr pn xe) W → PassesOwn (model X.prog X.w) X.A X.env xe → PSs (X.tr pn xe) body (tb W))
    (hd1 : (n == ("__debug__" : Str)) = false) (hd2 : (n == ("__classdict__" : Str)) = false) (hsw : swapsWith (.Name n p2) (some (.Name m p1)) p3.line X.env = pure false) (hfn : X.fn m = true ∨ X.env.scope.names.lookup m = some .local) :
    PS X (.Try body [.ExceptHandler (some (.Name x np)) (some n) [.Assign [.Name m p1] (.Name n p2) p3] pos'] [] [] pos) (fun D σ H => tb (wKeep X.K c i k D) D σ H) := by
  refine ⟨fun pins s σ H D I h => ?_⟩
  have ok := I.ok
  have hfr : X.A.frames = some (X.env :: X.outer) := by rw [ok.frames, hs]
  have hloc : Loc X.env.scope n := .inl hln
  have hsuite : ∀ (a : Addr) (pn : List (Addr × Obj)), PSs (X.suite a pn) [.Assign [.Name m p1] (.Name n p2) p3] (tAsg (tVar i) (gName k)) := fun a pn => by
    refine pss_one (ps_set hN hk hm (pe_var hi hv hd1 hd2) hsw hfn)
  refine wpAny_Try_except ?_
  have body_ := (hb (wKeep X.K c i k D) (X.pn ++ pins) (fun e s₁ => wpAny (model X.prog X.w) X.A (noteFrame e X.env) (fun _ s₂ => wpAny (model X.prog X.w) X.A (setFlight e none) (fun _ s₃ =>
    wpAny (model X.prog X.w) X.A (handleBy e X.env [.ExceptHandler (some (.Name x np)) (some n) [.Assign [.Name m p1] (.Name n p2) p3] pos']) (SP X pins D) X.xe s₃) X.xe s₂) X.xe s₁) ?tk PassesOwn.looking).run [] s σ H D (I.toTry _) h
  case tk =>
    rintro u s' ⟨a, B, sI, pins', σ', H', cls, d, rfl, J', nb, up, sky, na, os, ag, rfl, hexm, hnx⟩
    have J : Inv X pins σ' H' sI := J'.ofTry ok
    have sky2 : Sky B (X.env :: X.outer) a (Zc cls none) X.env.locals s'.heap := by
      rw [← hs]
      exact sky
    show wpAny (model X.prog X.w) X.A (noteFrame (.ref a) X.env) _ _ _
    refine Sky.land Zc.steady hfr hf sky2 fun h3 fl3 up3 => ?_
    have J3 : Inv X pins σ' H' { s' with heap := h3 } := J.landed nb fl3.1 (up.trans up3) os ag
    obtain ⟨o3, vs3, e3, z3, d3⟩ := fl3.there
    have nfr := off_frames fl3.2.2.1 e3 d3
    have nfr2 : a ∉ frs X.stack := by
      rw [hs]
      exact nfr
    have nL : a ≠ X.env.locals := fun z => nfr (List.mem_filterMap.mpr ⟨X.env, List.mem_cons_self, by rw [hf, z]⟩)
    have nF : a ∉ X.fs := fun hm => by
      obtain ⟨e, he, q⟩ := List.mem_filterMap.mp hm
      exact nfr (List.mem_filterMap.mpr ⟨e, List.mem_cons_of_mem _ he, q⟩)
    -- before the try's exception, nothing stood at a
    have nI : ∀ b o, sI.heap.get? b = some o → b ≠ a := fun b o e z => by
      subst z
      have := nb _ _ e nfr2
      rw [fl3.2.1] at this
      cases this
    have n0 : X.s_0.heap.get? a = none := by
      cases e : X.s_0.heap.get? a with
      | none => rfl
      | some o =>
        obtain ⟨o', e'⟩ := J.base.there a o e (by rw [hx0]; exact fun z => nomatch z)
        exact absurd rfl (nI a o' e')
    have nC : ∀ y b, X.env.cells.lookup y = some b → b ≠ a := fun y b e => by
      obtain ⟨v, o, e', _⟩ := J.cell y b e
      exact nI b o e'
    have nP : ∀ p ∈ X.pn ++ pins, p.1 ≠ a := fun p hp => nI _ _ (J.pin p hp).1
    refine wpAny_handleBy_cons (codeAny_handlers_test ?_) (by intro q; cases q)
    have S3 := J3.suite e3 d3 na nL nF
    have LT : PySem.W.Looks (model X.prog X.w) h3 (typeOf (.ref a)) cls := fun A Q E s k q => wpAny_typeOf_ref (k _ _ e3) (by rw [z3.1]; exact q)
    have LM := PySem.W.exm_one (M := model X.prog X.w) (J3.kIn) LT hexm
    have test : ∀ {Q : Value → Shared → Prop} {E : Value → Shared → Prop}, Q c { s' with heap := h3 } → wpAny (model X.prog X.w) (X.A.mark (some (.ref a))) (eval (.Name x np) X.env) Q E { s' with heap := h3 } := fun {Q E} q => by
      obtain ⟨hg, hdb, hm | ⟨hm, hv, hnn⟩⟩ := hc
      · exact ld_glob (X := X.suite a ((a, o3) :: (X.pn ++ pins))) S3 hg hm q hdb
      · exact ld_blt (X := X.suite a ((a, o3) :: (X.pn ++ pins))) S3 hg hm hv q hnn hdb
    refine test (LM.here ?_)
    refine codeAny_handlers_suite_as ?_
    refine HandSPX.lands_againZ fl3 fun h4 fl4 up4 => ?_
    obtain ⟨o4, vs4, e4, z4, d4⟩ := fl4.there
    have J4 : Inv X pins σ' H' { s' with heap := h4 } := J.landed nb fl4.1 ((up.trans up3).trans up4) os ag
    refine store_ok (X := X.suite a ((a, o4) :: (X.pn ++ pins))) (v := .ref a) (J4.suite e4 d4 na nL nF) hN hi hloc rfl (fun s5 S5 => ?_) (.inr hln)
    have hset : (σ'.set i (some (.ref a)))[i]? = some (some (.ref a)) := List.getElem?_set_self (by rw [J.len]; exact (List.getElem?_eq_some_iff.mp hi).1)
    refine wpAny_mono ((hsuite a _).run [] s5 _ H' { nx := fun σ6 H6 => H6 = H' ∧ σ6 = (σ'.set i (some (.ref a))).set k (some (.ref a)), rt := fun _ _ => False, bk := fun _ _ => False, ct := fun _ _ => False } S5 ⟨.ref a, hset, rfl, rfl⟩) (fun f s6 hsp => ?_) (fun _ _ z => False.elim z)
    cases f with
    | brk => obtain ⟨_, _, _, q⟩ := hsp; exact q.elim
    | cont => obtain ⟨_, _, _, q⟩ := hsp; exact q.elim
    | ret u => obtain ⟨_, _, _, _, _, q⟩ := hsp; exact q.elim
    | next =>
      obtain ⟨σ6, H6, S6, rfl, rfl⟩ := hsp
      obtain ⟨e6, _⟩ := S6.pin (a, o4) (List.mem_append_left _ List.mem_cons_self)
      have J6 := inv_track (S6.unsuite ok) na n0 nL nC nP (cxO_ok e6 z4 d4)
      exact gone_ok J6 hN hi hln fun s7 J7 => ⟨_, _, J7, hnx a na⟩
  refine wpAny_mono body_ (fun f s1 hsp => ?_) fun e s1 he => he
  cases f with
  | next =>
    obtain ⟨σ', H', J', q⟩ := hsp
    exact wpAny_execs_nil ⟨σ', H', J'.ofTry ok, q⟩
  | ret u =>
    obtain ⟨v, σ', H', J', r, q⟩ := hsp
    exact ⟨v, σ', H', J'.ofTry ok, r, q⟩
  | _ =>
    obtain ⟨σ', H', J', q⟩ := hsp
    exact ⟨σ', H', J'.ofTry ok, q⟩
end
end DL

set_option maxHeartbeats 2000000
/-! DX2: try: x = e / except C as n: k = n, over data. -/
namespace DL
open PySem PySem.Spec L2
open PyProof.Rows hiding St
section
variable [M : Mem]
/-- an expression that may let an own exception out: what is wished behind it knows the slots -/
abbrev ErW (mg : Str → Option Value) (W : WX) (σ : St) : ErT := fun c H' => ∀ C, mg c = some (.ref C) → W (.ref C) none σ H'
structure DK (X : Cx) (e : Expr) (te : WX → TE) (f : EF) : Prop where
  pe : ∀ (W : WX) (pn : List (Addr × Obj)) (xe : Value → Shared → Prop), Takes (X.tr pn xe) W → PE (X.tr pn xe) e (te W)
  rd : ∀ (W : WX) F H σ ρ Q, Wf F H → EnvR X.K F σ ρ → Post F H (ErW X.mg W σ) (f ρ) (fun F' H' d => ∀ v, Dp X.K F' v d → Q v H') → te W σ H Q
def ownK (g : List D → R D) (fa : AF) : EF := fun ρ => (fa ρ).noErr.bind g
def ifK (t : TF) (a b : EF) : EF := fun ρ => (t ρ).noErr.bind fun c => if c = true then a ρ else b ρ
theorem post_noErr {α β : Type} {F H : Hp} {Er Er' : ErT} {r : R α} {g : α → R β} {P : Hp → Hp → β → Prop} (p : Post F H Er (r.noErr.bind g) P) : Post F H Er' r (fun F1 H1 a => Post F1 H1 Er (g a) P) := by
  cases r with
  | ok a => exact fun F' H' g' => Post.mono p g'
  | err c => exact p.elim
  | bad => exact p
section
variable {X : Cx} {k n : Nat} {f : Addr} {fd : FuncData} {ps : List Str} {g : List D → R D} {x : Str} {p pos : Pos} {e : Expr} {es : List Expr} {ta : TA} {fa : AF}
theorem dk_own (F : FnOk X.prog X.w X.K X.mg X.base (L2.CX X.prog X.w) k f fd ps (spD X.K X.mg n g)) (hr : Room k X.A) (hg : Gl X x) (hm : X.mg x = some (.ref f)) (hk : PySem.W.keepIn X.K (.ref f) = true) (hb : Binds X.K fd ps [])
    (ha : ∀ pn xe, DAq (X.tr pn xe) (fun _ _ => False) (e :: es) ta fa) (hn : ∀ ρ ds, fa ρ = .ok ds → ds.length = n)
    (hd : (x == ("__debug__" : Str)) = false := by decide) (hs : starEach (e :: es) X.env = (false, eval e X.env) :: starEach es X.env := by rfl) (hpl : (backTo pos (starEach es X.env)).any (·.1) = false := by rfl) :
    DK X (.Call (.Name x p) (e :: es) [] pos) (fun W => tCallS (spD X.K X.mg n g) (WE W) ta) (ownK g fa) := by
  refine ⟨fun W pn xe tk => pe_callS (X := X.tr pn xe) F hr hg hm hk hb (fun σ => passAt tk σ) (ha pn xe).pe hd hs hpl, fun W F H σ ρ Q s st q => ?_⟩
  refine (ha [] fun _ _ => False).rd F H σ ρ _ s st ?_
  have q2 := post_noErr (Er' := fun _ _ => False) q
  cases hr : fa ρ with
  | ok ds =>
    rw [hr] at q2
    intro F' H' g' vs dvs
    exact ⟨by rw [dqAll_len dvs]; exact hn ρ ds hr, M, F', ds, g'.fh, dvs, Post.er (q2 F' H' g') fun _ _ h => h⟩
  | err c => rw [hr] at q2; exact q2
  | bad => rw [hr] at q2; exact q2
theorem dk_if {c a b : Expr} {tt : TT} {t1 t2 : WX → TE} {fc : TF} {f1 f2 : EF} (hc : ∀ pn xe, DT (X.tr pn xe) (fun _ _ => False) c tt fc) (h : DK X a t1 f1) (h2 : DK X b t2 f2) : DK X (.IfExp c a b pos) (fun W => tIf tt (t1 W) (t2 W)) (ifK fc f1 f2) := by
  refine ⟨fun W pn xe tk => pe_ifExp (hc pn xe).pe (h.pe W pn xe tk) (h2.pe W pn xe tk), fun W F H σ ρ Q s st q => ?_⟩
  refine (hc [] fun _ _ => False).rd F H σ ρ _ s st (Post.imp (post_noErr q) fun F1 H1 c g1 p1 => ?_)
  cases c with
  | true => exact h.rd W F1 H1 σ ρ Q g1.fh (st.mono g1.ff) p1
  | false => exact h2.rd W F1 H1 σ ρ Q g1.fh (st.mono g1.ff) p1
end
/-- the classes that the clause takes -/
structure Caught (X : Cx) (cB : Value) (c : Str) : Prop where
  is : ∃ C, X.mg c = some (.ref C) ∧ PySem.W.nsIn X.K mainGlobals c = some (some (.ref C)) ∧ PySem.W.exmOne X.K (.ref C) cB = some true
def tryS (w : List Sh) (ia ie ik : Nat) (cs : List Str) (f : EF) : SF := fun ρ => if fzAll w = true then match f ρ with
  | .ok d => .nx (ρ.set ia (some d))
  | .err c => if c ∈ cs then .nx ((((ρ.set ie none).set ik (some (excD c)))).set ie none) else .bad
  | .bad => .bad else .bad
section
variable {X : Cx} {Er : ErT} {s0 : Sh} {wl w : List Sh} {ia ie ik : Nat} {xa xn xk xc : Str} {cB : Value} {cs : List Str} {e : Expr} {te : WX → TE} {f : EF} {np p1 p2 p3 p4 p5 pos pos' : Pos}
theorem d_try (hs : X.stack = X.env :: X.outer) (hf : X.env.frame = some X.env.locals) (hx0 : X.ex = []) (hN : X.N.Nodup) (hc : Names X xc cB) (hcs : ∀ c ∈ cs, Caught X cB c)
    (h : DK X e te f) (hia : X.N[ia]? = some xa) (hie : X.N[ie]? = some xn) (hik : X.N[ik]? = some xk) (hla : Loc X.env.scope xa) (hln : X.env.kindOf xn = some .local) (hv : Vis X.env.scope xn) (hlk : Loc X.env.scope xk)
    (hw : ∀ i, sh w i = .fz) (hne : ie ≠ ik)
    (hd1 : (xn == ("__debug__" : Str)) = false := by decide) (hd2 : (xn == ("__classdict__" : Str)) = false := by decide)
    (hsw : swapsWith e (some (.Name xa p4)) p5.line X.env = pure false := by rfl) (hfa : X.fn xa = true ∨ X.env.scope.names.lookup xa = some .local := by first | exact .inl rfl | exact .inr rfl)
    (hsk : swapsWith (.Name xn p2) (some (.Name xk p1)) p3.line X.env = pure false := by rfl) (hfk : X.fn xk = true ∨ X.env.scope.names.lookup xk = some .local := by first | exact .inl rfl | exact .inr rfl) :
    D1 X Er s0 wl w (.Try [.Assign [.Name xa p4] e p5] [.ExceptHandler (some (.Name xc np)) (some xn) [.Assign [.Name xk p1] (.Name xn p2) p3] pos'] [] [] pos) w
      (fun D σ H => tAsg (te (wKeep X.K cB ie ik D)) (gName ia) D σ H) (tryS w ia ie ik cs f) := by
  refine ⟨ps_try_keep (tb := fun W => tAsg (te W) (gName ia)) hs hf hx0 hN hie hln hv hik hlk hc (fun W pn xe tk po => pss_one (ps_set (X := X.tr pn xe) hN hia hla (h.pe W pn xe tk) hsw hfa)) hd1 hd2 hsk hfk, fun fr F H σ ρ Dn st q => ?_⟩
  unfold tryS at q
  by_cases hz : fzAll w = true
  · rw [if_pos hz] at q
    have env := st.envA
    rw [fz_hid hz] at env
    refine h.rd _ F H σ ρ _ st.fh env ?_
    cases ef : f ρ with
    | bad => rw [ef] at q; exact q.elim
    | ok d =>
      rw [ef] at q
      intro F' H' g v dv
      refine q _ F' H' g.ff (((st.grow g).set_fz dv).congr fun j => ?_)
      by_cases hj : ia = j
      · subst hj; rw [sh_set_fz]; exact hw ia
      · rw [sh_set_ne hj]
    | err c =>
      rw [ef] at q
      by_cases hm : c ∈ cs
      · simp only [if_pos hm] at q
        intro F' H' g C hC
        obtain ⟨C', e1, e2, e3⟩ := (hcs c hm).is
        rw [hC] at e1
        cases e1
        refine ⟨rfl, e3, fun a ha => ?_⟩
        have g2 : Grow F' H' (upd F' a (CxO (.ref C) a)) (upd H' a (CxO (.ref C) a)) := Grow.new g.fh ha
        have st2 := (st.grow g).grow g2
        have hq : DQ X.K (upd F' a (CxO (.ref C) a)) (.ref a) (excD c) := .inr (.inr (.inl ⟨c, rfl, a, C, rfl, e2, upd_same⟩))
        have st3 := ((st2.unset (i := ie)).set_q (i := ik) hq).unset (i := ie)
        have eσ : (((σ.set ie (some (.ref a))).set ik (some (.ref a))).set ie none) = (((σ.set ie none).set ik (some (.ref a))).set ie none) := by
          rw [List.set_comm _ _ hne, List.set_set, List.set_comm _ _ hne, List.set_set]
        rw [eσ]
        refine q _ _ _ (same_trans g.ff g2.ff) (st3.congr fun j => ?_)
        by_cases hj : ik = j
        · subst hj; rw [sh_set_fz]; exact hw ik
        · rw [sh_set_ne hj]
      · simp only [if_neg hm] at q
        exact q.elim
  · rw [if_neg hz] at q
    exact q.elim
end
end
end DL

set_option maxHeartbeats 2000000
/-! DX3: isinstance of a kept exception, is None, list.index, list.count, over data. -/
namespace DL
open PySem PySem.Spec L2
open PyProof.Rows hiding St
/-! ### list.count, list.index -/
def rCountD (K : PySem.W.Frag) : V → List V → Hp → VK → Prop := fun x xs H Q => ∃ (a : Addr) (y : V) (d : PyData) (ds : List PyData), x = V.ref a ∧ xs = [y] ∧ Dp K H (V.ref a) (.list ds) ∧ Dp K H y d ∧ SeqAt.shaped (.list ds) = true ∧ SeqAt.shaped d = true ∧ Q (.int ((ds.countP fun z => PyData.eqv z d : Nat) : Int)) H
section
variable {X : Cx}
theorem mt_countD (hu : X.A.units + 65 < cLine) : MtR X "list.count" (rCountD X.K) := by
  intro pins s σ H x xs v us Q I rx rxs h
  obtain ⟨a, y, d, ds, rfl, rfl, hl, hy, sl, sd, q⟩ := h
  cases rx
  obtain ⟨uy, rfl, ry⟩ := rxs.one
  obtain ⟨bs, r1⟩ := Dp.reads I d y uy hy ry
  cases hl with
  | lst hs ha =>
    obtain ⟨its, rv, ⟨⟨cls, dd, data, sls⟩, n, ho, hc, hdn, hdt⟩, hlen⟩ := I.list hs
    simp only at hc hdt
    subst hc hdt
    obtain ⟨as, h4⟩ := Dp.readsAll I ds _ its ha rv
    have hmap := SeqAt.readsAll_map ds its as (SeqAt.canLay_of_shaped sl) h4
    have eqs := SeqAt.items_eqAt (vs := its.toArray) (show ReadsAll s.heap its.toArray.toList ds as from h4) r1 (SeqAt.canLay_of_shaped sl) (SeqAt.canLay_of_shaped sd) (room_in_shaped sd hu)
    refine call_meets PySem.F.slot_list_count ⟨_, ho, rfl⟩ PySem.F.entry_list_count (PySem.F.args_list_count_2 _ _) (SeqAt.list_countAt a its.toArray n dd sls uy fun u => PyData.eqv (SeqAt.readOf s.heap u) d) ⟨ho, eqs, ?_⟩
    refine ⟨.int ((its.toArray.toList.countP (fun u => PyData.eqv (SeqAt.readOf s.heap u) d) : Nat) : Int), H, I.tok _, ⟨s.toks, rfl⟩, ?_⟩
    have e : its.toArray.toList.countP (fun u => PyData.eqv (SeqAt.readOf s.heap u) d) = ds.countP fun z => PyData.eqv z d := by
      rw [← hmap, List.countP_map]
      rfl
    rw [e]
    exact q
end
def countD : D → D → Option D
  | .list ds, d => if SeqAt.shaped (.list ds) = true ∧ SeqAt.shaped d = true then some (.int ((ds.countP fun z => PyData.eqv z d : Nat) : Int)) else none
  | _, _ => none
def firstAt (d : D) : List D → Nat → Option Nat
  | [], _ => none
  | z :: ds, j => if PyData.eqv z d = true then some j else firstAt d ds (j + 1)
def indexD : D → D → Option D
  | .list ds, d => if SeqAt.shaped (.list ds) = true ∧ SeqAt.shaped d = true then (firstAt d ds 0).map fun j => .int (j : Nat) else none
  | _, _ => none
theorem firstAt_is (d : D) : ∀ (ds : List D) (k j : Nat), firstAt d ds k = some j → ∃ m z, j = k + m ∧ ds[m]? = some z ∧ PyData.eqv z d = true ∧ ∀ (i : Nat) (z' : D), i < m → ds[i]? = some z' → PyData.eqv z' d = false
  | [], _, _, h => by cases h
  | z :: ds, k, j, h => by
    unfold firstAt at h
    by_cases hz : PyData.eqv z d = true
    · rw [if_pos hz] at h
      cases h
      exact ⟨0, z, rfl, rfl, hz, fun i z' hi => by omega⟩
    · rw [if_neg hz] at h
      obtain ⟨m, z2, e1, e2, e3, e4⟩ := firstAt_is d ds (k + 1) j h
      refine ⟨m + 1, z2, by omega, e2, e3, fun i z' hi hz' => ?_⟩
      cases i with
      | zero => cases hz'; exact Bool.eq_false_iff.mpr hz
      | succ i => exact e4 i z' (by omega) hz'
section
variable [Mem]
/-- a list's method of one argument -/
def LmG (K : PySem.W.Frag) (r : V → List V → Hp → VK → Prop) (g : D → D → Option D) : Prop := ∀ F H v w a b d Q, Wf F H → Dp K F v a → Dp K F w b → g a b = some d → (∀ u F' H', Grow F H F' H' → Dp K F' u d → Q u H') → r v [w] H Q
def isL : D → Bool
  | .list _ => true
  | _ => false
theorem lm_count {K : PySem.W.Frag} : LmG K (rCountD K) countD := by
  intro F H v w a b d Q s hv hw e k
  cases a with
  | list ds =>
    simp only [countD] at e
    split at e <;> cases e
    rename_i h
    have hv' := dp_mono s.s _ _ hv
    cases hv' with
    | lst hs ha => exact ⟨_, w, b, ds, rfl, rfl, .lst hs ha, dp_mono s.s _ _ hw, h.1, h.2, k _ F H (.refl s) (.int _)⟩
  | _ => cases e
theorem lm_index {K : PySem.W.Frag} : LmG K (rIndexD K) indexD := by
  intro F H v w a b d Q s hv hw e k
  cases a with
  | list ds =>
    simp only [indexD] at e
    split at e
    · rename_i h
      cases ef : firstAt b ds 0 with
      | none => rw [ef] at e; cases e
      | some j =>
        rw [ef] at e
        cases e
        obtain ⟨m, z, e1, e2, e3, e4⟩ := firstAt_is b ds 0 j ef
        have e1 : j = m := by omega
        subst e1
        have hv' := dp_mono s.s _ _ hv
        cases hv' with
        | lst hs ha => exact ⟨_, w, b, ds, j, z, rfl, rfl, .lst hs ha, dp_mono s.s _ _ hw, h.1, h.2, e2, e3, e4, k _ F H (.refl s) (.int _)⟩
    · cases e
  | _ => cases e
def lmE (g : D → D → Option D) (fo fe : EF) : EF := bE fo fun a => if isL a = true then bE fe fun b => oE (g a b) else fun _ => .bad
section
variable {X : Cx} {Er : ErT} {o e : Expr} {to te : TE} {fo fe : EF} {name : Str} {id : String} {r : V → List V → Hp → VK → Prop} {g : D → D → Option D} {apos cpos : Pos}
theorem de_lm (slot : Slot "list" name id) (hty : typeOf (.builtin id) = pure (.type "method_descriptor")) (hm : MtR X id r) (hg : LmG X.K r g) (ho : DE X Er o to fo) (he : DE X Er e te fe)
    (hbase : attributeBase o name X.env (eval o X.env) = eval o X.env := by rfl)
    (hfew : ((backTo cpos (starEach [e] X.env)).all (fun x => !x.1) && (backToKw cpos (keywordEach [] X.env)).all (fun x => x.1.isSome) && decide ([e].length + ([] : List Keyword).length + (if ([] : List Keyword).isEmpty then 0 else 1) < 30)) = true := by rfl)
    (hline : (apos.endLine == cpos.line) = true := by rfl) (hs : starEach [e] X.env = (false, eval e X.env) :: starEach [] X.env := by rfl) (hplain : (backTo cpos (starEach [] X.env)).any (·.1) = false := by rfl) :
    DE X Er (.Call (.Attribute o name apos) [e] [] cpos) (tBM X.K "list" r to (tCons te tNil)) (lmE g fo fe) := by
  refine ⟨pe_bm PySem.F.plainAttrs_list slot hty hm ho.pe (pa_cons he.pe pa_nil hs) hbase hfew hline hs hplain, fun F H σ ρ Q s st p => ?_⟩
  refine ho.rd F H σ ρ _ s st (Post.imp (Post.bind p) fun F1 H1 a g1 p1 v dv => ?_)
  by_cases hl : isL a = true
  · simp only [if_pos hl] at p1
    refine ⟨?_, he.rd F1 H1 σ ρ _ g1.fh (st.mono g1.ff) (Post.imp (Post.bind p1) fun F2 H2 b g2 p2 w dw => ?_)⟩
    · have hv := dp_mono g1.fh.s _ _ dv
      cases hv with
      | lst hs _ => exact .inl ⟨rfl, _, hs⟩
      | _ => cases hl
    · cases eg : g a b with
      | none =>
        simp only [oE, eg] at p2
        exact p2.elim
      | some d =>
        simp only [oE, eg] at p2
        exact hg F2 H2 v w a b d Q g2.fh (dp_mono g2.ff _ _ dv) dw eg fun u F' H' g' du => p2 F' H' g' u du
  · simp only [if_neg hl] at p1
    exact p1.elim
end
/-! ### a kept exception: is None, isinstance -/
/-- what a class of the program's own is to an isinstance -/
structure CqI (K : PySem.W.Frag) (mg : Str → Option Value) (x : Str) where
  C : Addr
  n : PySem.W.nsIn K mainGlobals x = some (some (.ref C))
  g : mg x = some (.ref C)
  i : PySem.W.isClsIn K C = true
  t : PySem.W.typeIn K (.ref C) = some (.type "type")
  s : PySem.W.subIn K (.ref C) (.ref C) = some true
/-- a class whose exceptions are kept -/
structure XcI (K : PySem.W.Frag) (mg : Str → Option Value) (x : Str) extends CqI K mg x where
  e : ExcC K C
theorem kit_two {K : PySem.W.Frag} {mg : Str → Option Value} {x y : Str} {b : Bool} (T : XcI K mg x) (U : CqI K mg y) (h : PySem.W.subIn K (.ref T.C) (.ref U.C) = some b) : PySem.W.kitOne K (.ref T.C) (.ref U.C) = some b := by
  unfold PySem.W.kitOne
  by_cases hz : ((Value.ref T.C == Value.ref U.C) = true)
  · rw [if_pos hz]
    have e : T.C = U.C := Value.ref.inj (beq_iff_eq.mp hz)
    rw [← e, T.s] at h
    exact h
  · rw [if_neg hz]
    unfold PySem.W.kitCls
    have h1 : ((PySem.W.clsIn K U.C).isSome && PySem.W.typeIn K (.ref U.C) == some (.type "type")) = true := by
      rw [U.t]
      have := U.i
      unfold PySem.W.isClsIn at this
      rw [this]
      rfl
    simp only
    rw [if_pos h1]
    exact h
theorem kit_val {K : PySem.W.Frag} {mg : Str → Option Value} {x : Str} (T : XcI K mg x) (h : PySem.W.subIn K (.ref T.C) (.type "ValueError") = some true) : PySem.W.kitOne K (.ref T.C) (.type "ValueError") = some true := by
  unfold PySem.W.kitOne
  rw [if_neg (show ¬ ((Value.ref T.C == Value.type "ValueError") = true) from by simp)]
  unfold PySem.W.kitCls
  simp only
  rw [if_pos (show PySem.W.kitMeta "ValueError" = true by decide +kernel)]
  exact h
/-- isinstance(e, c), e a kept exception -/
def rIsX (K : PySem.W.Frag) : List V → Hp → VK → Prop := fun xs H Q => ∃ (a D : Addr) (c : V) (cv : Value) (b : Bool), xs = [.ref a, c] ∧ (∀ u, RelV c u → u = cv) ∧ H a = some (CxO (.ref D) a) ∧ ExcC K D ∧ PySem.W.kitOne K (.ref D) cv = some b ∧ Q (.bl b) H
theorem call_isX {X : Cx} : CallR X (.builtin "isinstance") (rIsX X.K) := by
  intro pins s σ H xs us Q I r h
  obtain ⟨a, D, c, cv, b, rfl, hcv, ha, C, e, q⟩ := h
  cases r with
  | cons rx rr =>
    cases rr with
    | cons rt rr =>
      cases rr
      cases rx
      have ec := hcv _ rt
      subst ec
      obtain ⟨⟨oe, vs, hget, hz, hv⟩, _⟩ := I.hok a _ ha
      have J : PySem.W.InstAt s.heap a oe D none := by
        obtain ⟨oc, od, oda, osl⟩ := oe
        obtain ⟨h1, h2⟩ := hz
        dsimp only at h1 h2 hv
        subst h1 h2 hv
        exact ⟨hget, rfl, rfl, trivial⟩
      exact PySem.W.kia_one (PySem.W.handS_kitx_exc C.hg C.hk C.hs C.hd C.ha C.hn C.ht C.hm) I.kIn J e (fun z => nomatch z) fun tk => ⟨.bl b, H, I.kept (t' := tk) fun _ _ z => z, rfl, q⟩
/-- the class of a kept exception -/
def excOf : D → Option Str
  | .dict [(.str t, .str c)] => if t = "exc" then some c else none
  | _ => none
theorem excOf_is {d : D} {c : Str} (h : excOf d = some c) : d = excD c := by
  unfold excOf at h
  split at h
  · rename_i t c'
    by_cases ht : t = "exc"
    · rw [if_pos ht] at h
      cases h
      rw [ht]
      rfl
    · rw [if_neg ht] at h
      cases h
  · cases h
theorem dq_exc {K : PySem.W.Frag} {F : Hp} {v : V} {c : Str} (h : DQ K F v (excD c)) : ExQ K F v c := by
  rcases h with h | ⟨a, kvs, e1, e2, e3⟩ | ⟨c', e, x⟩ | h | h | h
  · cases h
  · cases kvs <;> simp [IntDic, excD] at e2
  · simp [excD] at e
    rw [e]
    exact x
  · obtain ⟨_, _, _, _, _, e, _⟩ := h
    unfold excD objD at e
    injection e with e
    injection e with e _
    have e1 : (PyData.str "exc" : D) = .str "obj" := congrArg Prod.fst e
    injection e1 with e1
    exact absurd e1 (by decide +kernel)
  · obtain ⟨_, _, _, _, e1, _⟩ := h
    exact absurd e1 (ord_ne (by decide +kernel))
  · obtain ⟨_, _, _, _, e1, _⟩ := h
    exact absurd e1 (tup_ne (by decide +kernel))
def exIsE (tbl : List (Str × Bool)) (f : EF) : EF := bE f fun d => oE ((excOf d).bind fun c => (tbl.lookup c).map .bool)
/-- the facts of a table: what isinstance of each class answers -/
def TblOk (K : PySem.W.Frag) (cv : Value) (tbl : List (Str × Bool)) : Prop := ∀ c b, tbl.lookup c = some b → ∃ D, PySem.W.nsIn K mainGlobals c = some (some (.ref D)) ∧ ExcC K D ∧ PySem.W.kitOne K (.ref D) cv = some b
theorem tbl_nil {K : PySem.W.Frag} {cv : Value} : TblOk K cv [] := fun _ _ h => by cases h
theorem tbl_cons {K : PySem.W.Frag} {mg : Str → Option Value} {cv : Value} {c : Str} {b : Bool} {tbl : List (Str × Bool)} (T : XcI K mg c) (h : PySem.W.kitOne K (.ref T.C) cv = some b) (r : TblOk K cv tbl) : TblOk K cv ((c, b) :: tbl) := fun c' b' e => by
  rw [List.lookup_cons] at e
  by_cases hc : (c' == c) = true
  · rw [hc] at e
    cases e
    have := beq_iff_eq.mp hc
    subst this
    exact ⟨T.C, T.n, T.e, h⟩
  · rw [Bool.not_eq_true] at hc
    rw [hc] at e
    exact r c' b' e
section
variable {X : Cx} {Er : ErT} {x : Str} {e : Expr} {te : TE} {f : EF} {tbl : List (Str × Bool)} {p p2 pos : Pos}
theorem dr_isX {K : PySem.W.Frag} {c : V} {cv : Value} (hT : TblOk K cv tbl) (hcv : ∀ u, RelV c u → u = cv) (h : DRe K Er te f) : DRd K Er (tCB (rIsX K) (tCons te (tCons (tC c) tNil))) (exIsE tbl f) := by
  intro F H σ ρ Q s st p
  refine h F H σ ρ _ s st (Post.imp (Post.bind p) fun F1 H1 d g1 p1 v dv => ?_)
  cases e1 : excOf d with
  | none => simp only [oE, e1, Option.bind_none] at p1; exact p1.elim
  | some cn =>
    simp only [oE, e1, Option.bind_some] at p1
    cases e2 : tbl.lookup cn with
    | none => simp only [e2, Option.map_none] at p1; exact p1.elim
    | some b =>
      simp only [e2, Option.map_some] at p1
      have ed := excOf_is e1
      subst ed
      obtain ⟨a, C, e3, e4, e5⟩ := dq_exc dv
      obtain ⟨D, q1, q2, q3⟩ := hT cn b e2
      rw [e4] at q1
      cases q1
      exact ⟨a, C, c, cv, b, by rw [e3], hcv, g1.fh.s _ _ e5, q2, q3, Post.now p1 g1.fh _ (.bl b)⟩
theorem de_isX (U : CqI X.K X.mg x) (hT : TblOk X.K (.ref U.C) tbl) (hg : Gl X "isinstance") (hm : X.mg "isinstance" = none) (hg2 : Gl X x) (h : DEq X Er e te f) (hd2 : (x == ("__debug__" : Str)) = false := by decide)
    (hs1 : starEach [e, .Name x p2] X.env = (false, eval e X.env) :: starEach [.Name x p2] X.env := by rfl) (hpl : (backTo pos (starEach [.Name x p2] X.env)).any (·.1) = false := by rfl) :
    DE X Er (.Call (.Name "isinstance" p) [e, .Name x p2] [] pos) (tCB (rIsX X.K) (tCons te (tCons (tC (.ref U.C)) tNil))) (exIsE tbl f) :=
  ⟨pe_callB call_isX hg hm (by decide +kernel) (pa_cons h.pe (pa_cons (pe_glob (v := .ref U.C) hg2 U.g rfl hd2) pa_nil) hs1) (by decide) (by decide) hs1 hpl, dr_isX hT (fun u r => r) h.rd⟩
theorem de_isV (hT : TblOk X.K (.type "ValueError") tbl) (hg : Gl X "isinstance") (hm : X.mg "isinstance" = none) (hg2 : Gl X "ValueError") (hm2 : X.mg "ValueError" = none) (h : DEq X Er e te f)
    (hs1 : starEach [e, .Name "ValueError" p2] X.env = (false, eval e X.env) :: starEach [.Name "ValueError" p2] X.env := by rfl) (hpl : (backTo pos (starEach [.Name "ValueError" p2] X.env)).any (·.1) = false := by rfl) :
    DE X Er (.Call (.Name "isinstance" p) [e, .Name "ValueError" p2] [] pos) (tCB (rIsX X.K) (tCons te (tCons (tC (.ty "ValueError")) tNil))) (exIsE tbl f) :=
  ⟨pe_callB call_isX hg hm (by decide +kernel) (pa_cons h.pe (pa_cons (pe_bltn (v := .ty "ValueError") hg2 hm2 (by decide +kernel) rfl (by decide) (by decide)) pa_nil) hs1) (by decide) (by decide) hs1 hpl, dr_isX hT (fun u r => r) h.rd⟩
def isNQ (d : D) : Option Bool := match excOf d with
  | some _ => some false
  | none => match okD d with
    | .ok .none => some true
    | .ok _ => some false
    | _ => none
/-- x is None, x perhaps a kept exception -/
def isNT (f : EF) : TF := bE f fun d => fun _ => R.of (isNQ d)
theorem dt_isN (h : DEq X Er e te f) {j : Nat} {pn : Pos} : DT X Er (.Compare e [.Is] [.Constant .none j pn] pos) (tTest (tOp rIsA te (tC .non))) (isNT f) := by
  refine ⟨pt_cmpR op_isA h.pe pe_non (by rfl), fun F H σ ρ Q s st p => ?_⟩
  refine h.rd F H σ ρ _ s st (Post.imp (Post.bind p) fun F1 H1 d g1 p1 v dv => ?_)
  unfold isNQ at p1
  cases e1 : excOf d with
  | some c =>
    simp only [e1] at p1
    have ed := excOf_is e1
    subst ed
    obtain ⟨a, C, e3, _⟩ := dq_exc dv
    subst e3
    exact .inl ⟨rfl, false, rfl, Post.now p1 g1.fh⟩
  | none =>
    simp only [e1] at p1
    cases ek : okD d with
    | err c => simp only [ek] at p1; exact p1.elim
    | bad => simp only [ek] at p1; exact p1.elim
    | ok d' =>
      obtain ⟨dp, rfl⟩ := dq_dp dv ek
      simp only [ek] at p1
      cases dp <;> exact .inl ⟨rfl, _, rfl, Post.now p1 g1.fh⟩
end
end
end DL

/-! DX4: short forms of DX2 and DX3, used by gen.py. -/
namespace DL
open PySem PySem.Spec L2
open PyProof.Rows hiding St
/-- a class that an except clause names -/
structure CbI (K : PySem.W.Frag) (mg : Str → Option Value) (x : Str) extends CqI K mg x where
  b : PySem.W.subIn K (.ref C) (.type "BaseException") = some true
  d : PySem.W.hasDictIn K C = true
section
variable [M : Mem]
theorem CbI.names {X : Cx} {K : PySem.W.Frag} {mg : Str → Option Value} {x : Str} (T : CbI K mg x) (hg : Gl X x) (hd : (x == ("__debug__" : Str)) = false := by decide) (hG : X.mg = mg := by rfl) : Names X x (.ref T.C) := ⟨hg, hd, .inl (by rw [hG]; exact T.g)⟩
theorem cau_nil {X : Cx} {cB : Value} : ∀ c ∈ ([] : List Str), Caught X cB c := fun _ h => nomatch h
theorem cau_cons {X : Cx} {K : PySem.W.Frag} {mg : Str → Option Value} {x c : Str} {cs : List Str} (T : CbI K mg x) (U : XcI K mg c) (s : PySem.W.subIn K (.ref U.C) (.ref T.C) = some true) (r : ∀ c ∈ cs, Caught X (.ref T.C) c) (hK : X.K = K := by rfl) (hG : X.mg = mg := by rfl) : ∀ y ∈ c :: cs, Caught X (.ref T.C) y := fun y hy => by
  rcases List.mem_cons.mp hy with rfl | h
  · subst hK
    subst hG
    exact ⟨⟨U.C, U.g, U.n, PySem.W.exm_ref T.b T.d T.t s⟩⟩
  · exact r y h
section
variable {X : Cx} {Er : ErT}
theorem kdk (K : PySem.W.Frag) (mg : Str → Option Value) {k n : Nat} {f : Addr} {fd : FuncData} {ps : List Str} {g : List D → R D} {x : Str} {p pos : Pos} {e : Expr} {es : List Expr} {ta : TA} {fa : AF}
    (F : FnOk X.prog X.w K mg X.base (L2.CX X.prog X.w) k f fd ps (spD K mg n g)) (hr : Room k X.A) (hg : Gl X x) (hm : mg x = some (.ref f)) (hk : PySem.W.keepIn K (.ref f) = true) (hb : Binds K fd ps [])
    (ha : ∀ pn xe, DAq (X.tr pn xe) (fun _ _ => False) (e :: es) ta fa) (hn : ∀ ρ ds, fa ρ = .ok ds → ds.length = n)
    (hd : (x == ("__debug__" : Str)) = false := by decide) (hs : starEach (e :: es) X.env = (false, eval e X.env) :: starEach es X.env := by rfl) (hpl : (backTo pos (starEach es X.env)).any (·.1) = false := by rfl) (hK : X.K = K := by rfl) (hG : X.mg = mg := by rfl) :
    DK X (.Call (.Name x p) (e :: es) [] pos) (fun W => tCallS (spD K mg n g) (WE W) ta) (ownK g fa) := by subst hK; subst hG; exact dk_own F hr hg hm hk hb ha hn hd hs hpl
theorem kisX (K : PySem.W.Frag) (mg : Str → Option Value) {x : Str} {e : Expr} {te : TE} {f : EF} {tbl : List (Str × Bool)} {p p2 pos : Pos} (U : CqI K mg x) (hT : TblOk K (.ref U.C) tbl) (hg : Gl X "isinstance") (hm : mg "isinstance" = none) (hg2 : Gl X x) (h : DEq X Er e te f) (hd2 : (x == ("__debug__" : Str)) = false := by decide)
    (hs1 : starEach [e, .Name x p2] X.env = (false, eval e X.env) :: starEach [.Name x p2] X.env := by rfl) (hpl : (backTo pos (starEach [.Name x p2] X.env)).any (·.1) = false := by rfl) (hK : X.K = K := by rfl) (hG : X.mg = mg := by rfl) :
    DE X Er (.Call (.Name "isinstance" p) [e, .Name x p2] [] pos) (tCB (rIsX K) (tCons te (tCons (tC (.ref U.C)) tNil))) (exIsE tbl f) := by subst hK; subst hG; exact de_isX U hT hg hm hg2 h hd2 hs1 hpl
theorem kisV (K : PySem.W.Frag) (mg : Str → Option Value) {e : Expr} {te : TE} {f : EF} {tbl : List (Str × Bool)} {p p2 pos : Pos} (hT : TblOk K (.type "ValueError") tbl) (hg : Gl X "isinstance") (hm : mg "isinstance" = none) (hg2 : Gl X "ValueError") (hm2 : mg "ValueError" = none) (h : DEq X Er e te f)
    (hs1 : starEach [e, .Name "ValueError" p2] X.env = (false, eval e X.env) :: starEach [.Name "ValueError" p2] X.env := by rfl) (hpl : (backTo pos (starEach [.Name "ValueError" p2] X.env)).any (·.1) = false := by rfl) (hK : X.K = K := by rfl) (hG : X.mg = mg := by rfl) :
    DE X Er (.Call (.Name "isinstance" p) [e, .Name "ValueError" p2] [] pos) (tCB (rIsX K) (tCons te (tCons (tC (.ty "ValueError")) tNil))) (exIsE tbl f) := by subst hK; subst hG; exact de_isV hT hg hm hg2 hm2 h hs1 hpl
theorem kcount (K : PySem.W.Frag) {o e : Expr} {to te : TE} {fo fe : EF} {apos cpos : Pos} (hu : X.A.units + 65 < cLine) (ho : DE X Er o to fo) (he : DE X Er e te fe) (hbase : attributeBase o "count" X.env (eval o X.env) = eval o X.env := by rfl)
    (hfew : ((backTo cpos (starEach [e] X.env)).all (fun x => !x.1) && (backToKw cpos (keywordEach [] X.env)).all (fun x => x.1.isSome) && decide ([e].length + ([] : List Keyword).length + (if ([] : List Keyword).isEmpty then 0 else 1) < 30)) = true := by rfl)
    (hline : (apos.endLine == cpos.line) = true := by rfl) (hs : starEach [e] X.env = (false, eval e X.env) :: starEach [] X.env := by rfl) (hplain : (backTo cpos (starEach [] X.env)).any (·.1) = false := by rfl) (hK : X.K = K := by rfl) :
    DE X Er (.Call (.Attribute o "count" apos) [e] [] cpos) (tBM K "list" (rCountD K) to (tCons te tNil)) (lmE countD fo fe) := by subst hK; exact de_lm PySem.F.slot_list_count PySem.F.type_list_count (mt_countD hu) lm_count ho he hbase hfew hline hs hplain
theorem kindex (K : PySem.W.Frag) {o e : Expr} {to te : TE} {fo fe : EF} {apos cpos : Pos} (hu : X.A.units + 65 < cLine) (ho : DE X Er o to fo) (he : DE X Er e te fe) (hbase : attributeBase o "index" X.env (eval o X.env) = eval o X.env := by rfl)
    (hfew : ((backTo cpos (starEach [e] X.env)).all (fun x => !x.1) && (backToKw cpos (keywordEach [] X.env)).all (fun x => x.1.isSome) && decide ([e].length + ([] : List Keyword).length + (if ([] : List Keyword).isEmpty then 0 else 1) < 30)) = true := by rfl)
    (hline : (apos.endLine == cpos.line) = true := by rfl) (hs : starEach [e] X.env = (false, eval e X.env) :: starEach [] X.env := by rfl) (hplain : (backTo cpos (starEach [] X.env)).any (·.1) = false := by rfl) (hK : X.K = K := by rfl) :
    DE X Er (.Call (.Attribute o "index" apos) [e] [] cpos) (tBM K "list" (rIndexD K) to (tCons te tNil)) (lmE indexD fo fe) := by subst hK; exact de_lm PySem.F.slot_list_index PySem.F.type_list_index (mt_indexD hu) lm_index ho he hbase hfew hline hs hplain
end
end
end DL

set_option maxHeartbeats 1000000
/-! DX5: a list of lists of whole numbers and None, owned by a slot. -/
namespace DL
open PySem PySem.Spec L2
open PyProof.Rows hiding St
variable [Mem]
section
variable {K : PySem.W.Frag} {fr : Fr} {w : List Sh} {F H F' H' : Hp} {σ : St} {ρ : Env} {Φ : Own}
theorem StR.grow {os : Nat → Hp} (s : StR K fr w F H σ ρ os) (g : Grow F H F' H') : StR K fr w F' H' σ ρ os := by
  refine ⟨g.fh, sameM_trans s.gh g.hh, same_trans s.f0 g.ff, fun a h1 h2 => s.nw a (g.nw a h1 (sameM_ne s.gh s.fh h2)) h2, fun i a o e => g.hh a o (s.om i a (by rw [e]; simp)) (s.oh i a o e), fun i a h1 => ?_, fun i d e => ?_, s.len, s.om⟩
  · obtain ⟨q1, q2, q3⟩ := s.ow i a h1
    refine ⟨?_, q2, q3⟩
    cases e : F' a with
    | none => rfl
    | some o => exact absurd q1 (g.nw a (by rw [e]; simp) (same_ne (s.oh i) h1))
  · obtain ⟨v, e1, h1⟩ := s.sl i d e
    exact ⟨v, e1, h1.mono g.ff⟩
/-- a slot takes what it owns: cells that are new -/
theorem SR.set_ob {i : Nat} {v : V} {d : D} {o : Hp} (h : SR K fr w F H σ ρ) (g : Grow F H F' H') (hn : ∀ a, o a ≠ none → H a = none ∧ F' a = none) (ho : Same o H') (hr : Φ.rep K v F' o d) (hi : i < w.length) :
    SR K fr (w.set i (.ob Φ)) F' H' (σ.set i (some v)) (ρ.set i (some d)) := by
  obtain ⟨os, s⟩ := h
  have s1 := s.grow g
  have off : ∀ {j : Nat} {a : Addr}, o a ≠ none → os j a = none := fun {j a} h1 => none_of_same (s.oh j) (hn a h1).1
  refine ⟨fun j => if j = i then o else os j, s1.fh, s1.gh, s1.f0, s1.nw, fun j => ?_, fun j a h1 => ?_, fun j e q => ?_, by simpa using s.len, fun j a h1 => ?_⟩
  · by_cases hj : j = i
    · rw [if_pos hj]; exact ho
    · rw [if_neg hj]; exact s1.oh j
  · by_cases hj : j = i
    · rw [if_pos hj] at h1
      refine ⟨(hn a h1).2, none_of_sameM s.gh s.fh (hn a h1).1, fun k hk => ?_⟩
      rw [if_neg (fun z => hk (z.trans hj.symm))]
      exact off h1
    · rw [if_neg hj] at h1
      obtain ⟨q1, q2, q3⟩ := s1.ow j a h1
      refine ⟨q1, q2, fun k hk => ?_⟩
      by_cases hki : k = i
      · rw [if_pos hki]
        cases e : o a with
        | none => rfl
        | some u => exact absurd (off (j := j) (by rw [e]; simp)) h1
      · rw [if_neg hki]; exact q3 k hk
  · rcases env_set q with ⟨rfl, rfl, hv⟩ | ⟨ne, q⟩
    · refine ⟨v, by rw [List.getElem?_set_self (by rw [← s.len]; exact hv)], ?_⟩
      rw [sh_set_self hi, if_pos rfl]
      exact hr
    · rw [List.getElem?_set_ne ne, sh_set_ne ne, if_neg (Ne.symm ne)]
      exact s1.sl j e q
  · by_cases hj : j = i
    · rw [if_pos hj] at h1
      exact s.fh.no (hn a h1).1
    · rw [if_neg hj] at h1
      exact s.om j a h1
/-- F, and what o holds -/
def joinH (F o : Hp) : Hp := fun a => match o a with
  | some u => some u
  | none => F a
theorem joinH_some {F o : Hp} {a : Addr} {u : HO} (h : o a = some u) : joinH F o a = some u := by
  unfold joinH
  rw [h]
theorem joinH_none {F o : Hp} {a : Addr} (h : o a = none) : joinH F o a = F a := by
  unfold joinH
  rw [h]
/-- what a slot owns: read, changed, frozen -/
theorem StR.ob {i : Nat} {d : D} {os : Nat → Hp} (s : StR K fr w F H σ ρ os) (hw : sh w i = .ob Φ) (e : ρ[i]? = some (some d)) : ∃ v, σ[i]? = some (some v) ∧ Φ.rep K v F (os i) d ∧ Same (os i) H ∧
    (∀ q u d', os i q ≠ none → Φ.rep K v F (upd (os i) q u) d' → SR K fr w F (upd H q u) σ (ρ.set i (some d'))) ∧ (DQ K (joinH F (os i)) v d → SR K fr (w.set i .fz) (joinH F (os i)) H σ ρ ∧ Same F (joinH F (os i))) := by
  obtain ⟨v, e1, hh⟩ := s.sl i d e
  rw [hw] at hh
  have hil : i < ρ.length := (List.getElem?_eq_some_iff.mp e).1
  refine ⟨v, e1, hh, s.oh i, fun q u d' hq hr => ?_, fun hd => ?_⟩
  · obtain ⟨nF, nG, no⟩ := s.ow i q hq
    have nM : ¬ Mem.is q := s.om i q hq
    have nMb : ∀ b, Mem.is b → b ≠ q := fun b z h => nM (h ▸ z)
    have up : ∀ {A : Hp}, Same A H → A q = none → Same A (upd H q u) := fun {A} sa n b o z => by
      rw [upd_ne (ne_of_none z n)]
      exact sa b o z
    have dom : ∀ a, upd (os i) q u a ≠ none → os i a ≠ none := fun a h1 => by
      by_cases ha : a = q
      · rw [ha]; exact hq
      · rw [upd_ne ha] at h1; exact h1
    refine ⟨fun j => if j = i then upd (os i) q u else os j, ⟨up s.fh.s nF, fun b z => by
      obtain ⟨e1, u', e2, e3⟩ := s.fh.m b z
      exact ⟨e1, u', by rw [upd_ne (nMb b z)]; exact e2, e3⟩⟩, fun b o nb z => by rw [upd_ne (ne_of_none z nG)]; exact s.gh b o nb z, s.f0, s.nw, fun j => ?_, fun j b h1 => ?_, fun j e' q' => ?_, by simpa using s.len, fun j b h1 => ?_⟩
    · by_cases hj : j = i
      · rw [if_pos hj]
        intro b o z
        by_cases hb : b = q
        · subst hb; rw [upd_same] at z ⊢; exact z
        · rw [upd_ne hb] at z ⊢; exact s.oh i b o z
      · rw [if_neg hj]; exact up (s.oh j) (no j hj)
    · by_cases hj : j = i
      · rw [if_pos hj] at h1
        obtain ⟨q1, q2, q3⟩ := s.ow i b (dom b h1)
        exact ⟨q1, q2, fun k hk => by rw [if_neg (fun z => hk (z.trans hj.symm))]; exact q3 k (fun z => hk (z.trans hj.symm))⟩
      · rw [if_neg hj] at h1
        obtain ⟨q1, q2, q3⟩ := s.ow j b h1
        refine ⟨q1, q2, fun k hk => ?_⟩
        by_cases hki : k = i
        · rw [if_pos hki]
          cases z : upd (os i) q u b with
          | none => rfl
          | some o =>
            have := q3 i (fun z => hj z.symm)
            exact absurd this (dom b (by rw [z]; simp))
        · rw [if_neg hki]; exact q3 k hk
    · rcases env_set q' with ⟨rfl, rfl, hv⟩ | ⟨ne, q'⟩
      · refine ⟨v, e1, ?_⟩
        rw [hw, if_pos rfl]
        exact hr
      · rw [if_neg (Ne.symm ne)]
        exact s.sl j e' q'
    · by_cases hj : j = i
      · rw [if_pos hj] at h1
        exact s.om i b (dom b h1)
      · rw [if_neg hj] at h1
        exact s.om j b h1
  · have sF : Same F (joinH F (os i)) := fun a o z => by
      cases e2 : os i a with
      | none => rw [joinH_none e2]; exact z
      | some u =>
        have := (s.ow i a (by rw [e2]; simp)).1
        rw [this] at z
        cases z
    refine ⟨⟨fun j => if j = i then emp else os j, ⟨fun b o z => ?_, fun b z => ?_⟩, s.gh, same_trans s.f0 sF, fun b h1 h2 => ?_, fun j => ?_, fun j b h1 => ?_, fun j e' q => ?_, s.len, fun j b h1 => ?_⟩, sF⟩
    · cases e2 : os i b with
      | none => rw [joinH_none e2] at z; exact s.fh.s b o z
      | some u => rw [joinH_some e2] at z; rw [← z]; exact s.oh i b u e2
    · obtain ⟨e3, u, e4, e5⟩ := s.fh.m b z
      refine ⟨?_, u, e4, Mem.mono e5 sF⟩
      cases e2 : os i b with
      | none => rw [joinH_none e2]; exact e3
      | some u' => exact absurd z (s.om i b (by rw [e2]; simp))
    · cases e2 : os i b with
      | none => rw [joinH_none e2] at h1; exact s.nw b h1 h2
      | some u' => exact absurd (s.ow i b (by rw [e2]; simp)).2.1 h2
    · by_cases hj : j = i
      · rw [if_pos hj]; intro b o z; cases z
      · rw [if_neg hj]; exact s.oh j
    · by_cases hj : j = i
      · rw [if_pos hj] at h1; exact absurd rfl h1
      · rw [if_neg hj] at h1
        obtain ⟨q1, q2, q3⟩ := s.ow j b h1
        refine ⟨?_, q2, fun k hk => ?_⟩
        · rw [joinH_none (q3 i fun z => hj z.symm)]; exact q1
        · by_cases hki : k = i
          · rw [if_pos hki]; rfl
          · rw [if_neg hki]; exact q3 k hk
    · by_cases hj : i = j
      · subst hj
        rw [e] at q
        cases q
        exact ⟨v, e1, by rw [sh_set_fz]; exact hd⟩
      · obtain ⟨v', q1, q2⟩ := s.sl j e' q
        rw [sh_set_ne hj, if_neg (Ne.symm hj)]
        exact ⟨v', q1, q2.mono sF⟩
    · by_cases hj : j = i
      · rw [if_pos hj] at h1; exact absurd rfl h1
      · rw [if_neg hj] at h1; exact s.om j b h1
theorem SR.get_ob {i : Nat} {d : D} (h : SR K fr w F H σ ρ) (hw : sh w i = .ob Φ) (e : ρ[i]? = some (some d)) : ∃ v o, σ[i]? = some (some v) ∧ Φ.rep K v F o d ∧ Same o H ∧
    (∀ q u d', o q ≠ none → Φ.rep K v F (upd o q u) d' → SR K fr w F (upd H q u) σ (ρ.set i (some d'))) ∧ (DQ K (joinH F o) v d → SR K fr (w.set i .fz) (joinH F o) H σ ρ ∧ Same F (joinH F o)) := by
  obtain ⟨os, s⟩ := h
  obtain ⟨v, a⟩ := s.ob hw e
  exact ⟨v, os i, a⟩
end
end DL

set_option maxHeartbeats 1000000
/-! DX6: x = [new list for ..]; x[i][j] = e. -/
namespace DL
open PySem PySem.Spec L2
open PyProof.Rows hiding St
variable [Mem]
def vI : Option Int → V
  | none => .non
  | some i => .int i
def oI : Option Int → D
  | none => .none
  | some i => .int i
def isI : D → Option (Option Int)
  | .none => some none
  | .int i => some (some i)
  | _ => none
def rowI : List D → Option (List (Option Int))
  | [] => some []
  | d :: ds => (isI d).bind fun x => (rowI ds).map (x :: ·)
def llOf : List D → Option (List (List (Option Int)))
  | [] => some []
  | .list ds :: es => (rowI ds).bind fun x => (llOf es).map (x :: ·)
  | _ => none
abbrev lsD (xs : List (Option Int)) : D := .list (xs.map oI)
theorem isI_is {d : D} {x : Option Int} (h : isI d = some x) : d = oI x := by
  cases d <;> simp only [isI] at h <;> first | (cases h; rfl) | (cases h)
theorem rowI_is : ∀ {ds : List D} {xs : List (Option Int)}, rowI ds = some xs → ds = xs.map oI
  | [], xs, h => by cases h; rfl
  | d :: ds, xs, h => by
    simp only [rowI] at h
    cases e1 : isI d with
    | none => rw [e1] at h; cases h
    | some x =>
      rw [e1] at h
      simp only [Option.bind_some] at h
      cases e2 : rowI ds with
      | none => rw [e2] at h; cases h
      | some ys => rw [e2] at h; cases h; rw [isI_is e1, rowI_is e2]; rfl
theorem llOf_is : ∀ {es : List D} {xss : List (List (Option Int))}, llOf es = some xss → es = xss.map lsD
  | [], xss, h => by cases h; rfl
  | e :: es, xss, h => by
    cases e with
    | list ds =>
      simp only [llOf] at h
      cases e1 : rowI ds with
      | none => rw [e1] at h; cases h
      | some x =>
        rw [e1] at h
        simp only [Option.bind_some] at h
        cases e2 : llOf es with
        | none => rw [e2] at h; cases h
        | some ys => rw [e2] at h; cases h; rw [rowI_is e1, llOf_is e2]; rfl
    | _ => cases h
theorem dp_oI {K : PySem.W.Frag} {F : Hp} {v : V} : ∀ {x : Option Int}, Dp K F v (oI x) → v = vI x
  | none, h => by cases h; rfl
  | some i, h => by cases h; rfl
theorem oI_dp {K : PySem.W.Frag} {F : Hp} : ∀ x : Option Int, Dp K F (vI x) (oI x)
  | none => .non
  | some i => .int i
theorem dpAll_oI {K : PySem.W.Frag} {F : Hp} : ∀ {xs : List (Option Int)} {vs : List V}, DpAll K F vs (xs.map oI) → vs = xs.map vI
  | [], vs, h => by cases h; rfl
  | x :: xs, vs, h => by
    cases h with
    | cons h1 h2 => rw [dp_oI h1, dpAll_oI h2]; rfl
theorem oI_dpAll {K : PySem.W.Frag} {F : Hp} : ∀ xs : List (Option Int), DpAll K F (xs.map vI) (xs.map oI)
  | [] => .nil
  | x :: xs => .cons (oI_dp x) (oI_dpAll xs)
/-- the inner lists, new since H, outside F' -/
structure Inn (K : PySem.W.Frag) (H F' H' : Hp) (qs : List Addr) (es : List D) : Prop where
  len : qs.length = es.length
  nd : qs.Nodup
  at_ : ∀ (i : Nat) (q : Addr) (e : D), qs[i]? = some q → es[i]? = some e → ∃ vs ds, e = .list ds ∧ H q = none ∧ F' q = none ∧ H' q = some (.lst vs) ∧ DpAll K F' vs ds
theorem Inn.all {K : PySem.W.Frag} {H F' H' : Hp} {qs : List Addr} {es : List D} (h : Inn K H F' H' qs es) {q : Addr} (hq : q ∈ qs) : H q = none ∧ F' q = none ∧ ∃ vs, H' q = some (.lst vs) := by
  obtain ⟨i, hi⟩ := List.getElem?_of_mem hq
  obtain ⟨h1, _⟩ := List.getElem?_eq_some_iff.mp hi
  have h2 : i < es.length := by rw [← h.len]; exact h1
  obtain ⟨vs, ds, _, a, b, c, _⟩ := h.at_ i q es[i] hi (List.getElem?_eq_getElem h2)
  exact ⟨a, b, vs, c⟩
theorem Inn.grow {K : PySem.W.Frag} {F0 H F' H' F2 H2 : Hp} {qs : List Addr} {es : List D} (h : Inn K H F' H' qs es) (w : Wf F0 H) (g : Grow F' H' F2 H2) : Inn K H F2 H2 qs es where
  len := h.len
  nd := h.nd
  at_ := fun i q e h1 h2 => by
    obtain ⟨vs, ds, e1, a, b, c, dp⟩ := h.at_ i q e h1 h2
    refine ⟨vs, ds, e1, a, ?_, g.hh q _ (w.no a) c, dpAll_mono g.ff _ _ dp⟩
    cases z : F2 q with
    | none => rfl
    | some u => exact absurd b (g.nw q (by rw [z]; simp) (by rw [c]; simp))
theorem Inn.snoc {K : PySem.W.Frag} {H F' H' : Hp} {qs : List Addr} {es : List D} (h : Inn K H F' H' qs es) {q : Addr} {vs : List V} {ds : List D} (hq : H' q = none) (h0 : H q = none) (hF : F' q = none) (hd : DpAll K F' vs ds) : Inn K H F' (upd H' q (.lst vs)) (qs ++ [q]) (es ++ [.list ds]) where
  len := by simp [h.len]
  nd := by
    rw [List.nodup_append]
    refine ⟨h.nd, by simp, fun a ha b hb => ?_⟩
    rw [List.mem_singleton] at hb
    subst hb
    intro z
    subst z
    obtain ⟨_, _, vs', e⟩ := h.all ha
    rw [hq] at e
    cases e
  at_ := fun i p e h1 h2 => by
    rcases Nat.lt_or_ge i qs.length with z | z
    · rw [List.getElem?_append_left z] at h1
      rw [List.getElem?_append_left (by rw [← h.len]; exact z)] at h2
      obtain ⟨vs', ds', e1, a, b, c, dp⟩ := h.at_ i p e h1 h2
      exact ⟨vs', ds', e1, a, b, by rw [upd_ne (ne_of_none c hq)]; exact c, dp⟩
    · rw [List.getElem?_append_right z] at h1
      rw [List.getElem?_append_right (by rw [← h.len]; exact z), ← h.len] at h2
      cases hi : i - qs.length with
      | zero =>
        rw [hi] at h1 h2
        cases h1
        cases h2
        exact ⟨vs, ds, rfl, h0, hF, upd_same, hd⟩
      | succ j =>
        rw [hi] at h1
        cases h1
/-- a new list of new lists -/
def DRl (K : PySem.W.Frag) (Er : ErT) (te : TE) (f : AF) : Prop := ∀ F H σ ρ Q, Wf F H → EnvR K F σ ρ →
  Post F H Er (f ρ) (fun F' H' es => ∀ p qs, H' p = none → Inn K H F' H' qs es → Q (.ref p) (upd H' p (.lst (qs.map V.ref)))) → te σ H Q
theorem grow_none {F H F' H' : Hp} (w : Wf F H) (g : Grow F H F' H') {a : Addr} (h : H' a = none) : H a = none := by
  cases e : H a with
  | none => rfl
  | some u =>
    by_cases z : Mem.is a
    · obtain ⟨_, o, e2, _⟩ := g.fh.m a z
      rw [h] at e2
      cases e2
    · have := g.hh a u z e
      rw [h] at this
      cases this
theorem lst_noErr {β : Type} (fe : AF) (ρ : Env) (k : D → R β) : (lstE fe ρ).noErr.bind k = (fe ρ).noErr.bind fun xs => k (.list xs) := by
  unfold lstE bE cE
  cases fe ρ <;> rfl
theorem dr_lcl {Er : ErT} {te : TE} {K : PySem.W.Frag} {tt : TT} {wi : TI} {g : TG} {fi : AF} {tgf : TGF} {ft : TF} {fe : AF} {vs js : List Nat} (hi : DRi K Er wi fi)
    (hg : ∀ (F H : Hp) (v : V) (d : D) as σ (Q : St → Hp → Prop), Wf F H → Dp K F v d → tgf d = some as → (∀ us, DpAll K F us (as.map (·.2)) → as.map (·.1) = js → Q (setV σ js us) H) → g v σ H Q)
    (ht : DRt K ErF tt ft) (he : DRn K ErF te fe) (hjs : ∀ j ∈ js, j ∈ vs) :
    DRl K Er (tLc wi g tt te vs) (compE fi tgf ft (lstE fe) vs) := by
  intro F H σ ρ Q s st p
  refine hi F H σ ρ _ s st (Post.imp (Post.bind (Post.bind p)) fun F1 H1 ds g1 p1 J dit Dl hD => ?_)
  obtain ⟨hsz, p2⟩ := small_ok p1 g1.fh
  have h0 : ∀ {q : Addr}, H1 q = none → H q = none := fun {q} z => grow_none s g1 z
  refine ⟨fun i m Hc => m = ds.length - i ∧ i ≤ ds.length ∧ ∃ F' Hh qs accD, Grow F1 H1 F' Hh ∧ Hh Dl = none ∧ Hc = upd Hh Dl (.lst (qs.map V.ref)) ∧ Inn K H F' Hh qs accD ∧ accD.length ≤ i ∧
    Post F' Hh Er (compL tgf ft (lstE fe) (killE ρ vs) (ds.drop i)) (fun F'' H'' es => ∀ p us, H'' p = none → Inn K H F'' H'' us (accD ++ es) → Q (.ref p) (upd H'' p (.lst (us.map V.ref)))), ⟨ds.length, by simp, Nat.zero_le _, F1, H1, [], [], .refl g1.fh, hD, rfl, ⟨rfl, List.nodup_nil, fun i q e h1 => by cases h1⟩, Nat.le_refl _, by simpa using p2⟩, ?_⟩
  rintro i m Hc ⟨rfl, hle, F', Hh, qs, accD, gr, hDl, rfl, hacc, hal, pp⟩
  have sH : Wf F' (upd Hh Dl (.lst (qs.map V.ref))) := gr.fh.upd hDl
  have nD : ¬ Mem.is Dl := gr.fh.no hDl
  by_cases hlt : i < ds.length
  · refine .inr ⟨dit.go i F' _ gr.ff sH hlt, _, fun H' h => ⟨ds.length - (i + 1), by omega, h⟩, fun x H' y => ?_⟩
    obtain ⟨d, hd⟩ : ∃ d, ds[i]? = some d := ⟨ds[i], by simp [hlt]⟩
    have hdrop : ds.drop i = d :: ds.drop (i + 1) := by
      obtain ⟨h1, h2⟩ := List.getElem?_eq_some_iff.mp hd
      rw [← h2]
      exact List.drop_eq_getElem_cons hlt
    rw [hdrop] at pp
    obtain ⟨F2, gy, dx⟩ := dit.yld i F' _ x H' d gr.ff sH hd y
    have gy' := grow_hide gr.fh hDl gy
    have pp2 := Post.mono pp gy'
    unfold compL at pp2
    cases eas : tgf d with
    | none => rw [eas] at pp2; exact pp2.elim
    | some as =>
      rw [eas, R.of_some, R.bind_ok] at pp2
      have hH' : H' Dl = some (.lst (qs.map V.ref)) := gy.hh Dl _ nD upd_same
      have back : ∀ {A : Hp}, A Dl = some (.lst (qs.map V.ref)) → upd (remH A Dl) Dl (.lst (qs.map V.ref)) = A := fun {A} hA => by
        rw [upd_rem]
        funext a
        unfold upd
        by_cases ha : a = Dl
        · rw [if_pos ha, ha, hA]
        · rw [if_neg ha]
      refine hg F2 H' x d as (L2.wipe σ vs) _ gy.fh dx eas fun us hus hjs' => ?_
      refine ⟨by rw [wipe_setV js us _ hjs, wipe_wipe], ?_⟩
      have env2 : EnvR K F2 (setV (L2.wipe σ vs) js us) (setE (killE ρ vs) as) := by
        have e1 := EnvR.setMany (σ := L2.wipe σ vs) (ρ := killE ρ vs) ((((st.mono g1.ff).mono gr.ff).mono gy.ff).wipe vs) hus
        rw [hjs'] at e1
        exact e1
      have pt := Post.hide (o := .lst (qs.map V.ref)) (Er2 := ErF) pp2 gy'.fh remH_same
      rw [back hH'] at pt
      refine ht F2 H' _ _ _ gy.fh env2 (Post.imp pt fun F3 H3 b g3 p3 => ?_)
      have g3' : Grow F2 (remH H' Dl) F3 (remH H3 Dl) := grow_hide gy'.fh remH_same (by rw [back hH']; exact g3)
      have hH3 : H3 Dl = some (.lst (qs.map V.ref)) := g3.hh Dl _ nD hH'
      have hacc3 := (hacc.grow s gy').grow s g3'
      cases b with
      | false =>
        rw [if_neg (by decide)]
        rw [if_neg (by decide)] at p3
        exact ⟨rfl, hlt, F3, remH H3 Dl, qs, accD, (gr.trans gy').trans g3', remH_same, (back hH3).symm, hacc3, Nat.le_succ_of_le hal, p3⟩
      | true =>
        rw [if_pos rfl]
        rw [if_pos rfl] at p3
        rw [lst_noErr] at p3
        have pe := Post.hide (o := .lst (qs.map V.ref)) (Er2 := ErF) p3 g3'.fh remH_same
        rw [back hH3] at pe
        refine he F3 H3 _ _ _ g3.fh (env2.mono g3.ff) (Post.imp pe fun F4 H4 xs g4 p4 q us hq dus => ?_)
        have g4' : Grow F3 (remH H3 Dl) F4 (remH H4 Dl) := grow_hide g3'.fh remH_same (by rw [back hH3]; exact g4)
        have hH4 : H4 Dl = some (.lst (qs.map V.ref)) := g4.hh Dl _ nD hH3
        have nqD : q ≠ Dl := fun z => by rw [z, hH4] at hq; cases hq
        have hq4 : remH H4 Dl q = none := by rw [remH_ne nqD]; exact hq
        have gA := ((gr.trans gy').trans g3').trans g4'
        have hF4 : F4 q = none := none_of_same gA.fh.s hq4
        have gq : Grow F4 (remH H4 Dl) F4 (upd (remH H4 Dl) q (.lst us)) := ⟨same_refl _, sameM_of (same_upd hq4), gA.fh.upd hq4, fun a h1 _ => h1⟩
        have hq1 : H1 q = none := grow_none g1.fh gA hq4
        refine ⟨qs.map V.ref, by rw [upd_ne (Ne.symm nqD)]; exact hH4, sz_lt (by rw [List.length_map, hacc.len]; omega), rfl, hlt, F4, upd (remH H4 Dl) q (.lst us), qs ++ [q], accD ++ [.list xs], gA.trans gq, by rw [upd_ne (Ne.symm nqD)]; exact remH_same, ?_, (hacc3.grow s g4').snoc hq4 (h0 hq1) hF4 dus, by simp; omega, ?_⟩
        · funext a
          by_cases ha : a = Dl
          · rw [ha, upd_same, upd_same, List.map_append]
            rfl
          · rw [upd_ne ha, upd_ne ha]
            by_cases hb : a = q
            · rw [hb, upd_same, upd_same]
            · rw [upd_ne hb, upd_ne hb, remH_ne ha]
        · refine Post.imp (Post.mono (Post.bind p4) gq) fun F5 H5 es g5 p5 q2 us2 hq2 hd5 => ?_
          exact Post.now p5 g5.fh q2 us2 hq2 (by simpa using hd5)
  · have e : i = ds.length := by omega
    subst e
    refine .inl ⟨dit.stop F' _ gr.ff sH, ?_⟩
    rw [List.drop_length] at pp
    unfold compL at pp
    exact Post.now pp gr.fh Dl qs hDl (by simpa using hacc)
end DL

set_option maxHeartbeats 1000000
/-! DX7: statements on an owned list of lists. -/
namespace DL
open PySem PySem.Spec L2
open PyProof.Rows hiding St
variable [Mem]
abbrev llD (xss : List (List (Option Int))) : D := .list (xss.map lsD)
def chunk : List Addr → List (List (Option Int)) → Hp
  | q :: qs, xs :: xss => upd (chunk qs xss) q (.lst (xs.map vI))
  | _, _ => emp
def llO : Own := ⟨fun _ v _ o d => ∃ (p : Addr) (qs : List Addr) (xss : List (List (Option Int))), v = .ref p ∧ d = llD xss ∧ o = upd (chunk qs xss) p (.lst (qs.map V.ref)) ∧ (p :: qs).Nodup ∧ qs.length = xss.length, fun h _ => h⟩
theorem chunk_at : ∀ {qs : List Addr} {xss : List (List (Option Int))} {j : Nat} {q : Addr} {xs : List (Option Int)}, qs.Nodup → qs[j]? = some q → xss[j]? = some xs → chunk qs xss q = some (.lst (xs.map vI))
  | q :: qs, ys :: xss, 0, _, _, _, h1, h2 => by
    cases h1
    cases h2
    exact upd_same
  | p :: qs, ys :: xss, j + 1, q, xs, hn, h1, h2 => by
    have hn2 := List.nodup_cons.mp hn
    have h1' : qs[j]? = some q := by simpa using h1
    have ne : q ≠ p := fun z => hn2.1 (z ▸ List.mem_of_getElem? h1')
    show upd _ p _ q = _
    rw [upd_ne ne]
    exact chunk_at hn2.2 h1' (by simpa using h2)
  | [], _, j, _, _, _, h1, _ => by cases h1
  | _ :: _, [], j, _, _, _, _, h2 => by cases h2
theorem chunk_mem : ∀ {qs : List Addr} {xss : List (List (Option Int))} {q : Addr}, chunk qs xss q ≠ none → q ∈ qs
  | p :: qs, ys :: xss, q, h => by
    by_cases e : q = p
    · rw [e]; exact List.mem_cons_self
    · have h : upd (chunk qs xss) p (.lst (ys.map vI)) q ≠ none := h
      rw [upd_ne e] at h
      exact List.mem_cons_of_mem _ (chunk_mem h)
  | [], _, _, h => absurd rfl h
  | _ :: _, [], _, h => absurd rfl h
theorem upd_comm2 {H : Hp} {a b : Addr} {u v : HO} (h : a ≠ b) : upd (upd H a u) b v = upd (upd H b v) a u := by
  funext x
  unfold upd
  by_cases h1 : x = b
  · rw [if_pos h1]
    by_cases h2 : x = a
    · exact absurd (h2.symm.trans h1) h
    · rw [if_neg h2, if_pos h1]
  · rw [if_neg h1]
    by_cases h2 : x = a
    · rw [if_pos h2, if_pos h2]
    · rw [if_neg h2, if_neg h2, if_neg h1]
theorem upd_upd {H : Hp} {a : Addr} {u v : HO} : upd (upd H a u) a v = upd H a v := by
  funext x
  unfold upd
  by_cases h : x = a
  · rw [if_pos h, if_pos h]
  · rw [if_neg h, if_neg h, if_neg h]
theorem chunk_set : ∀ {qs : List Addr} {xss : List (List (Option Int))} {j : Nat} {q : Addr} (ys : List (Option Int)), qs.Nodup → qs[j]? = some q → j < xss.length → chunk qs (xss.set j ys) = upd (chunk qs xss) q (.lst (ys.map vI))
  | q :: qs, zs :: xss, 0, _, ys, _, h1, _ => by
    cases h1
    show upd (chunk qs xss) q _ = upd (upd (chunk qs xss) q _) q _
    rw [upd_upd]
  | p :: qs, zs :: xss, j + 1, q, ys, hn, h1, h2 => by
    have hn2 := List.nodup_cons.mp hn
    have h1' : qs[j]? = some q := by simpa using h1
    have ne : p ≠ q := fun z => hn2.1 (z ▸ List.mem_of_getElem? h1')
    show upd (chunk qs (xss.set j ys)) p _ = upd (upd (chunk qs xss) p _) q _
    rw [chunk_set ys hn2.2 h1' (by simpa using h2), upd_comm2 ne]
  | [], _, j, _, _, _, h1, _ => by cases h1
  | _ :: _, [], j, _, _, _, _, h2 => by simp at h2
theorem rowI_map : ∀ xs : List (Option Int), rowI (xs.map oI) = some xs
  | [] => rfl
  | x :: xs => by
    have e : isI (oI x) = some x := by cases x <;> rfl
    simp [rowI, e, rowI_map xs]
theorem llOf_map : ∀ xss : List (List (Option Int)), llOf (xss.map lsD) = some xss
  | [] => rfl
  | xs :: xss => by simp [llOf, rowI_map, llOf_map xss]
def llDe : D → Option (List (List (Option Int)))
  | .list es => llOf es
  | _ => none
theorem llDe_ll (xss : List (List (Option Int))) : llDe (llD xss) = some xss := llOf_map xss
section
variable {K : PySem.W.Frag} {fr : Fr} {w w' wl : List Sh} {s0 : Sh} {F H F' H' : Hp} {σ : St} {ρ : Env} {X : Cx} {Er : ErT} {te : TE} {st : Stmt} {pos : Pos} {sts : List Stmt} {t : TS} {f : SF}
/-! freeze -/
theorem chunk_dp {K : PySem.W.Frag} {A : Hp} : ∀ {qs : List Addr} {xss : List (List (Option Int))}, qs.length = xss.length → (∀ (j : Nat) (q : Addr) (xs : List (Option Int)), qs[j]? = some q → xss[j]? = some xs → A q = some (.lst (xs.map vI))) → DpAll K A (qs.map V.ref) (xss.map lsD)
  | [], [], _, _ => .nil
  | q :: qs, xs :: xss, hl, h => .cons (.lst (.inl (.inl (h 0 q xs rfl rfl))) (oI_dpAll xs)) (chunk_dp (by simpa using hl) fun j q' xs' h1 h2 => h (j + 1) q' xs' (by simpa using h1) (by simpa using h2))
  | [], _ :: _, hl, _ => by simp at hl
  | _ :: _, [], hl, _ => by simp at hl
theorem SR.freezeL {i : Nat} (h : SR K fr w F H σ ρ) (hw : sh w i = .ob llO) : ∃ F', Same F F' ∧ SR K fr (w.set i .fz) F' H σ ρ := by
  cases e : ρ[i]? with
  | none =>
    refine ⟨F, same_refl F, ?_⟩
    have hn : ∀ d, ρ[i]? ≠ some (some d) := fun d z => by rw [e] at z; cases z
    obtain ⟨os, s⟩ := h
    refine ⟨os, s.fh, s.gh, s.f0, s.nw, s.oh, s.ow, fun j d q => ?_, s.len, s.om⟩
    have hj : i ≠ j := fun z => hn d (by rw [z]; exact q)
    rw [sh_set_ne hj]
    exact s.sl j d q
  | some x =>
    cases x with
    | none =>
      refine ⟨F, same_refl F, ?_⟩
      have hn : ∀ d, ρ[i]? ≠ some (some d) := fun d z => by rw [e] at z; cases z
      obtain ⟨os, s⟩ := h
      refine ⟨os, s.fh, s.gh, s.f0, s.nw, s.oh, s.ow, fun j d q => ?_, s.len, s.om⟩
      have hj : i ≠ j := fun z => hn d (by rw [z]; exact q)
      rw [sh_set_ne hj]
      exact s.sl j d q
    | some d =>
      obtain ⟨v, o, e1, ⟨p, qs, xss, rfl, rfl, rfl, hnd, hl⟩, ho, _, hf⟩ := h.get_ob hw e
      have hn := List.nodup_cons.mp hnd
      obtain ⟨a, b⟩ := hf (.inl (.lst (.inl (.inl (joinH_some upd_same))) (chunk_dp hl fun j q xs h1 h2 => by
        have ne : q ≠ p := fun z => hn.1 (z ▸ List.mem_of_getElem? h1)
        exact joinH_some (by rw [upd_ne ne]; exact chunk_at hn.2 h1 h2))))
      exact ⟨_, b, a⟩
theorem ds_frzL (i : Nat) (hi : sh w i = .ob llO) (h : DS X Er s0 wl (w.set i .fz) sts w' t f) : DS X Er s0 wl w sts w' t f := by
  refine ⟨h.ps, fun fr F H σ ρ Dn st p => ?_⟩
  obtain ⟨F', s, st'⟩ := st.freezeL hi
  exact h.rd fr F' H σ ρ Dn st' (PostS.mono p s)
/-! x = [new list for ..] -/
def newL (w : List Sh) (i : Nat) (f : AF) : SF := fun ρ => runR (f (hidA w ρ)) ρ fun es => match llOf es with
  | some xss => .nx (ρ.set i (some (llD xss)))
  | none => .bad
theorem inn_chunk {K : PySem.W.Frag} : ∀ {qs : List Addr} {xss : List (List (Option Int))}, Inn K H F' H' qs (xss.map lsD) → ∀ a u, chunk qs xss a = some u → H a = none ∧ F' a = none ∧ H' a = some u := fun {qs xss} h a u e => by
  have hm : a ∈ qs := chunk_mem (by rw [e]; simp)
  obtain ⟨j, hj⟩ := List.getElem?_of_mem hm
  have hjl : j < xss.length := by
    have := (List.getElem?_eq_some_iff.mp hj).1
    rw [h.len, List.length_map] at this
    exact this
  obtain ⟨vs, ds, e1, a1, a2, a3, dp⟩ := h.at_ j a (lsD xss[j]) hj (by rw [List.getElem?_map, List.getElem?_eq_getElem hjl]; rfl)
  have e2 : ds = xss[j].map oI := by
    injection e1 with e1
    exact e1.symm
  subst e2
  have e3 := chunk_at (xss := xss) h.nd hj (List.getElem?_eq_getElem hjl)
  rw [e] at e3
  cases e3
  rw [dpAll_oI dp] at a3
  exact ⟨a1, a2, a3⟩
theorem drs_newL {i : Nat} {fe : AF} (hw : sh w 0 = s0) (hi : i < w.length) (h : DRl K Er te fe) : DRs K Er s0 wl w (w.set i (.ob llO)) (tAsg te (gName i)) (newL w i fe) := by
  intro fr F H σ ρ Dn st p
  refine h F H σ _ _ st.fh st.envA ?_
  unfold newL at p
  cases e : fe (hidA w ρ) with
  | ok es =>
    rw [e, runR_ok] at p
    intro F1 H1 g a qs ha hin
    cases el : llOf es with
    | none => simp only [el] at p; exact p.elim
    | some xss =>
      simp only [el] at p
      have ees := llOf_is el
      subst ees
      have hF1 : F1 a = none := none_of_same g.fh.s ha
      have hH : H a = none := grow_none st.fh g ha
      have naq : a ∉ qs := fun z => by
        obtain ⟨_, _, vs, e2⟩ := hin.all z
        rw [ha] at e2
        cases e2
      have g2 : Grow F H F1 (upd H1 a (.lst (qs.map V.ref))) := g.trans ⟨same_refl _, sameM_of (same_upd ha), g.fh.upd ha, fun b h1 _ => h1⟩
      refine p _ F1 _ g.ff (st.set_ob (Φ := llO) (o := upd (chunk qs xss) a (.lst (qs.map V.ref))) g2 (fun b hb => ?_) (fun b u hb => ?_) ⟨a, qs, xss, rfl, rfl, rfl, List.nodup_cons.mpr ⟨naq, hin.nd⟩, by rw [hin.len, List.length_map]⟩ hi)
      · by_cases z : b = a
        · rw [z]; exact ⟨hH, hF1⟩
        · rw [upd_ne z] at hb
          cases eu : chunk qs xss b with
          | none => exact absurd eu hb
          | some u =>
            obtain ⟨a1, a2, _⟩ := inn_chunk hin b u eu
            exact ⟨a1, a2⟩
      · by_cases z : b = a
        · subst z
          rw [upd_same] at hb ⊢
          exact hb
        · rw [upd_ne z] at hb ⊢
          exact (inn_chunk hin b u hb).2.2
  | err c =>
    rw [e] at p
    exact fun F' H' gr => p σ F' H' w hw (st.grow gr)
  | bad => rw [e] at p; exact p.elim
end
end DL

set_option maxHeartbeats 1000000
/-! DX8: lists of lists: the statements. -/
namespace DL
open PySem PySem.Spec L2
open PyProof.Rows hiding St
variable [Mem]
section
variable {X : Cx} {Er : ErT} {te : TE} {ta : TA} {K : PySem.W.Frag} {tt : TT}
theorem dl_lc {elt tg iter : Expr} {ifs : List Expr} {scope : Scope} {own : List (Str × Nat)} {pos : Pos} {wi : TI} {g : TG} {fi : AF} {tgf : TGF} {ft : TF} {fe : AF} {js : List Nat} (hc : X.calm = true) (hN : X.N.Nodup) (hi : DI X Er tg iter wi fi) (ok : BlkOk X.N X.env.scope scope own)
    (hg : ∀ (s : Shared) (H : Hp) (C : Addr) (cl : List (Str × Addr)) (fp : List Addr), TG1 (X.blk s H scope (compEnvC scope cl C X.env) fp) tg g tgf js)
    (ht : ∀ (s : Shared) (H : Hp) (C : Addr) (cl : List (Str × Addr)) (fp : List Addr), DTS (X.blk s H scope (compEnvC scope cl C X.env) fp) ErF ifs tt ft)
    (he : ∀ (s : Shared) (H : Hp) (C : Addr) (cl : List (Str × Addr)) (fp : List Addr), DN (X.blk s H scope (compEnvC scope cl C X.env) fp) ErF elt te fe) (hjs : ∀ j ∈ js, j ∈ own.map (·.2) := by decide) (hs : ∀ x, foldedSetIterable iter X.env x = pure x := by intro _; rfl) :
    PE X (.ListComp elt [⟨tg, iter, ifs, 0⟩] scope pos) (tLc wi g tt te (own.map (·.2))) ∧ DRl X.K Er (tLc wi g tt te (own.map (·.2))) (compE fi tgf ft (lstE fe) (own.map (·.2))) :=
  ⟨pe_lc hc hN hi.pi ok (fun s H C cl fp => (hg s H C cl fp).pg) (fun s H C cl fp => (ht s H C cl fp).pt) (fun s H C cl fp => (he s H C cl fp).pe) hs,
    dr_lcl hi.rd (hg X.s_0 X.H_0 0 [] []).rd (ht X.s_0 X.H_0 0 [] []).rd (he X.s_0 X.H_0 0 [] []).rd hjs⟩
theorem ps_lcl {i : Nat} {y : Str} {py : Pos} {elt tg iter : Expr} {ifs : List Expr} {scope : Scope} {own : List (Str × Nat)} {pos spos : Pos} {wi : TI} {g : TG} {fi : AF} {tgf : TGF} {ft : TF} {fe : AF} {js : List Nat} (hc : X.calm = true) (hN : X.N.Nodup) (hy : X.N[i]? = some y) (hyl : X.env.scope.names.lookup y = some .local)
    (hsw : swapsWith (.ListComp elt [⟨tg, iter, ifs, 0⟩] scope pos) (some (.Name y py)) spos.line X.env = pure true) (hi : DI X Er tg iter wi fi) (ok : BlkOk X.N X.env.scope scope own)
    (hg : ∀ (s : Shared) (H : Hp) (C : Addr) (cl : List (Str × Addr)) (fp : List Addr), TG1 (X.blk s H scope (compEnvC scope cl C X.env) fp) tg g tgf js)
    (ht : ∀ (s : Shared) (H : Hp) (C : Addr) (cl : List (Str × Addr)) (fp : List Addr), DTS (X.blk s H scope (compEnvC scope cl C X.env) fp) ErF ifs tt ft)
    (he : ∀ (s : Shared) (H : Hp) (C : Addr) (cl : List (Str × Addr)) (fp : List Addr), DN (X.blk s H scope (compEnvC scope cl C X.env) fp) ErF elt te fe) (hjs : ∀ j ∈ js, j ∈ own.map (·.2) := by decide) (hs : ∀ x, foldedSetIterable iter X.env x = pure x := by intro _; rfl) :
    PS X (.Assign [.Name y py] (.ListComp elt [⟨tg, iter, ifs, 0⟩] scope pos) spos) (tAsg (tLc wi g tt te (own.map (·.2))) (gName i)) ∧ DRl X.K Er (tLc wi g tt te (own.map (·.2))) (compE fi tgf ft (lstE fe) (own.map (·.2))) :=
  ⟨ps_setLc hc hN hy hyl hsw hi.pi ok (fun s H C cl fp => (hg s H C cl fp).pg) (fun s H C cl fp => (ht s H C cl fp).pt) (fun s H C cl fp => (he s H C cl fp).pe) hs,
    dr_lcl hi.rd (hg X.s_0 X.H_0 0 [] []).rd (ht X.s_0 X.H_0 0 [] []).rd (he X.s_0 X.H_0 0 [] []).rd hjs⟩
end
section
variable {X : Cx} {Er : ErT} {s0 : Sh} {wl w : List Sh} {te : TE} {st : Stmt} {pos : Pos}
theorem d_newLl {i : Nat} {fe : AF} (h : PS X st (tAsg te (gName i)) ∧ DRl X.K Er te fe) (hl : i < w.length := by decide) (hw : sh w 0 = s0 := by rfl) : D1 X Er s0 wl w st (w.set i (.ob llO)) (tAsg te (gName i)) (newL w i fe) := ⟨h.1, drs_newL hw hl h.2⟩
theorem s_newL (i : Nat) {x : Str} {e : Expr} {pos' : Pos} {fe : AF} (hN : X.N.Nodup) (h : PE X e te ∧ DRl X.K Er te fe) (hi : X.N[i]? = some x := by rfl) (hx : Loc X.env.scope x := by first | exact Or.inl rfl | exact Or.inr rfl) (hl : i < w.length := by decide) (hw : sh w 0 = s0 := by rfl) (hs : swapsWith e (some (.Name x pos')) pos.line X.env = pure false := by rfl) (hf : X.fn x = true ∨ X.env.scope.names.lookup x = some .local := by first | exact .inl rfl | exact .inr rfl) :
    D1 X Er s0 wl w (.Assign [.Name x pos'] e pos) (w.set i (.ob llO)) (tAsg te (gName i)) (newL w i fe) := ⟨ps_set hN hi hx h.1 hs hf, drs_newL hw hl h.2⟩
/-- x[a][b] = e -/
def rowAt (xss : List (List (Option Int))) : D → Option (Nat × List (Option Int))
  | .int a => if 0 ≤ a then (xss[a.toNat]?).map fun xs => (a.toNat, xs) else none
  | _ => none
def putL (ρ : Env) (i : Nat) (xss : List (List (Option Int))) (j : Nat) (xs : List (Option Int)) (b d : D) : Out := match b, isI d with
  | .int b, some x => if 0 ≤ b ∧ b.toNat < xs.length then .nx (ρ.set i (some (llD (xss.set j (xs.set b.toNat x))))) else .bad
  | _, _ => .bad
def setLL (w : List Sh) (i : Nat) (fe fa fb : EF) : SF := fun ρ => match ρ[i]? with
  | some (some dl) => (match llDe dl with
    | some xss => runR (fe (hidA w ρ)) ρ fun d => runR (fa (hidA w ρ)) ρ fun a => match rowAt xss a with
      | some (j, xs) => runR (fb (hidA w ρ)) ρ fun b => putL ρ i xss j xs b d
      | none => .bad
    | none => .bad)
  | _ => .bad
theorem ixN_nat {n j : Nat} (h : j < n) : ixN n (j : Int) = some j := by
  unfold ixN
  rw [if_pos (by omega), if_pos (by omega)]
  rfl
theorem drs_setLL {K : PySem.W.Frag} {i : Nat} {fe fa fb : EF} {ta tb : TE} (hi : sh w i = .ob llO) (hw : sh w 0 = s0) (h : DRd K Er te fe) (ha : DRd K Er ta fa) (hb : DRd K Er tb fb) : DRs K Er s0 wl w w (tAsg te (gSub (tOp (rIx K) (tVar i) ta) tb rSetL)) (setLL w i fe fa fb) := by
  intro fr F H σ ρ Dn st p
  unfold setLL at p
  cases e : ρ[i]? with
  | none => rw [e] at p; exact p.elim
  | some o =>
    cases o with
    | none => rw [e] at p; exact p.elim
    | some dl =>
      rw [e] at p
      simp only at p
      cases el : llDe dl with
      | none => rw [el] at p; exact p.elim
      | some xss =>
        rw [el] at p
        simp only at p
        refine runA (te := te) hw h st p fun d v F1 H1 s1 st1 dv p1 => ?_
        obtain ⟨v1, o1, e1, ⟨pp, _, _, e3, _⟩, _⟩ := st1.get_ob hi e
        subst e3
        refine ⟨_, e1, runA (te := ta) hw ha st1 p1 fun da va F2 H2 s2 st2 dva p2 => ?_⟩
        cases er : rowAt xss da with
        | none => simp only [er] at p2; exact p2.elim
        | some jx =>
          obtain ⟨j, xs⟩ := jx
          simp only [er] at p2
          cases da with
          | int a =>
            cases dva
            simp only [rowAt] at er
            by_cases h0 : 0 ≤ a
            · rw [if_pos h0] at er
              cases ex : xss[a.toNat]? with
              | none => rw [ex] at er; cases er
              | some ys =>
                rw [ex] at er
                cases er
                have env2 := st2.envA
                obtain ⟨os, s2'⟩ := st2
                obtain ⟨v2, e2, ⟨pp2, qs, xss2, e4, e5, e6, hnd, hl⟩, ho, _⟩ := s2'.ob hi e
                rw [e1] at e2
                cases e2
                cases e4
                have ex2 : xss2 = xss := by
                  rw [e5, llDe_ll] at el
                  exact Option.some.inj el
                subst ex2
                have hn := List.nodup_cons.mp hnd
                have hjl : a.toNat < xss2.length := (List.getElem?_eq_some_iff.mp ex).1
                obtain ⟨q, hq⟩ : ∃ q, qs[a.toNat]? = some q := ⟨qs[a.toNat]'(by rw [hl]; exact hjl), List.getElem?_eq_getElem (by rw [hl]; exact hjl)⟩
                have nqp : q ≠ pp := fun z => hn.1 (z ▸ List.mem_of_getElem? hq)
                have oq : os i q = some (.lst (xs.map vI)) := by
                  rw [e6, upd_ne nqp]
                  exact chunk_at hn.2 hq ex
                have hp : H2 pp = some (.lst (qs.map V.ref)) := ho pp _ (by rw [e6, upd_same])
                refine .inl ⟨pp, qs.map V.ref, a, .ref q, rfl, rfl, .inl (.inl hp), ?_, ?_⟩
                · have : a = (a.toNat : Int) := by omega
                  rw [this]
                  unfold atI
                  rw [List.length_map, ixN_nat (by rw [hl]; exact hjl), Option.bind_some, List.getElem?_map, hq]
                  rfl
                · refine hb F2 H2 σ _ _ s2'.fh env2 ?_
                  cases eb : fb (hidA w ρ) with
                  | bad => rw [eb] at p2; exact p2
                  | err c =>
                    rw [eb] at p2
                    exact fun F3 H3 g3 => p2 σ F3 H3 w hw ⟨os, s2'.grow g3⟩
                  | ok db =>
                    rw [eb, runR_ok] at p2
                    intro F3 H3 g3 vb dvb
                    obtain ⟨v3, e7, _, ho3, hup, _⟩ := (s2'.grow g3).ob hi e
                    rw [e1] at e7
                    cases e7
                    unfold putL at p2
                    cases db with
                    | int b =>
                      cases dvb
                      cases ed : isI d with
                      | none => simp only [ed] at p2; exact p2.elim
                      | some x =>
                        simp only [ed] at p2
                        by_cases hbx : 0 ≤ b ∧ b.toNat < xs.length
                        · rw [if_pos hbx] at p2
                          have hbn : b = (b.toNat : Int) := by omega
                          refine ⟨q, xs.map vI, b, b.toNat, rfl, rfl, ho3 q _ oq, ?_, ?_⟩
                          · rw [List.length_map]
                            conv => lhs; rw [hbn]
                            exact ixN_nat hbx.2
                          · have dvx : v = vI x := by
                              have := isI_is ed
                              subst this
                              exact dp_oI dv
                            rw [dvx, ← List.map_set]
                            refine p2 _ F3 _ g3.ff (hup q _ _ (by rw [oq]; simp) ⟨pp, qs, xss2.set a.toNat (xs.set b.toNat x), rfl, rfl, ?_, hnd, by rw [List.length_set]; exact hl⟩)
                            rw [e6, chunk_set _ hn.2 hq hjl, upd_comm (Ne.symm nqp)]
                        · rw [if_neg hbx] at p2
                          exact p2.elim
                    | _ => exact p2.elim
            · rw [if_neg h0] at er
              cases er
          | _ => cases er
end
end DL

set_option maxHeartbeats 1000000
/-! DX9: x[a][b] = e in short; list * n as a new list. -/
namespace DL
open PySem PySem.Spec L2
open PyProof.Rows hiding St
variable [Mem]
section
variable {X : Cx} {Er : ErT} {s0 : Sh} {wl w : List Sh} {te : TE} {st : Stmt} {pos : Pos}
theorem s_setL (i : Nat) {x : Str} {e ia ib : Expr} {p1 p2 p3 : Pos} {fe fa fb : EF} {ta tb : TE} (h : DE X Er e te fe) (ha : DE X Er ia ta fa) (hb : DE X Er ib tb fb) (hi : sh w i = .ob llO := by rfl) (hN : X.N[i]? = some x := by rfl) (hv : Vis X.env.scope x := by first | exact Or.inl rfl | exact Or.inr (Or.inl rfl) | exact Or.inr (Or.inr rfl)) (hw : sh w 0 = s0 := by rfl)
    (hpa : PlainIx ia := by exact fun _ _ => rfl)
    (hg : ∀ v, assign (.Subscript (.Subscript (.Name x p1) ia p2) ib p3) X.env v = (do
      let ov ← holding [v] (eval (.Subscript (.Name x p1) ia p2) X.env)
      let iv ← holding [v, ov] (eval ib X.env)
      standAt p3
      holding [v, ov, iv] (setItem ov iv v)
      release [v, ov, iv] []) := by intro _; rfl)
    (hs : swapsWithSole [.Subscript (.Subscript (.Name x p1) ia p2) ib p3] e pos.line X.env = pure false := by rfl) (hsw : swappedStores [.Subscript (.Subscript (.Name x p1) ia p2) ib p3] e X.env = pure none := by rfl)
    (h1 : (assignEach [.Subscript (.Subscript (.Name x p1) ia p2) ib p3] X.env).map (·.2) = [assign (.Subscript (.Subscript (.Name x p1) ia p2) ib p3) X.env] := by rfl)
    (hd : (x == ("__debug__" : Str)) = false := by decide) (hcd : (x == ("__classdict__" : Str)) = false := by decide) :
    D1 X Er s0 wl w (.Assign [.Subscript (.Subscript (.Name x p1) ia p2) ib p3] e pos) w (tAsg te (gSub (tOp (rIx X.K) (tVar i) ta) tb rSetL)) (setLL w i fe fa fb) :=
  ⟨ps_asg h.pe (pg_sub (pe_ix ix_seq (pe_var hN hv hd hcd) ha.pe hpa) hb.pe set_list hg) hs hsw h1, drs_setLL hi hw h.rd ha.rd hb.rd⟩
end
section
variable {X : Cx} {Er : ErT} {K : PySem.W.Frag} {ta tb te : TE}
/-- list * n: a new list -/
def mulLD : D → D → Option (List D)
  | .list ds, .int n => if 0 ≤ n ∧ n < 1000 ∧ ds.length * n.toNat ≤ 1000000 then some (List.replicate n.toNat ds).flatten else none
  | _, _ => none
def mulNA (a b : EF) : AF := bE a fun x => bE b fun y => oE (mulLD x y)
theorem drn_mul {fa fb : EF} (ha : DRd K Er ta fa) (hb : DRd K Er tb fb) : DRn K Er (tOp (rMulA K) ta tb) (mulNA fa fb) := by
  intro F H σ ρ Q s st h
  refine ha F H σ ρ _ s st (Post.imp (Post.bind h) fun F1 H1 a g1 p1 v dv => ?_)
  refine hb F1 H1 σ ρ _ g1.fh (st.mono g1.ff) (Post.imp (Post.bind p1) fun F2 H2 b g2 p2 u du => ?_)
  unfold oE at p2
  have dv2 := dp_mono g2.ff a v dv
  cases e : mulLD a b with
  | none => simp only [e] at p2; exact p2.elim
  | some d =>
    simp only [e] at p2
    cases a with
    | list ds =>
      cases b with
      | int n =>
        cases du
        cases dv2 with
        | lst h1 h2 =>
          simp only [mulLD] at e
          split at e <;> cases e
          rename_i h
          have l1 := dpAll_len h2
          refine .inr (.inl ⟨_, _, _, rfl, rfl, same_seqL g2.fh.s h1, by omega, by omega, by rw [l1]; exact h.2.2, fun p hp => ?_⟩)
          exact Post.now p2 g2.fh p _ hp (dpAll_rep h2 _)
      | _ => simp [mulLD] at e
    | _ => simp [mulLD] at e
theorem dn_mul (K : PySem.W.Frag) {a b : Expr} {pos : Pos} {fa fb : EF} (ha : DE X Er a ta fa) (hb : DE X Er b tb fb) (hK : X.K = K := by rfl) : DN X Er (.BinOp a .Mult b pos) (tOp (rMulA K) ta tb) (mulNA fa fb) := by
  subst hK
  exact
  ⟨pe_op op_mulA ha.pe hb.pe, drn_mul ha.rd hb.rd⟩
end
end DL

set_option maxHeartbeats 1000000
/-! DY1: sorted(list) of ints, of pairs of ints. -/
namespace DL
open PySem PySem.Spec L2
open PyProof.Rows hiding St
open SrtO (Srtd Stb lexB swo_lex)
/-- the pair of ints that a tuple holds -/
def pairAt (h : Heap) : Value → Int × Int
  | .ref a => match h.get? a with
    | some o => match o.data with
      | .seq vs _ => match vs.toList with
        | [.int i _, .int j _] => (i, j)
        | _ => (0, 0)
      | _ => (0, 0)
    | none => (0, 0)
  | _ => (0, 0)
theorem pairAt_of {h : Heap} {v : Value} {i j : Int} (p : Srt.IsPair h v i j) : pairAt h v = (i, j) := by
  obtain ⟨a, o, t, u, n, rfl, ho, hc, hd⟩ := p
  unfold pairAt
  simp only [ho, hd]
/-- sorted(xs), xs a list of pairs of ints, known any way -/
def rSortedPT (K : PySem.W.Frag) : List V → Hp → VK → Prop := fun vs H Q => ∃ (a : Addr) (xs : List V) (kvs : List (Int × Int)), vs = [V.ref a] ∧ SqL K H a xs ∧ xs.length = kvs.length ∧ (∀ (i : Nat) (x : V), xs[i]? = some x → ∃ t p, x = V.ref t ∧ kvs[i]? = some p ∧ SqT K H t [.int p.1, .int p.2]) ∧
  ∀ (ys : List V) p, ys.length = kvs.length → (∀ (i : Nat) (y : V), ys[i]? = some y → ∃ (j : Nat) (p : Int × Int), xs[j]? = some y ∧ kvs[j]? = some p ∧ (sortI kvs)[i]? = some p) → H p = none → Q (.ref p) (upd H p (.lst ys))
section
variable {X : Cx}
theorem cr_sortedPT : CallR X (.builtin "sorted") (rSortedPT X.K) := by
  intro pins s σ H vs us Q I r h
  obtain ⟨a, xs, kvs, rfl, hs, hlen, hx, q⟩ := h
  obtain ⟨its, rv, hl, hz⟩ := I.list hs
  obtain ⟨u, rfl, ru⟩ := vals1 r
  obtain rfl : u = Value.ref a := ru
  obtain ⟨e1, e2⟩ := refs_back rv fun x m => by
    obtain ⟨i, hi⟩ := List.mem_iff_getElem?.mp m
    obtain ⟨t, p, e, _⟩ := hx i x hi
    exact ⟨t, e⟩
  have hk : ∀ (i : Nat) (v : Value), its[i]? = some v → ∃ t p, v = Value.ref t ∧ kvs[i]? = some p ∧ SqT X.K H t [.int p.1, .int p.2] ∧ Srt.IsPair s.heap v p.1 p.2 := fun i v hv => by
    have hxi : xs[i]? = some (backV v) := by rw [e1, List.getElem?_map, hv]; rfl
    obtain ⟨t, p, e, hp, ht⟩ := hx i _ hxi
    obtain ⟨b, rfl⟩ := e2 v (List.mem_of_getElem? hv)
    cases e
    obtain ⟨its2, r2, ⟨o, ho, hc, n, hd⟩, _⟩ := I.tuple ht
    obtain ⟨u1, u2, rfl, ri, rj⟩ := vals2 r2
    obtain ⟨t1, rfl⟩ := ri
    obtain ⟨t2, rfl⟩ := rj
    exact ⟨_, p, rfl, hp, ht, _, o, t1, t2, n, rfl, ho, hc, hd⟩
  have hkv : its.map (pairAt s.heap) = kvs := by
    have hl2 : its.length = kvs.length := by rw [← hlen, e1, List.length_map]
    apply List.ext_getElem
    · simpa using hl2
    · intro i h1 h2
      have hi : i < its.length := by simpa using h1
      obtain ⟨t, p, _, hp, _, hip⟩ := hk i _ (List.getElem?_eq_getElem hi)
      rw [List.getElem_map, pairAt_of hip]
      have := (List.getElem?_eq_some_iff.mp hp).2
      rw [this]
  refine SrtO.sorted_pairsO (k := pairAt s.heap) hl.isList (by rw [← rv.length]; exact hz) (fun v hv => ?_) fun h' d out h1 h2 kp hd hn => ?_
  · obtain ⟨i, hi⟩ := List.mem_iff_getElem?.mp hv
    obtain ⟨t, p, _, _, _, hip⟩ := hk i v hi
    rw [pairAt_of hip]
    exact hip
  · have h3 : ∀ u ∈ out, ∃ a, u = Value.ref a := fun u hu => e2 u (h2.perm.mem_iff.mp hu)
    obtain ⟨n, hn⟩ := hn
    have hso : out.map (pairAt s.heap) = sortI kvs := by
      refine sortI_of ?_ ?_
      · rw [List.pairwise_map]; exact h1
      · have := h2.perm.map (pairAt s.heap)
        rwa [hkv] at this
    have hlo : out.length = its.length := h2.perm.length_eq
    have hli : its.length = kvs.length := by rw [← hkv, List.length_map]
    refine ⟨.ref d, upd H d (.lst (out.map backV)), I.laid (t' := s.toks) kp hd ⟨?_, out, n, vals_back h3, hn⟩, rfl, q _ d (by rw [List.length_map, hlo, hli]) (fun i y hy => ?_) (I.hok.fresh hd)⟩
    · rw [List.length_map, hlo, ← rv.length]
      exact hz
    · rw [List.getElem?_map] at hy
      cases ho : out[i]? with
      | none => rw [ho] at hy; cases hy
      | some v =>
        rw [ho] at hy
        cases hy
        obtain ⟨j, hj⟩ := List.mem_iff_getElem?.mp (h2.perm.mem_iff.mp (List.mem_of_getElem? ho))
        obtain ⟨t, p, rfl, hp, ht, hip⟩ := hk j v hj
        refine ⟨j, p, by rw [e1, List.getElem?_map, hj]; rfl, hp, ?_⟩
        rw [← hso, List.getElem?_map, ho, Option.map_some, pairAt_of hip]
end
def sortN (ns : List Int) : List Int := ns.mergeSort fun a b => decide (a ≤ b)
theorem sortN_of {out ns : List Int} (h1 : out.Perm ns) (h2 : out.Pairwise (· ≤ ·)) : out = sortN ns := by
  refine List.Perm.eq_of_pairwise (le := fun x y => x ≤ y) (fun a b _ _ h3 h4 => Int.le_antisymm h3 h4) h2 ?_ (h1.trans (List.mergeSort_perm _ _).symm)
  have := List.pairwise_mergeSort (le := fun a b : Int => decide (a ≤ b)) (fun a b c h3 h4 => by simp at *; omega) (fun a b => by simp; omega) ns
  exact this.imp fun h => by simpa using h
def rSortA (K : PySem.W.Frag) : List V → Hp → VK → Prop := fun vs H Q => rSortedI K vs H Q ∨ rSortedPT K vs H Q
theorem cr_sortA {X : Cx} : CallR X (.builtin "sorted") (rSortA X.K) := by
  intro pins s σ H vs us Q I r h
  rcases h with h | h
  · exact cr_sortedI pins s σ H vs us Q I r h
  · exact cr_sortedPT pins s σ H vs us Q I r h
theorem ksort (K : PySem.W.Frag) {X : Cx} (hK : X.K = K := by rfl) : CallR X (.builtin "sorted") (rSortA K) := by subst hK; exact cr_sortA
def pairD (p : Int × Int) : D := .tuple [.int p.1, .int p.2]
def sortD : List D → Option D
  | [.list ds] => match intsOf ds with
    | some ns => some (.list ((sortN ns).map .int))
    | none => (pairsOf' ds).map fun kvs => .list ((sortI kvs).map pairD)
  | _ => none
section
variable [Mem]
theorem dpAll_pairs {K : PySem.W.Frag} {F : Hp} : ∀ {kvs : List (Int × Int)} {vs : List V}, DpAll K F vs (kvs.map pairD) → ∀ (i : Nat) (x : V), vs[i]? = some x → ∃ t p, x = V.ref t ∧ kvs[i]? = some p ∧ SqT K F t [.int p.1, .int p.2]
  | [], _, h, i, x, e => by cases h; simp at e
  | p :: kvs, _, h, i, x, e => by
    cases h with
    | cons h1 h2 =>
      cases i with
      | zero =>
        simp at e
        subst e
        cases h1 with
        | tup a b =>
          cases b with
          | cons b1 b2 =>
            cases b2 with
            | cons b2 b3 =>
              cases b1; cases b2; cases b3
              exact ⟨_, p, rfl, rfl, a⟩
      | succ i =>
        obtain ⟨t, q, e1, e2, e3⟩ := dpAll_pairs h2 i x (by simpa using e)
        exact ⟨t, q, e1, by simpa using e2, e3⟩
theorem pairs_dpAll {K : PySem.W.Frag} {F : Hp} : ∀ {kvs : List (Int × Int)} {vs : List V}, vs.length = kvs.length → (∀ (i : Nat) (x : V), vs[i]? = some x → ∃ t p, x = V.ref t ∧ kvs[i]? = some p ∧ SqT K F t [.int p.1, .int p.2]) → DpAll K F vs (kvs.map pairD)
  | [], [], _, _ => .nil
  | p :: kvs, v :: vs, hl, h => by
    obtain ⟨t, q, rfl, e2, e3⟩ := h 0 v rfl
    cases e2
    exact .cons (.tup e3 (.cons (.int _) (.cons (.int _) .nil))) (pairs_dpAll (by simpa using hl) fun i x hx => by
      have := h (i + 1) x (by simpa using hx)
      simpa using this)
  | [], _ :: _, hl, _ => by simp at hl
  | _ :: _, [], hl, _ => by simp at hl
theorem cg_sortA (K : PySem.W.Frag) : CallG K (rSortA K) sortD := by
  intro F H vs ds d Q s h e k
  match ds, h, e with
  | [.list xs], .cons (.lst h1 h2) .nil, e =>
    simp only [sortD] at e
    cases z : intsOf xs with
    | some ns =>
      rw [z] at e
      cases e
      have e2 := intsOf_eq z
      subst e2
      have e3 := dpAll_ints h2
      subst e3
      refine .inl ⟨_, ns, rfl, same_seqL s.s h1, fun ns' p h3 h4 hp => ?_⟩
      rw [sortN_of h3 h4]
      exact k _ _ _ (Grow.new s hp) (.lst (.inl (.inl upd_same)) (dpAll_intsI _))
    | none =>
      rw [z] at e
      cases z2 : pairsOf' xs with
      | none => rw [z2] at e; cases e
      | some kvs =>
        rw [z2] at e
        cases e
        have e2 := pairsOf_eq z2
        subst e2
        refine .inr ⟨_, _, kvs, rfl, same_seqL s.s h1, by rw [dpAll_len h2, List.length_map], fun i x hx => ?_, fun ys p hl hy hp => ?_⟩
        · obtain ⟨t, q, e1, e2, e3⟩ := dpAll_pairs h2 i x hx
          exact ⟨t, q, e1, e2, same_seqT s.s e3⟩
        · refine k _ _ _ (Grow.new s hp) (.lst (.inl (.inl upd_same)) (dpAll_mono (Grow.new s hp).ff _ _ (pairs_dpAll (by rw [hl]; exact (List.mergeSort_perm _ _).length_eq.symm) fun i y hiy => ?_)))
          obtain ⟨j, q, e1, e2, e3⟩ := hy i y hiy
          obtain ⟨t, q2, e4, e5, e6⟩ := dpAll_pairs h2 j y e1
          rw [e2] at e5
          cases e5
          exact ⟨t, q, e4, e3, e6⟩
end
end DL

set_option maxHeartbeats 3200000
/-! DY2: len(set(x)), x a tuple or a list of tuples of ints. -/
namespace DL
open PySem PySem.Spec L2
open PyProof.Rows
section
variable {prog : Program} {w : World} {A : Around} {E : Value → Shared → Prop} {s : Shared}
abbrev noSet (w : World) : Obj := { cls := .type "set", dict := none, data := .set #[] 0 (.fresh 0 0 (!w.params.followText "set-order")) }
/-- set(t), t a tuple of tuples of ints -/
theorem set_of_tuple {l : Addr} {xs : Array Value} (ks : List (Addr × List Int)) {Q : Value → Shared → Prop} (hA : A.handled = none) (ht : s.heap.IsTuple l xs) (hxs : xs.toList = ks.map fun p => Value.ref p.1)
    (hks : ∀ p ∈ ks, IsT prog w s.heap p.2 p.1) (h64 : ks.length < 64) (hun : A.units + 3 < cLine)
    (hq : ∀ (h2 : Heap) (tk : Nat) L es ep t, SetTR prog w h2 s.heap.objs.size L es ep t → Got ks ks.length L → (∀ b o, s.heap.get? b = some o → h2.get? b = some o) → Q (.ref s.heap.objs.size) { s with heap := h2, toks := tk }) :
    wpAny (model prog w) A (call (.type "set") [.ref l]) Q E s := by
  have zs : xs.size = ks.length := by
    have := congrArg List.length hxs
    rwa [Array.length_toList, List.length_map] at this
  obtain ⟨c1, c2, hmro⟩ := F.called_set.mro
  have m1 := F.called_set.made
  have m2 := F.called_set.sub
  refine wpAny_call (codeAny_of_tree ?_)
  show wpAny _ _ (callAny (.type "set") _) _ _ _
  refine wpAny_pure ⟨Code.quiet_builtin _ (by decide +kernel), codeAny_builtin F.entry_type_call ?_⟩
  rw [Around.under_plain (weight_type_call_type "set" [.ref l] []) rfl]
  have m3 := F.called_set.notType
  have m4 := F.called_set.canCreate
  have m5 := F.typeCall_set_1 (.ref l)
  repeat (any_goals (first | assumption | wp_step))
  refine codeAny_mono (code_set_led1 (.ref l) (E := E) (Q₁ := fun ob z => ob = .ref s.heap.objs.size ∧ z = { s with heap := s.heap.push (noSet w) }) ⟨rfl, rfl⟩) fun r z hz => ?_
  cases r with
  | error e => exact hz
  | ok fl =>
    cases fl with
    | ret ob =>
      obtain ⟨rfl, rfl⟩ := hz
      have e0 : (s.heap.push (noSet w)).get? s.heap.objs.size = some (noSet w) := Heap.get?_push_size _ rfl
      have ty : Shared.TypeIs { s with heap := s.heap.push (noSet w) } (.ref s.heap.objs.size) "set" := ⟨_, e0, rfl⟩
      have n1 := F.called_set.init.lookup
      have n2 := F.called_set.init.bind (.ref s.heap.objs.size)
      repeat (any_goals (first | assumption | wp_step))
      refine codeAny_mono (codeAny_call_builtin (R := wants (fun r y => r = .none ∧ ∃ h2 tk L es ep t, y = { s with heap := h2, toks := tk } ∧ SetTR prog w h2 s.heap.objs.size L es ep t ∧ Got ks ks.length L ∧
        (∀ b o, s.heap.get? b = some o → h2.get? b = some o)) E) F.called_set.init.plain F.entry_set_init (check_set_init_1 ty ?_)) fun r2 y hr2 => ?_
      · obtain ⟨ot, hot, hct, nt, hdt⟩ := ht
        obtain ⟨oc, od, oa, os⟩ := ot
        simp only at hct hdt
        subst hct hdt
        have hot2 : (s.heap.push (noSet w)).get? l = some { cls := .type "tuple", dict := od, data := .seq xs nt, slots := os } := Heap.get?_push_of_some _ hot
        have n3 := F.sub_tuple_set
        have n4 := F.sub_tuple_frozenset
        have n5 : (Value.type "tuple" == Value.type "dict") = false := by decide
        have it1 : (s.heap.push (noSet w)).IsTuple l xs := ⟨_, hot2, rfl, nt, rfl⟩
        unfold Builtin.«set.__init__» noKeywords Builtin.Frozenset.updateFrom
        generalize hPI : pyIter = PI
        wp_walk
        subst hPI
        refine wpAny_pyIter_tuple it1 (wpAny_bind (wpAny_runValue ?_))
        have below : l < s.heap.objs.size := Heap.lt_size hot
        have hA3 : A.in1.in1.in1.handled = none := by simp [hA]
        have sz1 : (s.heap.push (noSet w)).objs.size = s.heap.objs.size + 1 := Heap.size_push ..
        have ne1 : l ≠ (s.heap.push (noSet w)).objs.size := by rw [sz1]; exact Nat.ne_of_lt (Nat.lt_succ_of_lt below)
        have off : s.heap.objs.size ∉ [(s.heap.push (noSet w)).objs.size, l] := by
          rw [sz1]
          simp only [List.mem_cons, List.not_mem_nil, or_false, not_or]
          exact ⟨Nat.ne_of_lt (Nat.lt_succ_self _), Nat.ne_of_gt below⟩
        have vals : ∀ (i : Nat) (v : Value), xs[i]? = some v → ∃ p, ks[i]? = some p ∧ v = .ref p.1 := fun i v hv => by
          have q : xs.toList[i]? = some v := (Array.getElem?_toList ..).trans hv
          rw [hxs, List.getElem?_map] at q
          obtain ⟨p, h1, h2⟩ := Option.map_eq_some_iff.mp q
          exact ⟨p, h1, h2.symm⟩
        have above : ∀ b, s.heap.objs.size ≤ b → s.heap.get? b = none := fun b hb => by
          cases q : s.heap.get? b with
          | none => rfl
          | some o => exact absurd (Heap.lt_size q) (Nat.not_lt.mpr hb)
        refine set_update_tups ((Walks.tuple hA3 _ l ne1 xs).toS) s.heap.objs.size off ks zs h64 vals s.heap hks (above _ (Nat.le_refl _)) (fun b hb => above b (by rw [List.mem_singleton.mp hb, sz1]; exact Nat.le_succ _)) hun (xs.size - 0) 0 _ (by omega) (Nat.zero_le _)
          ⟨⟨_, Heap.get?_push_size _ rfl, rfl, rfl⟩, (it1.push _)⟩ (fun b o e => Heap.get?_push_of_some _ (Heap.get?_push_of_some _ e)) ?first ?rest
        case first =>
          have e1 : ((s.heap.push (noSet w)).push { cls := .type "tuple_iterator", data := .fields #[.ref l, .int 0 0] }).get? s.heap.objs.size = some (noSet w) := Heap.get?_push_of_some _ e0
          exact ⟨[], #[], 0, _, setTR_fresh e1, Got.zero ks⟩
        case rest =>
          intro y L es ep t hm hS hg kp
          obtain ⟨h2, g2, d2, tk, o2⟩ := y
          have eg : g2 = s.gens := hm.gens
          have ed : d2 = s.drawn := hm.drawn
          have eo : o2 = s.os := hm.os
          subst eg ed eo
          show wpAny _ _ _ _ _ _
          refine wpAny_pure ?_
          show wpAny _ _ (ret Value.none) _ _ _
          rw [zs] at hg
          exact wpAny_pure ⟨rfl, h2, tk, L, es, ep, t, rfl, hS, hg, kp⟩
      · cases r2 with
        | error e => exact hr2
        | ok f2 =>
          cases f2 with
          | ret r =>
            obtain ⟨rfl, h2, tk, L, es, ep, t, rfl, hS, hg, kp⟩ := hr2
            repeat (any_goals (first | assumption | wp_step))
            exact hq _ _ _ _ _ _ hS hg kp
          | _ => exact hr2.elim
    | _ => exact hz.elim
end
section
variable {X : Cx}
def tLenSetT (K : PySem.W.Frag) (ta : TE) : TE := fun σ H Q => ta σ H fun x H1 => ∃ (l : Addr) (ks : List (Addr × List Int)), x = V.ref l ∧ (SqL K H1 l (ks.map fun p => V.ref p.1) ∨ SqT K H1 l (ks.map fun p => V.ref p.1)) ∧ (∀ p ∈ ks, SqT K H1 p.1 (p.2.map V.int)) ∧ ks.length < 64 ∧
  ∀ L : List (List Int), L.Nodup → (∀ k, k ∈ L ↔ k ∈ ks.map (·.2)) → Q (.int L.length) H1
theorem pe_lenSetT {a : Expr} {ta : TE} {p p2 q pos : Pos} (hc : X.calm = true) (hu : X.A.units + 64 < cLine) (hg : Gl X "len") (hm : X.mg "len" = none) (hg2 : Gl X "set") (hm2 : X.mg "set" = none) (ha : PE X a ta)
    (na : starEach [a] X.env = (false, eval a X.env) :: starEach [] X.env := by rfl) : PE X (.Call (.Name "len" p) [.Call (.Name "set" p2) [a] [] q] [] pos) (tLenSetT X.K ta) := by
  refine ⟨fun pins s σ H Q I h => ?_⟩
  refine Call_ (ld_blt I hg hm PySem.boot_len (callWith_builtin1 (args_cons ?_ rfl) rfl rfl))
  refine Call_ (ld_blt I hg2 hm2 boot_set (callWith_type1 (args_cons (thn (ha.run pins s σ H _ I h) fun v s1 ⟨x, H1, I1, r1, q1⟩ => args_nil ?_) na) na rfl))
  obtain ⟨l, ks, rfl, hl, hk, h64, q1⟩ := q1
  cases r1
  have mem : ∀ {L : List (Addr × List Int)}, Got ks ks.length L → ∀ k, k ∈ L.map (·.2) ↔ k ∈ ks.map (·.2) := fun {L} g k => by
    constructor
    · intro h
      obtain ⟨p, hp, rfl⟩ := List.mem_map.mp h
      exact List.mem_map_of_mem (List.mem_of_mem_take (g.sub p hp))
    · intro h
      obtain ⟨p, hp, rfl⟩ := List.mem_map.mp h
      exact g.all p (by rw [List.take_length]; exact hp)
  rcases hl with hl | hl
  · obtain ⟨its, rv, pl, hz⟩ := I1.list hl
    refine call_set_tups ks (I1.ok.hd hc) pl.isList (by simpa using refs_of_vals rv) (fun p hp => I1.isT (hk p hp)) h64 (by omega) fun h2 tk L es ep t R g k => args_nil ?_
    obtain ⟨o, ho, hex, hd⟩ := R.ob
    have I2 : Inv X pins σ H1 { s1 with heap := h2, toks := tk } := I1.kept k
    have hf := R.few
    have hs := SetTR.size (s := { s1 with heap := h2, toks := tk }) R
    have ht := SetTR.fits (s := { s1 with heap := h2, toks := tk }) R
    exact call_len_set ho hex hd ht (by rw [hs]; omega) ⟨.int L.length, H1, I2.tok _, ⟨_, by rw [hs]⟩, by have := q1 (L.map (·.2)) R.nd (mem g); rwa [List.length_map] at this⟩
  · obtain ⟨its, rv, ⟨o, ho, hc2, n, hd⟩, hz⟩ := I1.tuple hl
    refine set_of_tuple ks (I1.ok.hd hc) (xs := its.toArray) ⟨o, ho, hc2, n, hd⟩ (by simpa using refs_of_vals rv) (fun p hp => I1.isT (hk p hp)) h64 (by omega) fun h2 tk L es ep t R g k => args_nil ?_
    obtain ⟨o, ho, hex, hd⟩ := R.ob
    have I2 : Inv X pins σ H1 { s1 with heap := h2, toks := tk } := I1.kept k
    have hf := R.few
    have hs := SetTR.size (s := { s1 with heap := h2, toks := tk }) R
    have ht := SetTR.fits (s := { s1 with heap := h2, toks := tk }) R
    exact call_len_set ho hex hd ht (by rw [hs]; omega) ⟨.int L.length, H1, I2.tok _, ⟨_, by rw [hs]⟩, by have := q1 (L.map (·.2)) R.nd (mem g); rwa [List.length_map] at this⟩
end
end DL

set_option maxHeartbeats 1000000
/-! DY3: len(set(x)) on data. -/
namespace DL
open PySem PySem.Spec L2
open PyProof.Rows hiding St
def intsT : D → Option (List Int)
  | .tuple ds => intsOf ds
  | _ => none
def tupsI : List D → Option (List (List Int))
  | [] => some []
  | d :: ds => (intsT d).bind fun k => (tupsI ds).map (k :: ·)
theorem tupsI_eq : ∀ {ds : List D} {kss : List (List Int)}, tupsI ds = some kss → ds = kss.map fun k => .tuple (k.map .int)
  | [], kss, h => by cases h; rfl
  | d :: ds, kss, h => by
    unfold tupsI at h
    cases e : intsT d with
    | none => rw [e] at h; cases h
    | some k =>
      rw [e] at h
      cases e2 : tupsI ds with
      | none => rw [e2] at h; cases h
      | some l =>
        rw [e2] at h
        cases h
        cases d with
        | tuple xs =>
          have := intsOf_eq (show intsOf xs = some k from e)
          rw [this, tupsI_eq e2]
          rfl
        | _ => cases e
def distL : List (List Int) → List (List Int)
  | [] => []
  | x :: l => if x ∈ distL l then distL l else x :: distL l
theorem distL_mem : ∀ (l : List (List Int)) (x : List Int), x ∈ distL l ↔ x ∈ l
  | [], x => by simp [distL]
  | y :: l, x => by
    unfold distL
    by_cases h : y ∈ distL l
    · rw [if_pos h, distL_mem l, List.mem_cons]
      constructor
      · exact .inr
      · rintro (rfl | h2)
        · exact (distL_mem l _).mp h
        · exact h2
    · rw [if_neg h, List.mem_cons, List.mem_cons, distL_mem l]
theorem distL_nodup : ∀ l : List (List Int), (distL l).Nodup
  | [] => List.nodup_nil
  | y :: l => by
    unfold distL
    by_cases h : y ∈ distL l
    · rw [if_pos h]; exact distL_nodup l
    · rw [if_neg h]; exact List.nodup_cons.mpr ⟨h, distL_nodup l⟩
theorem dist_len {L l : List (List Int)} (hn : L.Nodup) (hm : ∀ k, k ∈ L ↔ k ∈ l) : L.length = (distL l).length :=
  ((List.perm_ext_iff_of_nodup hn (distL_nodup l)).mpr fun k => by rw [hm, distL_mem]).length_eq
def lenSetD : D → Option D
  | .tuple ds => (tupsI ds).bind fun ks => if ks.length < 64 then some (.int ((distL ks).length : Nat)) else none
  | .list ds => (tupsI ds).bind fun ks => if ks.length < 64 then some (.int ((distL ks).length : Nat)) else none
  | _ => none
def lenSetE (f : EF) : EF := bE f fun d => oE (lenSetD d)
section
variable [Mem]
variable {X : Cx} {Er : ErT} {te ta : TE}
theorem dp_tups {K : PySem.W.Frag} {F : Hp} : ∀ {kss : List (List Int)} {vs : List V}, DpAll K F vs (kss.map fun k => .tuple (k.map .int)) → ∃ ks : List (Addr × List Int), vs = ks.map (fun p => V.ref p.1) ∧ ks.map (·.2) = kss ∧ ∀ p ∈ ks, SqT K F p.1 (p.2.map V.int)
  | [], _, h => by cases h; exact ⟨[], rfl, rfl, fun _ h => nomatch h⟩
  | k :: kss, _, h => by
    cases h with
    | cons h1 h2 =>
      obtain ⟨ks, e1, e2, e3⟩ := dp_tups h2
      cases h1 with
      | tup a b =>
        have eb := dpAll_ints b
        subst eb
        refine ⟨(_, k) :: ks, by rw [e1]; rfl, by rw [List.map_cons, e2], fun p hp => ?_⟩
        rcases List.mem_cons.mp hp with rfl | hp
        · exact a
        · exact e3 p hp
theorem de_lenSet {a : Expr} {fa : EF} {p p2 q pos : Pos} (hu : X.A.units + 64 < cLine) (hg : Gl X "len") (hm : X.mg "len" = none) (hg2 : Gl X "set") (hm2 : X.mg "set" = none) (ha : DE X Er a ta fa) (hc : X.calm = true := by rfl)
    (na : starEach [a] X.env = (false, eval a X.env) :: starEach [] X.env := by rfl) : DE X Er (.Call (.Name "len" p) [.Call (.Name "set" p2) [a] [] q] [] pos) (tLenSetT X.K ta) (lenSetE fa) := by
  refine ⟨pe_lenSetT hc hu hg hm hg2 hm2 ha.pe na, fun F H σ ρ Q s st h => ?_⟩
  refine ha.rd F H σ ρ _ s st (Post.imp (Post.bind h) fun F1 H1 d g1 p1 v dv => ?_)
  unfold oE at p1
  have key : ∀ (ds : List D) (kss : List (List Int)) (l : Addr) (vs : List V), tupsI ds = some kss → kss.length < 64 → (SqL X.K H1 l vs ∨ SqT X.K H1 l vs) → DpAll X.K F1 vs ds → (∀ u, Dp X.K F1 u (.int ((distL kss).length : Nat)) → Q u H1) →
      ∃ (l2 : Addr) (ks : List (Addr × List Int)), V.ref l = V.ref l2 ∧ (SqL X.K H1 l2 (ks.map fun p => V.ref p.1) ∨ SqT X.K H1 l2 (ks.map fun p => V.ref p.1)) ∧ (∀ p ∈ ks, SqT X.K H1 p.1 (p.2.map V.int)) ∧ ks.length < 64 ∧
        ∀ L : List (List Int), L.Nodup → (∀ k, k ∈ L ↔ k ∈ ks.map (·.2)) → Q (.int L.length) H1 := fun ds kss l vs e1 e2 e3 e4 e5 => by
    have := tupsI_eq e1
    subst this
    obtain ⟨ks, q1, q2, q3⟩ := dp_tups e4
    subst q1
    refine ⟨l, ks, rfl, e3, fun p hp => same_seqT g1.fh.s (q3 p hp), by rw [← q2, List.length_map] at e2; exact e2, fun L hn hm => ?_⟩
    rw [q2] at hm
    rw [dist_len hn hm]
    exact e5 _ (.int _)
  cases d with
  | tuple ds =>
    cases e1 : tupsI ds with
    | none => simp only [lenSetD, e1] at p1; exact p1.elim
    | some kss =>
      by_cases e2 : kss.length < 64
      · simp only [lenSetD, e1, Option.bind_some, if_pos e2] at p1
        cases dv with
        | tup h1 h2 => exact key ds kss _ _ e1 e2 (.inr (same_seqT g1.fh.s h1)) h2 (Post.now p1 g1.fh)
      · simp only [lenSetD, e1, Option.bind_some, if_neg e2] at p1
        exact p1.elim
  | list ds =>
    cases e1 : tupsI ds with
    | none => simp only [lenSetD, e1] at p1; exact p1.elim
    | some kss =>
      by_cases e2 : kss.length < 64
      · simp only [lenSetD, e1, Option.bind_some, if_pos e2] at p1
        cases dv with
        | lst h1 h2 => exact key ds kss _ _ e1 e2 (.inl (same_seqL g1.fh.s h1)) h2 (Post.now p1 g1.fh)
      · simp only [lenSetD, e1, Option.bind_some, if_neg e2] at p1
        exact p1.elim
  | _ => exact p1.elim
theorem kdlenSet (K : PySem.W.Frag) {a : Expr} {fa : EF} {p p2 q pos : Pos} (hu : X.A.units + 64 < cLine) (hg : Gl X "len") (hm : X.mg "len" = none) (hg2 : Gl X "set") (hm2 : X.mg "set" = none) (ha : DE X Er a ta fa) (hK : X.K = K := by rfl) (hc : X.calm = true := by rfl)
    (na : starEach [a] X.env = (false, eval a X.env) :: starEach [] X.env := by rfl) : DE X Er (.Call (.Name "len" p) [.Call (.Name "set" p2) [a] [] q] [] pos) (tLenSetT K ta) (lenSetE fa) := by
  subst hK
  exact de_lenSet hu hg hm hg2 hm2 ha hc na
theorem kown0 (K : PySem.W.Frag) (mg : Str → Option Value) {CX : CXT} {k : Nat} {f : Addr} {fd : FuncData} {ps : List Str} {g : List D → R D} {E : XK} {x : Str} {p pos : Pos}
    (F : FnOk X.prog X.w K mg X.base CX k f fd ps (spD K mg 0 g)) (hr : Room k X.A) (hg : Gl X x) (hm : mg x = some (.ref f)) (hk : PySem.W.keepIn K (.ref f) = true) (hb : Binds K fd ps []) (hx : Passes CX X E)
    (he : ∀ c H', Er c H' → erX mg E c H') (hd : (x == ("__debug__" : Str)) = false := by decide) (hK : X.K = K := by rfl) (hG : X.mg = mg := by rfl) :
    DE X Er (.Call (.Name x p) [] [] pos) (tCall (spD K mg 0 g) [] E tNil) (ownE g nilA) := by
  subst hK
  subst hG
  exact ⟨pe_call0 F hr hg hm hk hb .nil hx hd, dr_own he args_len0 daq_nil.rd⟩
end
end DL

set_option maxHeartbeats 1000000
/-! DY4: {k: v, l: u}.get(x, y), the keys pairs of ints. -/
namespace DL
open PySem PySem.Spec L2
open PyProof.Rows hiding St
theorem r16 {k : Nat} {A : Around} (r : Room k A) : A.units + 16 < cLine := by have := r.units; omega
abbrev pk (p : Int × Int) : NestedKey := .tup [.num p.1, .num p.2]
def two (k1 k2 : NestedKey) (b1 b2 : Addr) (u1 u2 : Value) : NXs := storedAllH [] [(k1, b1, u1), (k2, b2, u2)]
theorem two_eq (k1 k2 : NestedKey) (b1 b2 : Addr) (u1 u2 : Value) : two k1 k2 b1 b2 u1 u2 = if k1 = k2 then [(k1, b1, u2)] else [(k1, b1, u1), (k2, b2, u2)] := by
  unfold two storedAllH storedH atKey putAt
  by_cases h : k1 = k2
  · subst h; simp
  · simp [h]
theorem two_at (k1 k2 k : NestedKey) (b1 b2 : Addr) (u1 u2 d : Value) : ((atKey (two k1 k2 b1 b2 u1 u2) k).map (·.2)).getD d = if k = k2 then u2 else if k = k1 then u1 else d := by
  rw [two_eq]
  unfold atKey
  by_cases h : k1 = k2
  · subst h
    by_cases h2 : k = k1
    · subst h2; simp
    · simp [h2, Ne.symm h2]
  · by_cases h2 : k = k2
    · subst h2; simp [h]
    · by_cases h3 : k = k1
      · subst h3; simp [h2]
      · simp [h, h2, h3, Ne.symm h2, Ne.symm h3]
theorem two_mem {k1 k2 : NestedKey} {b1 b2 : Addr} {u1 u2 : Value} {x : NestedKey × Addr × Value} (h : x ∈ two k1 k2 b1 b2 u1 u2) : (x.1 = k1 ∧ x.2.1 = b1) ∨ (x.1 = k2 ∧ x.2.1 = b2) := by
  rw [two_eq] at h
  split at h
  · rw [List.mem_singleton] at h; subst h; exact .inl ⟨rfl, rfl⟩
  · rcases List.mem_cons.mp h with rfl | h
    · exact .inl ⟨rfl, rfl⟩
    · rw [List.mem_singleton] at h; subst h; exact .inr ⟨rfl, rfl⟩
section
variable {X : Cx}
def tDsp2 (X : Cx) (t1 s1 t2 s2 ty tx : TE) : TE := fun σ H Q => ∀ p, H p = none → t1 σ (upd H p (dN X.prog X.w p [])) fun k1 H1 => s1 σ H1 fun v1 H2 => t2 σ H2 fun k2 H3 => s2 σ H3 fun v2 H4 => H4 p = some (dN X.prog X.w p []) ∧
  ∃ key1 b1 key2 b2, k1 = .ref b1 ∧ k2 = .ref b2 ∧ NKey X.K H4 key1 b1 ∧ NKey X.K H4 key2 b2 ∧ ∀ u1 u2, RelV v1 u1 → RelV v2 u2 →
    ty σ (upd H4 p (dN X.prog X.w p (two key1 key2 b1 b2 u1 u2))) fun y H5 => tx σ H5 fun z H6 => ∃ key b, y = .ref b ∧ NKey X.K H6 key b ∧ H6 p = some (dN X.prog X.w p (two key1 key2 b1 b2 u1 u2)) ∧ NKey X.K H6 key1 b1 ∧ NKey X.K H6 key2 b2 ∧ Q (if key = key2 then v2 else if key = key1 then v1 else z) H6
theorem pe_dsp2 {k1 v1 k2 v2 e f : Expr} {t1 s1 t2 s2 ty tx : TE} {dpos apos cpos : Pos} (hu : X.A.units + 16 < cLine) (h1 : PE X k1 t1) (g1 : PE X v1 s1) (h2 : PE X k2 t2) (g2 : PE X v2 s2) (he : PE X e ty) (hf : PE X f tx)
    (m : M2 X (.Dict [some k1, some k2] [v1, v2] dpos) "get" apos e f cpos) : PE X (.Call (.Attribute (.Dict [some k1, some k2] [v1, v2] dpos) "get" apos) [e, f] [] cpos) (tDsp2 X t1 s1 t2 s2 ty tx) := by
  refine ⟨fun pins s σ H Q I h => ?_⟩
  have hn := I.hok.fresh (Nat.le_refl s.heap.objs.size)
  have I0 : Inv X pins σ (upd H s.heap.objs.size (dN X.prog X.w s.heap.objs.size [])) { s with heap := s.heap.push { cls := .type "dict", data := .dict #[] } } :=
    I.laid (a := s.heap.objs.size) (o := dN X.prog X.w s.heap.objs.size []) (t' := s.toks) (fun _ _ q => Heap.get?_push_of_some _ q) (Nat.le_refl _)
      (nraw_ok ⟨beq_eq_false_iff_ne.mpr (Ne.symm (Nat.ne_of_lt I.big)), Nat.zero_le _, _, #[], 0, Heap.get?_push_size _ rfl, ⟨rfl, rfl, rfl⟩, rfl, rfl, List.nodup_nil⟩)
  refine wpAny_Call_method m.base m.few m.line PySem.F.plainAttrs_dict PySem.F.slot_dict_get PySem.F.type_dict_get ?_
  rw [arm_eval_Dict, zip_pairTrees [some k1, some k2] [v1, v2] X.env dpos rfl rfl, dictDisplay_pairs _ (by simp [pairTrees]) (by simp [pairTrees])]
  refine wpAny_bind (wpAny_standAt (wpAny_bind (wpAny_subDictH (knd := nestedKind X.prog X.w) (by show X.A.units + 8 < cLine; omega) (by simp [pairTrees]) ?_)))
  refine pairTrees_cons_walk (thn (h1.run pins _ σ _ _ I0 (h _ hn)) fun a1 s1' ⟨x1, H1, I1, r1, q1⟩ => thn (g1.run pins s1' σ H1 _ I1 q1) fun c1 s2' ⟨y1, H2, I2, w1, q2⟩ => ?_)
  refine pairTrees_cons_walk (thn (h2.run pins _ σ _ _ I2 q2) fun a2 s3' ⟨x2, H3, I3, r2, q3⟩ => thn (g2.run pins s3' σ H3 _ I3 q3) fun c2 s4' ⟨y2, H4, I4, w2, q4⟩ => ?_)
  refine pairTrees_nil_walk ?_
  obtain ⟨hp, key1, b1, key2, b2, rfl, rfl, n1, n2, q5⟩ := q4
  obtain rfl : a1 = Value.ref b1 := r1
  obtain rfl : a2 = Value.ref b2 := r2
  obtain ⟨d1, d2, d3⟩ := dictN I4 hp (fun _ h => nomatch h)
  refine ⟨[(key1, b1, c1), (key2, b2, c2)], ⟨rfl, rfl, nkey_is I4 n1, rfl, rfl, nkey_is I4 n2, trivial⟩, d3, fun h' tk dk hs => wpAny_pure ?_⟩
  have hlen : (two key1 key2 b1 b2 c1 c2).length ≤ sizeLine := by
    rw [sizeLine_eq, two_eq]
    split <;> simp
  obtain ⟨q, es, ep, hq, e2, e3, e4, _, e5⟩ := id dk
  have I5 : Inv X pins σ (upd H4 s.heap.objs.size (dN X.prog X.w s.heap.objs.size (two key1 key2 b1 b2 c1 c2))) { s4' with heap := h', toks := tk } :=
    d_write I4 (by rw [hp]; exact True.intro) hs ⟨q, hq⟩ (nraw_ok ⟨d1, hlen, q, es, ep, hq, e2, e3, e4, e5⟩)
  refine ⟨dk.typeIs, fun a ea => by
    cases ea
    exact ⟨q, hq, e2.2.1⟩, ?_⟩
  rw [m.trees]
  refine wpAny_dict_get2_heap (knd := nestedKind X.prog X.w) (by show X.A.units + 1 + 8 < cLine; omega) d1 ?_
  refine thn (he.run pins _ σ _ _ I5 (q5 c1 c2 w1 w2)) fun ky s5 ⟨y, H5, I5', ry, q6⟩ => thn (hf.run pins s5 σ H5 _ I5' q6) fun dv s6 ⟨z, H6, I6, rz, key, b, ey, nk, e6, n1', n2', q7⟩ => ?_
  subst ey
  obtain rfl : ky = Value.ref b := ry
  obtain ⟨_, _, dk6⟩ := dictN I6 e6 (fun x hx => by
    rcases two_mem hx with ⟨z1, z2⟩ | ⟨z1, z2⟩
    · rw [z1, z2]; exact n1'
    · rw [z1, z2]; exact n2')
  refine ⟨b, key, _, rfl, nkey_is I6 nk, dk6, ?_⟩
  rw [two_at]
  refine ⟨_, H6, I6.tok _, ?_, q7⟩
  split
  · exact w2
  · split
    · exact w1
    · exact rz
end
def pairI : D → Option (Int × Int)
  | .tuple [.int a, .int b] => some (a, b)
  | _ => none
theorem pairI_eq {d : D} {p : Int × Int} (h : pairI d = some p) : d = (pk p).data := by
  unfold pairI at h
  split at h
  · cases h; rfl
  · cases h
/-- {k1: v1, k2: v2}.get(k, z) -/
def keys2 (k1 k2 : D) : Option ((Int × Int) × (Int × Int)) := (pairI k1).bind fun p1 => (pairI k2).map fun p2 => (p1, p2)
def dspD (q : (Int × Int) × (Int × Int)) (v1 v2 k z : D) : Option D := (pairI k).map fun p => if p = q.2 then v2 else if p = q.1 then v1 else z
def dspE (f1 g1 f2 g2 fk fz : EF) : EF := bE f1 fun k1 => bE g1 fun v1 => bE f2 fun k2 => bE g2 fun v2 => bE (oE (keys2 k1 k2)) fun q => bE fk fun k => bE fz fun z => oE (dspD q v1 v2 k z)
section
variable [Mem]
variable {X : Cx} {Er : ErT}
theorem Grow.over {F H F' H' : Hp} (s : Wf F H) {p : Addr} {o o' : HO} (hp : H p = none) (g : Grow F (upd H p o) F' H') : Grow F H F' (upd H' p o') ∧ F' p = none ∧ H' p = some o := by
  have nm : ¬ Mem.is p := s.no hp
  have Fp : F' p = none := by
    cases e : F' p with
    | none => rfl
    | some u =>
      have := g.nw p (by rw [e]; simp) (by rw [upd_same]; simp)
      exact absurd (none_of_same s.s hp) this
  refine ⟨⟨g.ff, fun a u n e => ?_, ⟨fun a u e => ?_, fun a z => ?_⟩, fun a h1 h2 => g.nw a h1 ?_⟩, Fp, g.hh p o nm upd_same⟩
  · have ne : a ≠ p := fun z => by rw [z, hp] at e; cases e
    rw [upd_ne ne]
    exact g.hh a u n (by rw [upd_ne ne]; exact e)
  · have ne : a ≠ p := fun z => by rw [z, Fp] at e; cases e
    rw [upd_ne ne]
    exact g.fh.s a u e
  · have ne : a ≠ p := fun e => nm (e ▸ z)
    rw [upd_ne ne]
    exact g.fh.m a z
  · by_cases ha : a = p
    · rw [ha, upd_same]; simp
    · rw [upd_ne ha]; exact h2
theorem nkey_dp {K : PySem.W.Frag} {F : Hp} {v : V} {d : D} {p : Int × Int} (h : Dp K F v d) (e : pairI d = some p) : ∃ b, v = .ref b ∧ NKey K F (pk p) b := by
  have ed := pairI_eq e
  subst ed
  cases h with
  | tup h1 h2 => exact ⟨_, rfl, .tup h1 h2, by simp [NestedKey.depth, NestedKey.depthAll]⟩
theorem pk_eq (p q : Int × Int) : (pk p = pk q) = (p = q) := by
  rw [eq_iff_iff]
  constructor
  · intro h
    injection h with h
    injection h with h1 h2
    injection h2 with h2 _
    injection h1 with h1
    injection h2 with h2
    exact Prod.ext h1 h2
  · intro h; rw [h]
theorem de_dsp {k1 v1 k2 v2 e f : Expr} {t1 s1 t2 s2 ty tx : TE} {f1 g1 f2 g2 fk fz : EF} {dpos apos cpos : Pos} (hu : X.A.units + 16 < cLine) (h1 : DE X Er k1 t1 f1) (j1 : DE X Er v1 s1 g1) (h2 : DE X Er k2 t2 f2) (j2 : DE X Er v2 s2 g2) (he : DE X Er e ty fk) (hf : DE X Er f tx fz)
    (m : M2 X (.Dict [some k1, some k2] [v1, v2] dpos) "get" apos e f cpos := by exact ⟨by rfl, by rfl, by rfl, by rfl⟩) : DE X Er (.Call (.Attribute (.Dict [some k1, some k2] [v1, v2] dpos) "get" apos) [e, f] [] cpos) (tDsp2 X t1 s1 t2 s2 ty tx) (dspE f1 g1 f2 g2 fk fz) := by
  refine ⟨pe_dsp2 hu h1.pe j1.pe h2.pe j2.pe he.pe hf.pe m, fun F H σ ρ Q s st h p hp => ?_⟩
  have s0 : Wf F (upd H p (dN X.prog X.w p [])) := s.upd hp
  have g0 : Grow F H F (upd H p (dN X.prog X.w p [])) := ⟨same_refl _, sameM_of (same_upd hp), s0, fun a h _ => h⟩
  have ge : ∀ {F' H' : Hp}, Grow F (upd H p (dN X.prog X.w p [])) F' H' → Grow F H F' H' := fun g => g0.trans g
  simp only [dspE, bE] at h
  cases r1 : f1 ρ with
  | bad => rw [r1] at h; exact h.elim
  | err c => rw [r1] at h; exact h1.rd F _ σ ρ _ s0 st (by rw [r1]; exact fun F' H' g => h F' H' (ge g))
  | ok d1 =>
  simp only [r1, R.bind_ok] at h
  refine h1.rd F _ σ ρ _ s0 st ?_
  rw [r1]
  intro F1 H1 q1 x1 e1
  cases r2 : g1 ρ with
  | bad => rw [r2] at h; exact h.elim
  | err c => rw [r2] at h; exact j1.rd F1 H1 σ ρ _ q1.fh (st.mono q1.ff) (by rw [r2]; exact fun F' H' g => h F' H' (ge (q1.trans g)))
  | ok c1 =>
  simp only [r2, R.bind_ok] at h
  refine j1.rd F1 H1 σ ρ _ q1.fh (st.mono q1.ff) ?_
  rw [r2]
  intro F2 H2 q2 y1 w1
  have g2' := q1.trans q2
  cases r3 : f2 ρ with
  | bad => rw [r3] at h; exact h.elim
  | err c => rw [r3] at h; exact h2.rd F2 H2 σ ρ _ q2.fh (st.mono g2'.ff) (by rw [r3]; exact fun F' H' g => h F' H' (ge (g2'.trans g)))
  | ok d2 =>
  simp only [r3, R.bind_ok] at h
  refine h2.rd F2 H2 σ ρ _ q2.fh (st.mono g2'.ff) ?_
  rw [r3]
  intro F3 H3 q3 x2 e2
  have g3' := g2'.trans q3
  cases r4 : g2 ρ with
  | bad => rw [r4] at h; exact h.elim
  | err c => rw [r4] at h; exact j2.rd F3 H3 σ ρ _ q3.fh (st.mono g3'.ff) (by rw [r4]; exact fun F' H' g => h F' H' (ge (g3'.trans g)))
  | ok c2 =>
  simp only [r4, R.bind_ok] at h
  refine j2.rd F3 H3 σ ρ _ q3.fh (st.mono g3'.ff) ?_
  rw [r4]
  intro F4 H4 q4 y2 w2
  have gt := g3'.trans q4
  cases e3 : pairI d1 with
  | none => simp only [oE, keys2, e3, Option.bind_none, R.of, R.bind_bad] at h; exact h.elim
  | some a1 =>
  cases e4 : pairI d2 with
  | none => simp only [oE, keys2, e3, e4, Option.bind_some, Option.map_none, R.of, R.bind_bad] at h; exact h.elim
  | some a2 =>
  simp only [oE, keys2, e3, e4, Option.bind_some, Option.map_some, R.of, R.bind_ok] at h
  obtain ⟨_, Fp4, Hp4⟩ := gt.over (o' := .lst []) s hp
  have y1' := dp_mono (same_trans q3.ff q4.ff) c1 y1 w1
  have x1' := dp_mono (same_trans (same_trans q2.ff q3.ff) q4.ff) d1 x1 e1
  have x2' := dp_mono q4.ff d2 x2 e2
  obtain ⟨b1, rfl, n1⟩ := nkey_dp x1' e3
  obtain ⟨b2, rfl, n2⟩ := nkey_dp x2' e4
  refine ⟨Hp4, pk a1, b1, pk a2, b2, rfl, rfl, n1.mono q4.fh.s, n2.mono q4.fh.s, fun u1 u2 z1 z2 => ?_⟩
  obtain ⟨g5, _, _⟩ := gt.over (o' := dN X.prog X.w p (two (pk a1) (pk a2) b1 b2 u1 u2)) s hp
  have np : ¬ Mem.is p := s.no hp
  cases r5 : fk ρ with
  | bad => rw [r5] at h; exact h.elim
  | err c => rw [r5] at h; exact he.rd F4 _ σ ρ _ g5.fh (st.mono gt.ff) (by rw [r5]; exact fun F' H' g => h F' H' (g5.trans g))
  | ok k =>
  simp only [r5, R.bind_ok] at h
  refine he.rd F4 _ σ ρ _ g5.fh (st.mono gt.ff) ?_
  rw [r5]
  intro F5 H5 q5 y ey
  have g6 := g5.trans q5
  cases r6 : fz ρ with
  | bad => rw [r6] at h; exact h.elim
  | err c => rw [r6] at h; exact hf.rd F5 H5 σ ρ _ q5.fh ((st.mono gt.ff).mono q5.ff) (by rw [r6]; exact fun F' H' g => h F' H' (g6.trans g))
  | ok z =>
  simp only [r6, R.bind_ok] at h
  refine hf.rd F5 H5 σ ρ _ q5.fh ((st.mono gt.ff).mono q5.ff) ?_
  rw [r6]
  intro F6 H6 q6 zv ez
  have g7 := g6.trans q6
  cases e5 : pairI k with
  | none => simp only [dspD, e5, Option.map_none] at h; exact h.elim
  | some a =>
  simp only [dspD, e5, Option.map_some] at h
  have q56 := q5.trans q6
  obtain ⟨b, rfl, n⟩ := nkey_dp (dp_mono q6.ff k y ey) e5
  refine ⟨pk a, b, rfl, n.mono q6.fh.s, q56.hh p _ np upd_same, (n1.mono q56.ff).mono q6.fh.s, (n2.mono q56.ff).mono q6.fh.s, ?_⟩
  refine h F6 H6 g7 _ ?_
  simp only [pk_eq]
  by_cases t1 : a = a2
  · rw [if_pos t1, if_pos t1]
    exact dp_mono q56.ff _ _ w2
  · rw [if_neg t1, if_neg t1]
    by_cases t2 : a = a1
    · rw [if_pos t2, if_pos t2]
      exact dp_mono q56.ff _ _ y1'
    · rw [if_neg t2, if_neg t2]
      exact ez
end
end DL

set_option maxHeartbeats 1000000
/-! DY5: a, b, .. = (data or new lists); x.append(y.pop(e)). -/
namespace DL
open PySem PySem.Spec L2
open PyProof.Rows hiding St
variable [Mem]
inductive MV where
  | d (x : D)
  | n (ds : List D)
abbrev MF := Env → R (List MV)
def isNew : MV → Bool
  | .d _ => false
  | .n _ => true
def newA : List MV → List V → List Addr
  | .n _ :: ms, .ref p :: vs => p :: newA ms vs
  | _ :: ms, _ :: vs => newA ms vs
  | _, _ => []
def Mix (K : PySem.W.Frag) (H F' Hn : Hp) : List MV → List V → Prop
  | [], [] => True
  | .d x :: ms, v :: vs => Dp K F' v x ∧ Mix K H F' Hn ms vs
  | .n ds :: ms, v :: vs => (∃ p us, v = .ref p ∧ H p = none ∧ F' p = none ∧ Hn p = some (.lst us) ∧ DpAll K F' us ds ∧ p ∉ newA ms vs) ∧ Mix K H F' Hn ms vs
  | _, _ => False
def DRm (K : PySem.W.Frag) (Er : ErT) (ta : TA) (f : MF) : Prop := ∀ F H σ ρ Q, Wf F H → EnvR K F σ ρ → Post F H Er (f ρ) (fun F' Hn ms => ∀ vs, Mix K H F' Hn ms vs → Q vs Hn) → ta σ H Q
structure DM (X : Cx) (Er : ErT) (es : List Expr) (ta : TA) (f : MF) : Prop where
  pe : PA X es ta
  rd : DRm X.K Er ta f
def nilM : MF := cE []
def consMd (a : EF) (r : MF) : MF := bE a fun x => bE r fun ms => cE (.d x :: ms)
def consMn (a : AF) (r : MF) : MF := bE a fun ds => bE r fun ms => cE (.n ds :: ms)
theorem mix_base {K : PySem.W.Frag} {H H0 F' Hn : Hp} (h : ∀ a, H a = none → H0 a = none) : ∀ {ms : List MV} {vs : List V}, Mix K H F' Hn ms vs → Mix K H0 F' Hn ms vs
  | [], [], _ => trivial
  | .d _ :: _, _ :: _, ⟨a, b⟩ => ⟨a, mix_base h b⟩
  | .n _ :: _, _ :: _, ⟨⟨p, us, e1, e2, e3⟩, b⟩ => ⟨⟨p, us, e1, h p e2, e3⟩, mix_base h b⟩
  | [], _ :: _, h => h.elim
  | .d _ :: _, [], h => h.elim
  | .n _ :: _, [], h => h.elim
theorem mix_over {K : PySem.W.Frag} {H F' Hn H2 : Hp} (h : Same Hn H2) : ∀ {ms : List MV} {vs : List V}, Mix K H F' Hn ms vs → Mix K H F' H2 ms vs
  | [], [], _ => trivial
  | .d _ :: _, _ :: _, ⟨a, b⟩ => ⟨a, mix_over h b⟩
  | .n _ :: _, _ :: _, ⟨⟨p, us, e1, e2, e3, e4, e5⟩, b⟩ => ⟨⟨p, us, e1, e2, e3, h p _ e4, e5⟩, mix_over h b⟩
  | [], _ :: _, h => h.elim
  | .d _ :: _, [], h => h.elim
  | .n _ :: _, [], h => h.elim
theorem mix_new {K : PySem.W.Frag} {H F' Hn : Hp} : ∀ {ms : List MV} {vs : List V}, Mix K H F' Hn ms vs → ∀ q ∈ newA ms vs, H q = none
  | [], [], _, q, h => nomatch h
  | .d _ :: _, .ref _ :: _, ⟨_, b⟩, q, h => mix_new b q h
  | .d _ :: _, .int _ :: _, ⟨_, b⟩, q, h => mix_new b q h
  | .d _ :: _, .bl _ :: _, ⟨_, b⟩, q, h => mix_new b q h
  | .d _ :: _, .str _ :: _, ⟨_, b⟩, q, h => mix_new b q h
  | .d _ :: _, .non :: _, ⟨_, b⟩, q, h => mix_new b q h
  | .d _ :: _, .ty _ :: _, ⟨_, b⟩, q, h => mix_new b q h
  | .n _ :: _, _ :: _, ⟨⟨p, us, e1, e2, e3⟩, b⟩, q, h => by
    subst e1
    rcases List.mem_cons.mp h with rfl | h
    · exact e2
    · exact mix_new b q h
  | [], _ :: _, h, _, _ => h.elim
  | .d _ :: _, [], h, _, _ => h.elim
  | .n _ :: _, [], h, _, _ => h.elim
section
variable {X : Cx} {Er : ErT} {te : TE} {ta tr : TA}
theorem dm_nil : DM X Er [] tNil nilM := ⟨pa_nil, fun F H σ ρ Q s st h => h.now s [] trivial⟩
theorem dm_d {e : Expr} {es : List Expr} {f : EF} {r : MF} (h : DE X Er e te f) (k : DM X Er es tr r) (hs : starEach (e :: es) X.env = (false, eval e X.env) :: starEach es X.env := by rfl) : DM X Er (e :: es) (tCons te tr) (consMd f r) := by
  refine ⟨pa_cons h.pe k.pe hs, fun F H σ ρ Q s st p => ?_⟩
  refine h.rd F H σ ρ _ s st (Post.imp (Post.bind p) fun F1 H1 a g1 p1 v dv => ?_)
  refine k.rd F1 H1 σ ρ _ g1.fh (st.mono g1.ff) (Post.imp (Post.bind p1) fun F2 H2 ms g2 p2 vs mx => ?_)
  exact Post.now p2 g2.fh _ ⟨dp_mono g2.ff a v dv, mix_base (fun a h => grow_none s g1 h) mx⟩
theorem dm_n {e : Expr} {es : List Expr} {f : AF} {r : MF} (h : DN X Er e te f) (k : DM X Er es tr r) (hs : starEach (e :: es) X.env = (false, eval e X.env) :: starEach es X.env := by rfl) : DM X Er (e :: es) (tCons te tr) (consMn f r) := by
  refine ⟨pa_cons h.pe k.pe hs, fun F H σ ρ Q s st p => ?_⟩
  simp only [consMn, bE] at p
  cases r1 : f ρ with
  | bad => rw [r1] at p; exact p.elim
  | err c => rw [r1] at p; exact h.rd F H σ ρ _ s st (by rw [r1]; exact p)
  | ok ds =>
  simp only [r1, R.bind_ok] at p
  refine h.rd F H σ ρ _ s st ?_
  rw [r1]
  intro F1 H1 g1 a us ha dvs
  have g2 : Grow F1 H1 F1 (upd H1 a (.lst us)) := ⟨same_refl _, sameM_of (same_upd ha), g1.fh.upd ha, fun b h1 _ => h1⟩
  have g12 := g1.trans g2
  have na : ¬ Mem.is a := g1.fh.no ha
  have F1a : F1 a = none := none_of_same g1.fh.s ha
  have H0a : H a = none := grow_none s g1 ha
  refine k.rd F1 _ σ ρ _ g2.fh (st.mono g1.ff) ?_
  cases r2 : r ρ with
  | bad => rw [r2] at p; exact p.elim
  | err c => rw [r2] at p; exact fun F' H' g => p F' H' (g12.trans g)
  | ok ms =>
  simp only [r2, R.bind_ok] at p
  intro F2 H2 g3 vs mx
  refine p F2 H2 (g12.trans g3) _ ⟨⟨a, us, rfl, H0a, ?_, g3.hh a _ na upd_same, dpAll_mono g3.ff _ _ dvs, fun hm => ?_⟩, mix_base (fun b hb => grow_none s g12 hb) mx⟩
  · cases e : F2 a with
    | none => rfl
    | some u =>
      have := g3.nw a (by rw [e]; simp) (by rw [upd_same]; simp)
      exact absurd F1a this
  · have := mix_new mx a hm
    rw [upd_same] at this
    cases this
end
/-! the slots take what is told -/
def setMv (ρ : Env) : List Nat → List MV → Env
  | j :: js, .d x :: ms => setMv (ρ.set j (some x)) js ms
  | j :: js, .n ds :: ms => setMv (ρ.set j (some (.list ds))) js ms
  | _, _ => ρ
def setW (w : List Sh) : List Nat → List Bool → List Sh
  | j :: js, b :: bs => setW (w.set j (if b = true then .ls else .fz)) js bs
  | _, _ => w
section
variable {K : PySem.W.Frag} {fr : Fr} {w : List Sh} {F H F' H' : Hp} {σ : St} {ρ : Env}
theorem StR.put {os : Nat → Hp} (s : StR K fr w F H σ ρ os) {i : Nat} {x : Sh} {v : V} {d : D} {o : Hp} (hF : ∀ a, o a ≠ none → F a = none ∧ fr.G a = none ∧ (∀ j, os j a = none) ∧ ¬ Mem.is a) (ho : Same o H) (hr : Hold K F o x v d) (hi : x = .fz ∨ i < w.length) :
    StR K fr (w.set i x) F H (σ.set i (some v)) (ρ.set i (some d)) (fun j => if j = i then o else os j) := by
  refine ⟨s.fh, s.gh, s.f0, s.nw, fun j => ?_, fun j a h1 => ?_, fun j e q => ?_, by simpa using s.len, fun j a h1 => ?_⟩
  · by_cases hj : j = i
    · rw [if_pos hj]; exact ho
    · rw [if_neg hj]; exact s.oh j
  · by_cases hj : j = i
    · rw [if_pos hj] at h1
      obtain ⟨q1, q2, q3, _⟩ := hF a h1
      refine ⟨q1, q2, fun k hk => ?_⟩
      rw [if_neg (fun z => hk (z.trans hj.symm))]
      exact q3 k
    · rw [if_neg hj] at h1
      obtain ⟨q1, q2, q3⟩ := s.ow j a h1
      refine ⟨q1, q2, fun k hk => ?_⟩
      by_cases hki : k = i
      · rw [if_pos hki]
        cases e : o a with
        | none => rfl
        | some u => exact absurd ((hF a (by rw [e]; simp)).2.2.1 j) h1
      · rw [if_neg hki]; exact q3 k hk
  · rcases env_set q with ⟨rfl, rfl, hv⟩ | ⟨ne, q⟩
    · refine ⟨v, by rw [List.getElem?_set_self (by rw [← s.len]; exact hv)], ?_⟩
      rw [if_pos rfl]
      rcases hi with rfl | hi
      · rw [sh_set_fz]; exact hr
      · rw [sh_set_self hi]; exact hr
    · rw [List.getElem?_set_ne ne, sh_set_ne ne, if_neg (Ne.symm ne)]
      exact s.sl j e q
  · by_cases hj : j = i
    · rw [if_pos hj] at h1; exact (hF a h1).2.2.2
    · rw [if_neg hj] at h1; exact s.om j a h1
theorem StR.puts {H0 : Hp} : ∀ {js : List Nat} {ms : List MV} {vs : List V} {w : List Sh} {σ : St} {ρ : Env} {os : Nat → Hp}, StR K fr w F H σ ρ os → js.length = ms.length → (∀ j ∈ js, j < w.length) → Mix K H0 F H ms vs → (∀ q ∈ newA ms vs, fr.G q = none ∧ (∀ j, os j q = none) ∧ ¬ Mem.is q) →
    ∃ os', StR K fr (setW w js (ms.map isNew)) F H (setV σ js vs) (setMv ρ js ms) os'
  | [], [], [], w, σ, ρ, os, s, _, _, _, _ => ⟨os, s⟩
  | j :: js, .d x :: ms, v :: vs, w, σ, ρ, os, s, hl, hj, ⟨a, b⟩, hq => by
    have s1 := s.put (i := j) (x := .fz) (o := emp) (v := v) (d := x) (fun a h => absurd rfl h) (fun a o h => by cases h) (.inl a) (.inl rfl)
    exact StR.puts (js := js) (ms := ms) (vs := vs) s1 (by simpa using hl) (fun k hk => by simpa using hj k (List.mem_cons_of_mem _ hk)) b fun q hq2 => by
      obtain ⟨z1, z2, z3⟩ := hq q (by cases v <;> exact hq2)
      refine ⟨z1, fun k => ?_, z3⟩
      split
      · rfl
      · exact z2 k
  | j :: js, .n ds :: ms, v :: vs, w, σ, ρ, os, s, hl, hj, ⟨⟨p, us, e1, e2, e3, e4, e5, e6⟩, b⟩, hq => by
    subst e1
    obtain ⟨z1, z2, z3⟩ := hq p List.mem_cons_self
    have one : ∀ a, upd emp p (.lst us) a ≠ none → a = p := fun a h => by
      by_cases ha : a = p
      · exact ha
      · rw [upd_ne ha] at h; exact absurd rfl h
    have s1 := s.put (i := j) (x := .ls) (o := upd emp p (.lst us)) (v := .ref p) (d := .list ds) (fun a h => by rw [one a h]; exact ⟨e3, z1, z2, z3⟩) (fun a o h => by
      have := one a (by rw [h]; simp)
      subst this
      rw [upd_same] at h
      rw [e4, h]) ⟨p, us, ds, rfl, rfl, rfl, e5⟩ (.inr (hj j List.mem_cons_self))
    exact StR.puts (js := js) (ms := ms) (vs := vs) s1 (by simpa using hl) (fun k hk => by simpa using hj k (List.mem_cons_of_mem _ hk)) b fun q hq2 => by
      obtain ⟨y1, y2, y3⟩ := hq q (List.mem_cons_of_mem _ hq2)
      refine ⟨y1, fun k => ?_, y3⟩
      split
      · have : q ≠ p := fun z => e6 (z ▸ hq2)
        rw [upd_ne this]; rfl
      · exact y2 k
  | [], _ :: _, _, _, _, _, _, _, h, _, _, _ => by simp at h
  | _ :: _, [], _, _, _, _, _, _, h, _, _, _ => by simp at h
  | [], [], _ :: _, _, _, _, _, _, _, _, h, _ => h.elim
  | _ :: _, .d _ :: _, [], _, _, _, _, _, _, _, h, _ => h.elim
  | _ :: _, .n _ :: _, [], _, _, _, _, _, _, _, h, _ => h.elim
end
section
variable {X : Cx} {Er : ErT} {s0 : Sh} {wl w : List Sh} {ta : TA} {pos : Pos}
def mixS (w : List Sh) (js : List Nat) (f : MF) : SF := fun ρ => runR (f (hidA w ρ)) ρ fun ms => if ms.length ≤ 1000000 then .nx (setMv ρ js ms) else .bad
theorem drs_mix {K : PySem.W.Frag} {js : List Nat} {bs : List Bool} {f : MF} (hw : sh w 0 = s0) (h : DRm K Er ta f) (hk : ∀ ρ ms, f ρ = .ok ms → ms.map isNew = bs) (hl : bs.length = js.length) (hj : ∀ j ∈ js, j < w.length) :
    DRs K Er s0 wl w (setW w js bs) (tAsg (tTup ta) (gTup K js.length (gNames js))) (mixS w js f) := by
  intro fr F H σ ρ Dn st p
  refine h F H σ _ _ st.fh st.envA ?_
  unfold mixS at p
  cases e : f (hidA w ρ) with
  | bad => rw [e] at p; exact p.elim
  | err c =>
    rw [e] at p
    exact fun F' H' gr => p σ F' H' w hw (st.grow gr)
  | ok ms =>
    rw [e, runR_ok] at p
    intro F1 H1 g vs mx
    have hb := hk _ _ e
    have hml : ms.length = js.length := by rw [← hl, ← hb, List.length_map]
    have hvl : ∀ {ms : List MV} {vs : List V}, Mix K H F1 H1 ms vs → vs.length = ms.length := fun {ms} => by
      induction ms with
      | nil => intro vs h; cases vs with
        | nil => rfl
        | cons _ _ => exact h.elim
      | cons m ms ih =>
        intro vs h
        cases vs with
        | nil => cases m <;> exact h.elim
        | cons v vs =>
          cases m with
          | d x => rw [List.length_cons, List.length_cons, ih h.2]
          | n ds => rw [List.length_cons, List.length_cons, ih h.2]
    by_cases hz : ms.length ≤ 1000000
    · rw [if_pos hz] at p
      refine ⟨by rw [hvl mx]; exact sz_of hz, fun t ht => ?_⟩
      refine ⟨t, vs, rfl, .inl (.inl upd_same), by rw [hvl mx, hml], ?_⟩
      refine gNames_ok js vs σ _ (by rw [hvl mx, hml]) ?_
      have g2 : Grow F1 H1 F1 (upd H1 t (.tup vs)) := ⟨same_refl _, sameM_of (same_upd ht), g.fh.upd ht, fun b h1 _ => h1⟩
      have g3 := g.trans g2
      obtain ⟨os, s⟩ := st
      have s1 := s.grow g3
      obtain ⟨os', s2⟩ := s1.puts (H0 := H) (js := js) (ms := ms) (vs := vs) hml.symm hj (mix_over (same_upd ht) mx) fun q hq => by
        have hq0 := mix_new mx q hq
        exact ⟨none_of_sameM s.gh s.fh hq0, fun j => none_of_same (s.oh j) hq0, s.fh.no hq0⟩
      rw [hb] at s2
      exact p _ F1 _ g.ff ⟨os', s2⟩
    · rw [if_neg hz] at p; exact p.elim
theorem s_mix {K : PySem.W.Frag} {es ts : List Expr} {k k2 : Nat} {p1 p2 : Pos} {js : List Nat} (bs : List Bool) {f : MF} (h : DM X Er es ta f) (hg : PGs X ts (gNames js)) (hk : ∀ ρ ms, f ρ = .ok ms → ms.map isNew = bs) (hc : X.calm = true := by rfl) (hl : bs.length = js.length := by rfl) (hj : ∀ j ∈ js, j < w.length := by decide) (hw : sh w 0 = s0 := by rfl)
    (hn : (assignEach ts X.env).length = js.length := by rfl) (hst : (assignEach ts X.env).findIdx? (·.1) = none := by rfl)
    (hs : swapsWithSole [.Tuple ts k p1] (.Tuple es k2 p2) pos.line X.env = pure false := by rfl) (hsw : swappedStores [.Tuple ts k p1] (.Tuple es k2 p2) X.env = pure none := by rfl)
    (h1 : (assignEach [.Tuple ts k p1] X.env).map (·.2) = [assign (.Tuple ts k p1) X.env] := by rfl) :
    D1 X Er s0 wl w (.Assign [.Tuple ts k p1] (.Tuple es k2 p2) pos) (setW w js bs) (tAsg (tTup ta) (gTup X.K js.length (gNames js))) (mixS w js f) :=
  ⟨ps_asg (pe_tup h.pe) (pg_tup hc hg hn hst) hs hsw h1, drs_mix hw h.rd hk hl hj⟩
theorem mk_nil : ∀ ρ ms, nilM ρ = .ok ms → ms.map isNew = [] := fun ρ ms h => by cases h; rfl
theorem mk_d {a : EF} {r : MF} {bs : List Bool} (h : ∀ ρ ms, r ρ = .ok ms → ms.map isNew = bs) : ∀ ρ ms, consMd a r ρ = .ok ms → ms.map isNew = false :: bs := fun ρ ms e => by
  simp only [consMd, bE] at e
  cases h1 : a ρ with
  | ok x =>
    simp only [h1, R.bind_ok] at e
    cases h2 : r ρ with
    | ok xs => simp only [h2, R.bind_ok, cE] at e; cases e; simp [h ρ xs h2, isNew]
    | err c => simp only [h2] at e; cases e
    | bad => simp only [h2] at e; cases e
  | err c => simp only [h1] at e; cases e
  | bad => simp only [h1] at e; cases e
theorem mk_n {a : AF} {r : MF} {bs : List Bool} (h : ∀ ρ ms, r ρ = .ok ms → ms.map isNew = bs) : ∀ ρ ms, consMn a r ρ = .ok ms → ms.map isNew = true :: bs := fun ρ ms e => by
  simp only [consMn, bE] at e
  cases h1 : a ρ with
  | ok x =>
    simp only [h1, R.bind_ok] at e
    cases h2 : r ρ with
    | ok xs => simp only [h2, R.bind_ok, cE] at e; cases e; simp [h ρ xs h2, isNew]
    | err c => simp only [h2] at e; cases e
    | bad => simp only [h2] at e; cases e
  | err c => simp only [h1] at e; cases e
  | bad => simp only [h1] at e; cases e
/-! x.append(y.pop(e)) -/
def popO (ρ : Env) (i j : Nat) (ds es : List D) (k : Nat) : Option D → Out
  | some d => if ds.length < 1000000 then .nx ((ρ.set j (some (.list (es.eraseIdx k)))).set i (some (.list (ds ++ [d])))) else .bad
  | none => .bad
def popK (ρ : Env) (i j : Nat) (ds es : List D) : D → Out
  | .int z => if 0 ≤ z ∧ z < es.length ∧ z < 1000000 then popO ρ i j ds es z.toNat es[z.toNat]? else .bad
  | _ => .bad
def popApp (w : List Sh) (i j : Nat) (fe : EF) : SF := fun ρ => lsAt ρ i fun ds => lsAt ρ j fun es => runR (fe (hidO w ρ)) ρ fun d => popK ρ i j ds es d
theorem lsAt_is {ρ : Env} {i : Nat} {k : List D → Out} (h : lsAt ρ i k ≠ .bad) : ∃ ds, ρ[i]? = some (some (.list ds)) ∧ lsAt ρ i k = k ds := by
  unfold lsAt at h ⊢
  split at h
  · rename_i ds e
    exact ⟨ds, e, rfl⟩
  · exact absurd rfl h
theorem seqIx {z : Int} {n : Nat} (h0 : 0 ≤ z) (h1 : z < n) : seqIndex? z n = some z.toNat := by
  unfold seqIndex?
  simp
  omega
theorem drs_popApp {K : PySem.W.Frag} {te : TE} {i j : Nat} {fe : EF} (hij : i ≠ j) (hi : sh w i = .ls) (hj : sh w j = .ls) (hw : sh w 0 = s0) (h : DRd K Er te fe) :
    DRs K Er s0 wl w w (tDrop (tBM K "list" rAppend (tVar i) (tCons (tBM K "list" rPopAt (tVar j) (tCons te tNil)) tNil))) (popApp w i j fe) := by
  intro fr F H σ ρ Dn st p
  unfold popApp at p
  obtain ⟨a, vs, ds, e1, q1, q2, q3, q4, p⟩ := lsAt_post hi st p
  obtain ⟨b, us, es, f1, r1, r2, r3, r4, p⟩ := lsAt_post hj st p
  refine ⟨_, q1, .inl ⟨rfl, _, SqL.of q2⟩, ?_⟩
  refine ⟨_, r1, .inl ⟨rfl, _, SqL.of r2⟩, ?_⟩
  refine runV' (te := te) hw h st p fun d v F1 H1 s1 st1 du dv p1 => ?_
  unfold popK at p1
  cases d with
  | int z =>
    have ev := du z rfl
    subst ev
    simp only at p1
    by_cases hz : 0 ≤ z ∧ z < es.length ∧ z < 1000000
    · rw [if_pos hz] at p1
      obtain ⟨us1, y1, y2, y3⟩ := ls_again hj st1 f1 r1
      have hul : us1.length = es.length := dpAll_len y2
      cases hk : es[z.toNat]? with
      | none => rw [hk] at p1; exact p1.elim
      | some x =>
        rw [hk] at p1
        unfold popO at p1
        simp only at p1
        by_cases hd : ds.length < 1000000
        · rw [if_pos hd] at p1
          obtain ⟨u, hu, du⟩ := dpAll_get y2 hk
          have er : ∀ {us : List V} {es : List D} (k : Nat), DpAll K F1 us es → DpAll K F1 (us.eraseIdx k) (es.eraseIdx k) := fun {us es} k => by
            induction us generalizing es k with
            | nil => intro h; cases h; exact .nil
            | cons u us ih =>
              intro h
              cases h with
              | cons h1 h2 =>
                cases k with
                | zero => exact h2
                | succ k => exact .cons h1 (ih k h2)
          have st2 := y3 _ _ (er z.toNat y2)
          refine ⟨b, us1, z, z.toNat, u, rfl, rfl, y1, by omega, ?_, by rw [hul]; exact seqIx hz.1 hz.2.1, hu, ?_⟩
          · omega
          · have e2 : (ρ.set j (some (.list (es.eraseIdx z.toNat))))[i]? = some (some (.list ds)) := by rw [List.getElem?_set_ne (Ne.symm hij)]; exact e1
            obtain ⟨vs2, x1, x2, x3⟩ := ls_again hi st2 e2 q1
            refine ⟨a, vs2, u, rfl, rfl, x1, sz_lt (by rw [dpAll_len x2]; exact hd), ?_⟩
            exact p1 _ F1 _ (same_refl _) (x3 _ _ (dpAll_app x2 (.cons du .nil)))
        · rw [if_neg hd] at p1; exact p1.elim
    · rw [if_neg hz] at p1; exact p1.elim
  | _ => exact p1.elim
theorem s_popApp (i j : Nat) {x y : Str} {e : Expr} {p1 p2 p3 p4 p5 p6 : Pos} {te : TE} {fe : EF} (h : DE X Er e te fe) (hij : i ≠ j := by decide) (hi : sh w i = .ls := by rfl) (hj : sh w j = .ls := by rfl) (hN : X.N[i]? = some x := by rfl) (hM : X.N[j]? = some y := by rfl)
    (hv : Vis X.env.scope x := by first | exact Or.inl rfl | exact Or.inr (Or.inl rfl) | exact Or.inr (Or.inr rfl)) (hv2 : Vis X.env.scope y := by first | exact Or.inl rfl | exact Or.inr (Or.inl rfl) | exact Or.inr (Or.inr rfl)) (hw : sh w 0 = s0 := by rfl)
    (hs : swapsWith (.Call (.Attribute (.Name x p1) "append" p2) [.Call (.Attribute (.Name y p4) "pop" p5) [e] [] p6] [] p3) none pos.line X.env = pure false := by rfl) (hbase : attributeBase (.Name x p1) "append" X.env (eval (.Name x p1) X.env) = eval (.Name x p1) X.env := by rfl)
    (hfew : ((backTo p3 (starEach [.Call (.Attribute (.Name y p4) "pop" p5) [e] [] p6] X.env)).all (fun x => !x.1) && (backToKw p3 (keywordEach [] X.env)).all (fun x => x.1.isSome) && decide (([.Call (.Attribute (.Name y p4) "pop" p5) [e] [] p6] : List Expr).length + ([] : List Keyword).length + (if ([] : List Keyword).isEmpty then 0 else 1) < 30)) = true := by rfl)
    (hline : (p2.endLine == p3.line) = true := by rfl) (hst : starEach [.Call (.Attribute (.Name y p4) "pop" p5) [e] [] p6] X.env = (false, eval (.Call (.Attribute (.Name y p4) "pop" p5) [e] [] p6) X.env) :: starEach [] X.env := by rfl) (hplain : (backTo p3 (starEach [] X.env)).any (·.1) = false := by rfl)
    (hbase2 : attributeBase (.Name y p4) "pop" X.env (eval (.Name y p4) X.env) = eval (.Name y p4) X.env := by rfl)
    (hfew2 : ((backTo p6 (starEach [e] X.env)).all (fun x => !x.1) && (backToKw p6 (keywordEach [] X.env)).all (fun x => x.1.isSome) && decide (([e] : List Expr).length + ([] : List Keyword).length + (if ([] : List Keyword).isEmpty then 0 else 1) < 30)) = true := by rfl)
    (hline2 : (p5.endLine == p6.line) = true := by rfl) (hst2 : starEach [e] X.env = (false, eval e X.env) :: starEach [] X.env := by rfl) (hplain2 : (backTo p6 (starEach [] X.env)).any (·.1) = false := by rfl)
    (hd : (x == ("__debug__" : Str)) = false := by decide) (hcd : (x == ("__classdict__" : Str)) = false := by decide) (hd2 : (y == ("__debug__" : Str)) = false := by decide) (hcd2 : (y == ("__classdict__" : Str)) = false := by decide) :
    D1 X Er s0 wl w (.Expr (.Call (.Attribute (.Name x p1) "append" p2) [.Call (.Attribute (.Name y p4) "pop" p5) [e] [] p6] [] p3) pos) w (tDrop (tBM X.K "list" rAppend (tVar i) (tCons (tBM X.K "list" rPopAt (tVar j) (tCons te tNil)) tNil))) (popApp w i j fe) :=
  ⟨ps_expr (pe_bm PySem.F.plainAttrs_list PySem.F.slot_list_append PySem.F.type_list_append mt_append (pe_var hN hv hd hcd) (pa_cons (pe_bm PySem.F.plainAttrs_list PySem.F.slot_list_pop PySem.F.type_list_pop mt_popAt (pe_var hM hv2 hd2 hcd2) (pa_cons h.pe pa_nil hst2) hbase2 hfew2 hline2 hst2 hplain2) pa_nil hst) hbase hfew hline hst hplain) hs, drs_popApp hij hi hj hw h.rd⟩
end
end DL

set_option maxHeartbeats 1000000
/-! DY6: C.m(x, ..), m a def of the class C, called by it. -/
namespace DL
open PySem PySem.Spec L2
open PyProof.Rows hiding St
/-- a def of a class, as the class tells it -/
structure CfI (K : PySem.W.Frag) (mg : Str → Option Value) (x m q : Str) (st : Stmt) (ps : List Str) where
  C : Addr
  f : Addr
  fd : FuncData
  F : Fun K m q st f fd
  g : mg x = some (.ref C)
  mc : Value
  ga : PySem.W.specialIn K (.ref C) "__getattribute__" = some (some (.builtin "type.__getattribute__"))
  rd : PySem.W.readsIn K C mc = true
  at_ : PySem.W.findCls K (.ref C) mc m = some (.val (.ref f))
  kp : PySem.W.keepIn K (.ref f) = true
  b : Binds K fd ps []
section
variable {X : Cx} {CX : CXT} {k : Nat} {C f : Addr} {mc : Value} {fd : FuncData} {ps : List Str} {sp : Sp} {E : XK} {x m : Str} {e : Expr} {es : List Expr} {p apos pos : Pos} {t : TA} {pl : Sem Bool}
theorem pe_clsCall (hg : Gl X x) (hmx : X.mg x = some (.ref C)) (ga : PySem.W.specialIn X.K (.ref C) "__getattribute__" = some (some (.builtin "type.__getattribute__"))) (rd : PySem.W.readsIn X.K C mc = true)
    (at_ : PySem.W.findCls X.K (.ref C) mc m = some (.val (.ref f))) (hk : PySem.W.keepIn X.K (.ref f) = true) (F : FnOk X.prog X.w X.K X.mg X.base CX k f fd ps sp) (hr : Room k X.A) (hb : Binds X.K fd ps []) (hx : Passes CX X E)
    (ha : PA X (e :: es) t) (hdb : (x == ("__debug__" : Str)) = false := by decide) (hst : starEach (e :: es) X.env = (false, eval e X.env) :: starEach es X.env := by rfl) (hpl : (backTo pos (starEach es X.env)).any (·.1) = false := by rfl)
    (ht : eval (.Call (.Attribute (.Name x p) m apos) (e :: es) [] pos) X.env = (do
      let ov ← eval (.Name x p) X.env
      standAt apos.atName
      let (f, first) ← holding [ov] (getMethod ov m pl)
      callWith pos f first (backTo pos (starEach (e :: es) X.env)) (backToKw pos (keywordEach [] X.env))) := by rfl) :
    PE X (.Call (.Attribute (.Name x p) m apos) (e :: es) [] pos) (tCall sp [] E t) := by
  refine ⟨fun pins s σ H Q I h => ?_⟩
  refine PySem.W.methodCall_KW (pl := pl) (ld_glob I hg hmx ?_ hdb) ht
  refine PySem.W.method_cls I.kIn ga (PySem.W.cls_value I.kIn rd at_ rfl ?_)
  refine PySem.W.callWith_K (first := []) (h₀ := X.base) I.ok.mod.kin hk (thn (ha.run pos pins { s with toks := s.toks + 1 } σ H _ (I.tok _) h) fun us s2 ⟨vs, H2, I2, r, q2⟩ => ⟨I2.kIn, ?_⟩) hst hpl
  exact run_fn F hr hb .nil hx I2 r q2
end
section
variable [Mem]
variable {X : Cx} {Er : ErT} {ta : TA}
theorem kclsq (K : PySem.W.Frag) (mg : Str → Option Value) {pl : Sem Bool} {CX : CXT} {k n : Nat} {E : XK} {x m q : Str} {st : Stmt} {ps : List Str} {g : List D → R D} {p apos pos : Pos} {e : Expr} {es : List Expr} {fa : AF} (T : CfI K mg x m q st ps)
    (F : FnOk X.prog X.w K mg X.base CX k T.f T.fd ps (spD K mg n g)) (hr : Room k X.A) (hg : Gl X x) (hx : Passes CX X E)
    (he : ∀ c H', Er c H' → erX mg E c H') (ha : DAq X Er (e :: es) ta fa) (hn : ∀ ρ ds, fa ρ = .ok ds → ds.length = n)
    (hd : (x == ("__debug__" : Str)) = false := by decide) (hs : starEach (e :: es) X.env = (false, eval e X.env) :: starEach es X.env := by rfl) (hpl : (backTo pos (starEach es X.env)).any (·.1) = false := by rfl) (hK : X.K = K := by rfl) (hG : X.mg = mg := by rfl)
    (ht : eval (.Call (.Attribute (.Name x p) m apos) (e :: es) [] pos) X.env = (do
      let ov ← eval (.Name x p) X.env
      standAt apos.atName
      let (f, first) ← holding [ov] (getMethod ov m pl)
      callWith pos f first (backTo pos (starEach (e :: es) X.env)) (backToKw pos (keywordEach [] X.env))) := by rfl) :
    DE X Er (.Call (.Attribute (.Name x p) m apos) (e :: es) [] pos) (tCall (spD K mg n g) [] E ta) (ownE g fa) := by
  subst hK; subst hG
  exact ⟨pe_clsCall hg T.g T.ga T.rd T.at_ T.kp F hr T.b hx ha.pe hd hs hpl ht, dr_own he hn ha.rd⟩
end
end DL

set_option maxHeartbeats 1000000
/-! DY7: a loop over an own call whose arguments read owned lists; a new list made of what owned lists hold. -/
namespace DL
open PySem PySem.Spec L2
open PyProof.Rows hiding St
variable [Mem]
theorem noListA_all {W F : Hp} {K : PySem.W.Frag} (hW : ∀ v d, noList d = true → Dp K W v d → Dp K F v d) : ∀ (ds : List D) (vs : List V), noListA ds = true → DpAll K W vs ds → DpAll K F vs ds
  | [], _, _, h => by cases h; exact .nil
  | d :: ds, _, n, h => by
    cases h with
    | cons h1 h2 =>
      rw [noListA, Bool.and_eq_true] at n
      exact .cons (hW _ d n.1 h1) (noListA_all hW ds _ n.2 h2)
def newB (w : List Sh) (i : Nat) (f : AF) : SF := fun ρ => runR (f (hidO w ρ)) ρ fun ds => if noListA ds = true then .nx (ρ.set i (some (.list ds))) else .bad
def forO (w : List Sh) (fa : AF) (g : List D → R D) (tgf : TGF) (body : SF) (ks : List Nat) : SF := fun ρ => runR (fa (hidO w ρ)) ρ fun ds => if noListA ds = true then runR (g ds) ρ fun d => (match seqOf d with
  | some xs => forL tgf body ks xs (killE ρ ks)
  | none => .bad) else .bad
section
variable {X : Cx} {Er : ErT} {s0 : Sh} {wl w w1 w2 w' : List Sh} {t u : TS} {f g : SF} {te : TE} {ta : TA} {tt : TT} {K : PySem.W.Frag} {st : Stmt} {rest sts : List Stmt} {pos : Pos}
theorem runNV {fr : Fr} {F H : Hp} {σ : St} {ρ : Env} {Dn : Ends} {fe : AF} {k : List D → Out} {Q : VK} (hw : sh w 0 = s0) (h : DRn K Er te fe) (st : SR K fr w F H σ ρ) (p : PostS K fr s0 wl w' F Er (runR (fe (hidO w ρ)) ρ k) Dn)
    (q : ∀ ds p vs F1 H1, Same F F1 → SR K fr w F1 H1 σ ρ → H1 p = none → (noListA ds = true → DpAll K F1 vs ds) → PostS K fr s0 wl w' F1 Er (k ds) Dn → Q (.ref p) (upd H1 p (.lst vs))) : te σ H Q := by
  obtain ⟨W, s1, s2, env, fin⟩ := st.view
  refine h W H σ _ _ s2 env ?_
  cases e : fe (hidO w ρ) with
  | ok d =>
    rw [e, runR_ok] at p
    intro W' H' gr a vs ha dv
    obtain ⟨F', s3, st', hd⟩ := fin W' H' gr
    exact q d a vs F' H' s3 st' ha (fun n => noListA_all hd d vs n dv) (PostS.mono p s3)
  | err c =>
    rw [e] at p
    intro W' H' gr
    obtain ⟨F', s3, st', _⟩ := fin W' H' gr
    exact p σ F' H' w hw st'
  | bad => rw [e] at p; exact p
theorem drs_newB {i : Nat} {fe : AF} (hw : sh w 0 = s0) (hi : i < w.length) (h : DRn K Er te fe) : DRs K Er s0 wl w (w.set i .ls) (tAsg te (gName i)) (newB w i fe) := fun fr F H σ ρ Dn st p =>
  runNV (te := te) hw h st p fun ds a vs F1 H1 s1 st1 ha dv p1 => by
    by_cases n : noListA ds = true
    · rw [if_pos n] at p1
      exact p1 _ F1 _ (same_refl _) (st1.set_ls ha (dv n) hi)
    · rw [if_neg n] at p1
      exact p1.elim
theorem s_newB (i : Nat) {x : Str} {e : Expr} {pos' : Pos} {fe : AF} (hN : X.N.Nodup) (h : DN X Er e te fe) (hi : X.N[i]? = some x := by rfl) (hx : Loc X.env.scope x := by first | exact Or.inl rfl | exact Or.inr rfl) (hl : i < w.length := by decide) (hw : sh w 0 = s0 := by rfl) (hs : swapsWith e (some (.Name x pos')) pos.line X.env = pure false := by rfl) (hf : X.fn x = true ∨ X.env.scope.names.lookup x = some .local := by first | exact .inl rfl | exact .inr rfl | assumption) :
    D1 X Er s0 wl w (.Assign [.Name x pos'] e pos) (w.set i .ls) (tAsg te (gName i)) (newB w i fe) := ⟨ps_set hN hi hx h.pe hs hf, drs_newB hw hl h.rd⟩
theorem d_newLcB {i : Nat} {fe : AF} (h : PS X st (tAsg te (gName i)) ∧ DRn X.K Er te fe) (hl : i < w.length := by decide) (hw : sh w 0 = s0 := by rfl) : D1 X Er s0 wl w st (w.set i .ls) (tAsg te (gName i)) (newB w i fe) := ⟨h.1, drs_newB hw hl h.2⟩
/-- for .. in m(..), the arguments read owned lists -/
theorem d_forO (K : PySem.W.Frag) {tg : Expr} {body : List Stmt} {g : TG} {tgf : TGF} {js ks : List Nat} {tb' : TS} {fb : SF} {mg : Str → Option Value} {CX : CXT} {k n : Nat} {f : Addr} {fd : FuncData} {ps : List Str} {gm : List D → R D} {E : XK} {x : Str} {p cpos : Pos} {e : Expr} {es : List Expr} {fa : AF}
    (hp : PassesOwn (model X.prog X.w) X.A X.env X.xe) (hc : X.calm = true)
    (F0 : FnOk X.prog X.w K mg X.base CX k f fd ps (spD K mg n gm)) (hr : Room k X.A) (hgl : Gl X x) (hm : mg x = some (.ref f)) (hk : PySem.W.keepIn K (.ref f) = true) (hbi : Binds K fd ps []) (hx : Passes CX X E)
    (he : ∀ c H', Er c H' → erX mg E c H') (ha : DA X Er (e :: es) ta fa) (hn : ∀ ρ ds, fa ρ = .ok ds → ds.length = n)
    (hg : TG1 X tg g tgf js) (hj : ∀ j ∈ js, sh w j = .fz)
    (hb : DS X Er s0 w w body w tb' fb) (hw : sh w 0 = s0 := by rfl) (hd : (x == ("__debug__" : Str)) = false := by decide) (hse : starEach (e :: es) X.env = (false, eval e X.env) :: starEach es X.env := by rfl) (hpl : (backTo cpos (starEach es X.env)).any (·.1) = false := by rfl)
    (hK : X.K = K := by rfl) (hG : X.mg = mg := by rfl)
    (hs : ∀ y, foldedSetIterable (.Call (.Name x p) (e :: es) [] cpos) X.env y = pure y := by intro _; rfl) :
    D1 X Er s0 wl w (.For tg (.Call (.Name x p) (e :: es) [] cpos) body [] pos) w (tFor (iSeq K (tCall (spD K mg n gm) [] E ta)) g tb') (forO w fa gm tgf fb ks) := by
  subst hK; subst hG
  refine ⟨ps_for hp hc (pi_seq (pe_call F0 hr hgl hm hk hbi .nil hx ha.pe hd hse hpl)) hg.pg hb.ps hs, fun fr F H σ ρ Dn st p => ?_⟩
  obtain ⟨W, s1, s2, env, fin⟩ := st.view
  refine ha.rd W H σ _ _ s2 env ?_
  unfold forO at p
  cases e1 : fa (hidO w ρ) with
  | err c =>
    rw [e1] at p
    intro W' H' gr
    obtain ⟨F', s3, st', _⟩ := fin W' H' gr
    exact p σ F' H' w hw st'
  | bad => rw [e1] at p; exact p
  | ok as =>
  rw [e1, runR_ok] at p
  intro W' H' gr vs dvs
  obtain ⟨F0', s3, st0, hdrop⟩ := fin W' H' gr
  by_cases nl : noListA as = true
  case neg => rw [if_neg nl] at p; exact p.elim
  rw [if_pos nl] at p
  rw [List.append_nil]
  have dvs' := noListA_all hdrop as vs nl dvs
  refine ⟨by rw [dpAll_len dvs']; exact hn _ as e1, ‹Mem›, F0', as, st0.fh, dqAll_of dvs', ?_⟩
  have p := PostS.mono p s3
  cases e2 : gm as with
  | bad => rw [e2] at p; exact p
  | err c =>
    rw [e2] at p
    exact fun F' H'' g => he c H'' (p σ F' H'' w hw (st0.grow g))
  | ok d =>
  rw [e2, runR_ok] at p
  intro F1 H1 gr1 v dv
  have hx : ∃ ds J, seqOf d = some ds ∧ DIt X.K J F1 ds ∧ ∃ a, v = .ref a ∧ (((∃ xs, SqL X.K H1 a xs) ∧ J = Itl X.K a) ∨ ((∃ xs, SqT X.K H1 a xs) ∧ J = Itt X.K a)) := by
    cases dv with
    | lst h1 h2 => exact ⟨_, _, rfl, dit_list h1 h2, _, rfl, .inl ⟨⟨_, same_seqL gr1.fh.s h1⟩, rfl⟩⟩
    | tup h1 h2 => exact ⟨_, _, rfl, dit_tup h1 h2, _, rfl, .inr ⟨⟨_, same_seqT gr1.fh.s h1⟩, rfl⟩⟩
    | _ => exact p.elim
  obtain ⟨ds, J, e3, dit, a, rfl, hJ⟩ := hx
  rw [e3] at p
  refine ⟨a, rfl, ?_⟩
  rcases hJ with ⟨h1, rfl⟩ | ⟨h1, rfl⟩
  refine .inl ⟨h1, ?_⟩
  rotate_left
  refine .inr ⟨h1, ?_⟩
  all_goals
    refine ⟨fun i m σ H => m = ds.length - i ∧ i ≤ ds.length ∧ ∃ F' ρ, Same F1 F' ∧ SR X.K fr w F' H σ ρ ∧ PostS X.K fr s0 wl w F' Er (forL tgf fb ks (ds.drop i) ρ) Dn, ⟨ds.length, by simp, Nat.zero_le _, F1, _, same_refl _, (st0.grow gr1).kill ks, by simpa using PostS.mono p gr1.ff⟩, ?_⟩
    rintro i m σ2 H2 ⟨rfl, hle, F2, ρ2, s2, st2, p2⟩
    by_cases hlt : i < ds.length
    · refine .inr ⟨dit.go i F2 H2 s2 st2.fh hlt, _, fun σ' H' h => ⟨ds.length - (i + 1), by omega, h⟩, fun x H3 y => ?_⟩
      obtain ⟨d, hd⟩ : ∃ d, ds[i]? = some d := ⟨ds[i], by simp [hlt]⟩
      have hdrop : ds.drop i = d :: ds.drop (i + 1) := by
        obtain ⟨h1, h2⟩ := List.getElem?_eq_some_iff.mp hd
        rw [← h2]
        exact List.drop_eq_getElem_cons hlt
      rw [hdrop] at p2
      obtain ⟨F3, gy, dx⟩ := dit.yld i F2 H2 x H3 d s2 st2.fh hd y
      have st3 := st2.grow gy
      have p3 := PostS.mono p2 gy.ff
      unfold forL at p3
      cases eas : tgf d with
      | none => simp only [eas] at p3; exact p3.elim
      | some as =>
        simp only [eas] at p3
        refine hg.rd F3 H3 x d as σ2 _ gy.fh dx eas fun us hus hjs => ?_
        have st4 := st3.setMany (as := as) (by rw [hjs]; exact hj) hus
        rw [hjs] at st4
        exact hb.rd fr F3 H3 _ _ _ st4 (post_for p3 fun σ' F' H' ρ' s' st' q => ⟨rfl, hlt, F', ρ', same_trans (same_trans s2 gy.ff) s', st', q⟩)
    · have e : i = ds.length := by omega
      subst e
      rw [List.drop_length] at p2
      exact .inl ⟨dit.stop F2 H2 s2 st2.fh, p2 σ2 F2 H2 (same_refl _) st2⟩
end
end DL

set_option maxHeartbeats 1000000
/-! DZ1: min(list of pairs of ints). -/
namespace DL
open PySem PySem.Spec L2
open PyProof.Rows hiding St
def ltI (p q : Int × Int) : Bool := decide (p.1 < q.1 ∨ (p.1 = q.1 ∧ p.2 < q.2))
def minI (p : Int × Int) (ps : List (Int × Int)) : Int × Int := ps.foldl (fun a y => if ltI y a = true then y else a) p
theorem dataLt_pair (p q : Int × Int) : PySem.W.dataLt (pairD p) (pairD q) = ltI p q := by
  have e : ∀ a b : Int, itemLt (Sum.inl a) (Sum.inl b) = decide (a < b) := fun a b => rfl
  have h : PySem.W.dataLt (pairD p) (pairD q) = PyProof.Rows.lexLt itemOrd [Sum.inl 1, Sum.inl p.1, Sum.inl 1, Sum.inl p.2, Sum.inl 0] [Sum.inl 1, Sum.inl q.1, Sum.inl 1, Sum.inl q.2, Sum.inl 0] := rfl
  rw [h]
  have n : PyProof.Rows.lexLt itemOrd [] [] = false := rfl
  rw [lex_cons, lex_cons, lex_cons, lex_cons, lex_cons, n]
  simp only [e]
  unfold ltI
  have h0 : ¬ (1 : Int) < 1 := by decide
  have h00 : ¬ (0 : Int) < 0 := by decide
  simp only [h0, h00, decide_false, Bool.not_false, Bool.true_and, Bool.false_or, Bool.and_false, Bool.or_false]
  by_cases h1 : p.1 < q.1
  · have h2 : p.1 < q.1 ∨ p.1 = q.1 ∧ p.2 < q.2 := .inl h1
    rw [decide_eq_true h1, decide_eq_true h2]
    exact Bool.true_or _
  · by_cases h3 : q.1 < p.1
    · have h2 : ¬ (p.1 < q.1 ∨ p.1 = q.1 ∧ p.2 < q.2) := by omega
      rw [decide_eq_false h1, decide_eq_true h3, decide_eq_false h2]
      rfl
    · rw [decide_eq_false h1, decide_eq_false h3]
      simp only [Bool.false_or, Bool.not_false, Bool.true_and]
      exact decide_eq_decide.mpr (by omega)
theorem minD_pairs (p : Int × Int) (ps : List (Int × Int)) : PySem.W.minD (pairD p) (ps.map pairD) = pairD (minI p ps) := by
  unfold PySem.W.minD minI
  induction ps generalizing p with
  | nil => rfl
  | cons q ps ih =>
    rw [List.map_cons, List.foldl_cons, List.foldl_cons, dataLt_pair]
    split
    · exact ih q
    · exact ih p
def rMinP (K : PySem.W.Frag) : List V → Hp → VK → Prop := fun vs H Q => ∃ (a : Addr) (xs : List V) (p : Int × Int) (ps : List (Int × Int)), vs = [V.ref a] ∧ SqL K H a xs ∧ DpAll K H xs ((p :: ps).map pairD) ∧ ∀ (i : Nat) (v : V), xs[i]? = some v → (p :: ps)[i]? = some (minI p ps) → Q v H
theorem depth_pairs : ∀ ps : List (Int × Int), PyData.depthAll (ps.map pairD) ≤ 1
  | [] => Nat.zero_le _
  | p :: ps => by
    rw [List.map_cons]
    show max (PyData.depth (pairD p)) (PyData.depthAll (ps.map pairD)) ≤ 1
    have : PyData.depth (pairD p) = 1 := rfl
    have := depth_pairs ps
    omega
theorem lay_pairs : ∀ ps : List (Int × Int), PyData.canLayAll0 (ps.map pairD) = true
  | [] => rfl
  | p :: ps => by
    rw [List.map_cons]
    show (PyData.canLay0 (pairD p) && PyData.canLayAll0 (ps.map pairD)) = true
    rw [lay_pairs ps]
    rfl
theorem cr_minP {X : Cx} (hu : X.A.units + 16 < cLine) (hc : X.calm = true) : CallR X (.builtin "min") (rMinP X.K) := by
  intro pins s σ H vs us Q I r h
  obtain ⟨a, xs, p, ps, rfl, hs, hd, q⟩ := h
  obtain ⟨its, rv, hl, hz⟩ := I.list hs
  rw [Vals.ref1 r]
  obtain ⟨as, hr⟩ := Dp.readsAll I _ _ its hd rv
  have hal : PySem.W.AlikeAll ((p :: ps).map pairD) := ⟨fun x hx y hy => by
    obtain ⟨x, _, rfl⟩ := List.mem_map.mp hx
    obtain ⟨y, _, rfl⟩ := List.mem_map.mp hy
    rfl, fun x hx => by
    obtain ⟨x, _, rfl⟩ := List.mem_map.mp hx
    exact fun z => by cases z⟩
  have hdp := depth_pairs (p :: ps)
  refine PySem.W.min_list_data (vs := its.toArray) (x := pairD p) (xs := ps.map pairD) (I.ok.hd hc) hl.isList hr hal (by have : PyData.depthAll (pairD p :: ps.map pairD) ≤ 1 := hdp; omega) fun i v h' tk bs hv hR hk => ?_
  have hv : its[i]? = some v := by simpa using hv
  obtain ⟨hi, hie⟩ := List.getElem?_eq_some_iff.mp hv
  have hxl : i < xs.length := by rw [rv.length]; exact hi
  have hdl := dpAll_len hd
  obtain ⟨d, hdi⟩ : ∃ d, ((p :: ps).map pairD)[i]? = some d := ⟨_, List.getElem?_eq_getElem (by omega)⟩
  obtain ⟨x, hx, dx⟩ := dpAll_get hd hdi
  have rx : RelV x v := by
    obtain ⟨u, hu1, hu2⟩ := Vals.get rv hx
    rw [hv] at hu1
    cases hu1
    exact hu2
  obtain ⟨bs2, hR2⟩ := Dp.reads I d x v dx rx
  have hcl : d.canLay0 = true := by
    obtain ⟨y, _, rfl⟩ := List.mem_map.mp (List.mem_of_getElem? hdi)
    rfl
  rw [minD_pairs] at hR
  have e : d = pairD (minI p ps) := (SeqAt.readOf_eq hcl (Reads.keeps hk hR2)).symm.trans (SeqAt.readOf_eq (by rfl) hR)
  rw [List.getElem?_map] at hdi
  obtain ⟨y, hy, rfl⟩ := Option.map_eq_some_iff.mp hdi
  have ey : y = minI p ps := by
    have e1 : pairD y = pairD (minI p ps) := e
    unfold pairD at e1
    simp only [PyData.tuple.injEq, List.cons.injEq, PyData.int.injEq, and_true] at e1
    exact Prod.ext e1.1 e1.2
  rw [ey] at hy
  exact ⟨x, H, I.kept hk, rx, q i x hx hy⟩
section
variable [Mem]
def minL : List D → Option D
  | [.list ds] => match pairsOf' ds with
    | some (p :: ps) => some (pairD (minI p ps))
    | _ => none
  | _ => none
theorem cg_minP (K : PySem.W.Frag) : CallG K (rMinP K) minL := by
  intro F H vs ds d Q s h e k
  match ds, h, e with
  | [.list xs], .cons (.lst h1 h2) .nil, e =>
    simp only [minL] at e
    split at e
    · rename_i p ps z
      cases e
      have e2 : xs = (p :: ps).map pairD := pairsOf_eq z
      subst e2
      refine ⟨_, _, p, ps, rfl, same_seqL s.s h1, dpAll_mono s.s _ _ h2, fun i v hv hi => ?_⟩
      obtain ⟨d, hd, dv⟩ := dpAll_get' h2 hv
      rw [List.getElem?_map, hi] at hd
      cases hd
      exact k _ F H (.refl s) dv
    · cases e
theorem kminP (K : PySem.W.Frag) {X : Cx} (hu : X.A.units + 16 < cLine) (hc : X.calm = true := by rfl) (hK : X.K = K := by rfl) : CallR X (.builtin "min") (rMinP K) := by subst hK; exact cr_minP hu hc
end
end DL

set_option maxHeartbeats 1000000
/-! DZ2: objects made, any class with a memo. -/
namespace DL
open PySem PySem.Spec L2
open PyProof.Rows hiding St
/-- the heap H2 holds the object d at a, made over Hd -/
def Laid (P : Program) (w : World) (K : PySem.W.Frag) (cn : Str) (G : D → D → R D) (ns : List Str) (C a dx : Addr) (d : D) (F' Hd H2 : Hp) : Prop :=
  ∃ (M' : Mem) (F2 : Hp) (fs : List (Str × V)), Same F' F2 ∧ Same Hd H2 ∧ (∀ b, F2 b ≠ none → Hd b ≠ none → F' b ≠ none) ∧ (∀ b, M'.is b → Hd b = none) ∧ @Wf M' F2 H2 ∧ @ObQ M' K F2 (.ref a) d ∧ @MemV M' P w K cn G ∧
    H2 a = some (.ins C dx fs) ∧ ∀ f : Str, f ≠ ("known" : Str) → f ∉ ns → fs.lookup f = none
/-- the promise of an __init__ -/
def spMk (P : Program) (w : World) (K : PySem.W.Frag) (cn : Str) (G : D → D → R D) (ns : List Str) (C : Addr) (new : List D → R D) : Sp := fun vs H Q _ =>
  ∃ (M : Mem) (F H1 : Hp) (us : List V) (ds : List D) (a dx : Addr) (d : D), vs = .ref a :: us ∧ H1 a = none ∧ H1 dx = none ∧ dx ≠ a ∧ H = upd (upd H1 dx (.own a)) a (.ins C dx []) ∧ Wf F H1 ∧ DpAll K F us ds ∧ new ds = .ok d ∧
    ∀ F' Hd H2, Grow F H1 F' Hd → Laid P w K cn G ns C a dx d F' Hd H2 → Q .non H2
/-- C(..).m(..) -/
def mkmG (m : Str) (ns : List Str) (new : List D → R D) (fa fb : AF) (gm : List D → R D) : EF := fun ρ => if plainE ρ = true then ((fa ρ).noErr.bind fun ds => (new ds).noErr).bind fun d => if m ≠ ("known" : Str) ∧ m ∉ ns then (fb ρ).noErr.bind fun es => gm (d :: es) else .bad else .bad
def mkG (w : List Sh) (i : Nat) (new : List D → R D) (fa : AF) : SF := fun ρ => if (fzAll w && plainE ρ) = true then runR ((fa ρ).noErr.bind fun ds => (new ds).noErr) ρ fun d => .nx (ρ.set i (some d)) else .bad
section
variable {X : Cx} {Er : ErT} {ta tb : TA} {pos : Pos}
theorem dr_mkmG [M : Mem] {C : Addr} {cn m : Str} {ns : List Str} {fa fb : AF} {new : List D → R D} {G : D → D → R D} {gm : List D → R D} {n : Nat} {E E' : XK} (ha : DRa X.K (fun _ _ => False) ta fa) (hb : ∀ [Mem], DRq X.K (fun _ _ => False) tb fb) (hn : ∀ ρ ds, fb ρ = .ok ds → ds.length + 1 = n) (he : ∀ c H', Er c H' → erX X.mg E c H') :
    DRd X.K Er (tMeth C m (spW X.prog X.w X.K X.mg cn G n gm) [] E (tMake C (spMk X.prog X.w X.K cn G ns C new) [] E' ta) tb) (mkmG m ns new fa fb gm) := by
  intro F H σ ρ Q s st q
  unfold mkmG at q
  by_cases hp : plainE ρ = true
  case neg => rw [if_neg hp] at q; exact q.elim
  rw [if_pos hp] at q
  refine ha F H σ ρ _ s st ?_
  cases er : fa ρ with
  | err c => rw [er] at q; exact q.elim
  | bad => rw [er] at q; exact q.elim
  | ok ds =>
  rw [er] at q
  simp only [ne_ok', R.bind_ok] at q
  intro F1 H1 g1 vs dvs a dx hxn hdn hne
  cases en : new ds with
  | err c => rw [en] at q; exact q.elim
  | bad => rw [en] at q; exact q.elim
  | ok d =>
  rw [en] at q
  simp only [ne_ok', R.bind_ok] at q
  by_cases hm : m ≠ ("known" : Str) ∧ m ∉ ns
  case neg => rw [if_neg hm] at q; exact q.elim
  rw [if_pos hm] at q
  rw [List.append_nil]
  refine ⟨M, F1, H1, vs, ds, a, dx, d, rfl, hxn, hdn, hne, rfl, g1.fh, dvs, en, fun F' Hd H2 gr ld => ?_⟩
  obtain ⟨M', F2, fs, s1, s2, nw, hk, wf2, ob, hv, hH, hl⟩ := ld
  letI : Mem := M
  refine ⟨rfl, a, dx, fs, rfl, hH, hl m hm.1 hm.2, ?_⟩
  refine @hb M' F2 H2 σ ρ _ wf2 (envR_plain (M := M) st hp (same_trans (same_trans g1.ff gr.ff) s1)) ?_
  cases eb : fb ρ with
  | err c => rw [eb] at q; exact q.elim
  | bad => rw [eb] at q; exact q.elim
  | ok es =>
  rw [eb] at q
  simp only [ne_ok', R.bind_ok] at q
  intro F3 H3 g3 us dus
  rw [List.append_nil]
  have l1 := @dqAll_len M' _ _ _ _ dus
  have l2 := hn ρ es eb
  have tot : ∀ {F4 H4 : Hp}, @Grow M' F3 H3 F4 H4 → Grow F H F4 H4 := fun {F4 H4} g4 =>
    g1.trans (gr.trans (grow_leave (M := M) (M' := M') gr.fh hk s1 s2 nw (@Grow.trans M' _ _ _ _ _ _ g3 g4)))
  refine ⟨by simp; omega, M', F3, d :: es, hv, @Grow.fh M' _ _ _ _ g3, ⟨@dq_mono M' _ _ _ (@Grow.ff M' _ _ _ _ g3) _ _ (.inr (.inr (.inr (.inl ob)))), dus⟩, ?_⟩
  cases em : gm (d :: es) with
  | bad => rw [em] at q; exact q.elim
  | err c => rw [em] at q; exact fun F4 H4 g4 => he c H4 (q F4 H4 (tot g4))
  | ok r => rw [em] at q; exact fun F4 H4 g4 => q F4 H4 (tot g4)
theorem de_mkmG [M : Mem] {pl : Sem Bool} {CX CX' : CXT} {k k' : Nat} {fi fm C : Addr} {fd fd' : FuncData} {ps ps' : List Str} {E E' : XK} {cn cx m : Str} {ns : List Str} {p p' apos : Pos} {e e2 : Expr} {es es2 : List Expr} {fa fb : AF} {new : List D → R D} {G : D → D → R D} {gm : List D → R D} {n : Nat}
    (c : Cls X.K C) (M0 : Mk X.K C fi) (F0 : FnOk X.prog X.w X.K X.mg X.base CX k fi fd ps (spMk X.prog X.w X.K cn G ns C new)) (hr : Room (k + 1) X.A) (hg : Gl X cx) (hm : X.mg cx = some (.ref C)) (hb : Binds X.K fd ps []) (hx : Passes CX X E')
    (ha : DA X (fun _ _ => False) (e :: es) ta fa) (hme : Meth X.K C m fm) (F1 : FnOk X.prog X.w X.K X.mg X.base CX' k' fm fd' ps' (spW X.prog X.w X.K X.mg cn G n gm)) (hr' : Room k' X.A) (hb' : Binds X.K fd' ps' []) (hx' : Passes CX' X E) (he : ∀ c H', Er c H' → erX X.mg E c H')
    (hbq : ∀ [Mem], DAq X (fun _ _ => False) (e2 :: es2) tb fb) (hn : ∀ ρ ds, fb ρ = .ok ds → ds.length + 1 = n)
    (hdb : (cx == ("__debug__" : Str)) = false := by decide) (hs1 : starEach (e :: es) X.env = (false, eval e X.env) :: starEach es X.env := by rfl) (hpl1 : (backTo p' (starEach es X.env)).any (·.1) = false := by rfl)
    (hst : starEach (e2 :: es2) X.env = (false, eval e2 X.env) :: starEach es2 X.env := by rfl) (hpl : (backTo pos (starEach es2 X.env)).any (·.1) = false := by rfl)
    (ht : eval (.Call (.Attribute (.Call (.Name cx p) (e :: es) [] p') m apos) (e2 :: es2) [] pos) X.env = (do
      let ov ← eval (.Call (.Name cx p) (e :: es) [] p') X.env
      standAt apos.atName
      let (f, first) ← holding [ov] (getMethod ov m pl)
      callWith pos f first (backTo pos (starEach (e2 :: es2) X.env)) (backToKw pos (keywordEach [] X.env))) := by exact mcall_of (abase_callA (by decide)) fun _ => rfl) :
    DE X Er (.Call (.Attribute (.Call (.Name cx p) (e :: es) [] p') m apos) (e2 :: es2) [] pos) (tMeth C m (spW X.prog X.w X.K X.mg cn G n gm) [] E (tMake C (spMk X.prog X.w X.K cn G ns C new) [] E' ta) tb) (mkmG m ns new fa fb gm) :=
  ⟨pe_meth (pe_make M0 F0 hr hg hm hb .nil hx ha.pe hdb hs1 hpl1) c hme F1 hr' hb' .nil hx' hbq.pe hst hpl ht, dr_mkmG ha.rd (@fun M' => daq_rd M' (@hbq M')) hn he⟩
end
section
variable {X : Cx} {Er : ErT} {s0 : Sh} {wl w w' : List Sh} {ta : TA} {t : TS} {f : SF} {pos : Pos}
theorem ds_mkG [M : Mem] {CX : CXT} {k : Nat} {fi C : Addr} {fd : FuncData} {ps : List Str} {E : XK} {cn x cx : Str} {ns : List Str} {i : Nat} {p p' pn : Pos} {e : Expr} {es : List Expr} {rest : List Stmt} {fa : AF} {new : List D → R D} {G : D → D → R D}
    (M0 : Mk X.K C fi) (F0 : FnOk X.prog X.w X.K X.mg X.base CX k fi fd ps (spMk X.prog X.w X.K cn G ns C new)) (hr : Room (k + 1) X.A) (hg : Gl X cx) (hm : X.mg cx = some (.ref C)) (hb : Binds X.K fd ps []) (hx : Passes CX X E)
    (hN : X.N.Nodup) (hi : X.N[i]? = some x) (hxl : Loc X.env.scope x) (ha : DA X (fun _ _ => False) (e :: es) ta fa)
    (hrest : ∀ [Mem], MemV X.prog X.w X.K cn G → DS X Er .fz wl (w.set i .fz) rest w' t f) (hw0 : s0 = .fz)
    (hdb : (cx == ("__debug__" : Str)) = false := by decide) (he : starEach (e :: es) X.env = (false, eval e X.env) :: starEach es X.env := by rfl) (hpl : (backTo p' (starEach es X.env)).any (·.1) = false := by rfl)
    (hs : swapsWith (.Call (.Name cx p) (e :: es) [] p') (some (.Name x pn)) pos.line X.env = pure false := by rfl) (hf : X.fn x = true ∨ X.env.scope.names.lookup x = some .local := by first | exact .inl rfl | exact .inr rfl) :
    DS X Er s0 wl w (.Assign [.Name x pn] (.Call (.Name cx p) (e :: es) [] p') pos :: rest) w' (tSeq (tAsg (tMake C (spMk X.prog X.w X.K cn G ns C new) [] E ta) (gName i)) t) (seqS (mkG w i new fa) (endS f)) := by
  subst hw0
  refine ⟨pss_cons (ps_set hN hi hxl (pe_make M0 F0 hr hg hm hb .nil hx ha.pe hdb he hpl) hs hf) (ds_ps (memK X.prog X.w X.K (G .none) .none 0) (@hrest (memK X.prog X.w X.K (G .none) .none 0) memK_v)), fun fr F H σ ρ Dn st q => ?_⟩
  unfold seqS mkG at q
  by_cases hc : (fzAll w && plainE ρ) = true
  case neg => rw [if_neg hc] at q; exact q.elim
  rw [if_pos hc] at q
  simp only [Bool.and_eq_true] at hc
  obtain ⟨hfz, hpn⟩ := hc
  have env := st.envA
  rw [fz_hid hfz] at env
  refine ha.rd F H σ ρ _ st.fh env ?_
  cases er : fa ρ with
  | err c => rw [er] at q; exact q.elim
  | bad => rw [er] at q; exact q.elim
  | ok ds =>
  rw [er] at q
  simp only [ne_ok', R.bind_ok] at q
  intro F1 H1 g1 vs dvs a dx hxn hdn hne
  cases en : new ds with
  | err c => rw [en] at q; exact q.elim
  | bad => rw [en] at q; exact q.elim
  | ok d =>
  rw [en] at q
  simp only [ne_ok', R.bind_ok, runR_ok, then_nx] at q
  have st1 := st.grow g1
  rw [List.append_nil]
  refine ⟨M, F1, H1, vs, ds, a, dx, d, rfl, hxn, hdn, hne, rfl, g1.fh, dvs, en, fun F' Hd H2 gr ld => ?_⟩
  obtain ⟨M', F2, fs, sF2, s2, nw, hk, wf2, ob, hv, hH, hl⟩ := ld
  letI : Mem := M
  refine ⟨rfl, ?_⟩
  have st2 := st1.grow gr
  have hle : ∀ j, sh (w.set i .fz) j = .fz := fun j => by
    by_cases hj : i = j
    · subst hj; exact sh_set_fz
    · rw [sh_set_ne hj]; exact fzAll_ok hfz j
  have back : ∀ {w'' : List Sh} {σ' : St} {F'' H'' : Hp} {ρ'' : Env}, @SR M' X.K ⟨F', Hd⟩ w'' F'' H'' σ' ρ'' → SR X.K fr w'' F'' H'' σ' (List.replicate ρ''.length none) := fun {w'' σ' F'' H'' ρ''} z => by
    obtain ⟨gM, hl⟩ := @sr_grow M' _ _ _ _ _ _ _ z
    have gL := grow_leave (M := M) (M' := M') gr.fh hk (same_refl _) (same_refl _) (fun _ h _ => h) gM
    exact @sr_end M _ _ w _ _ _ σ _ ρ _ (st2.grow gL) (by rw [List.length_replicate]; exact hl) fun i d => rep_none
  refine ds_rd M' (@hrest M' hv) ⟨F', Hd⟩ F2 _ _ (ρ.set i (some d)) Dn ?_ ?_
  · refine ⟨fun _ => emp, @StR.mk M' _ _ _ _ _ _ _ _ wf2 (@sameM_of M' _ _ s2) sF2 nw (fun i a o z => (by cases z)) (fun i a z => absurd rfl z) (fun j d ej => ?_) (by simpa using st2.len) (fun i a z => absurd rfl z)⟩
    rw [hle j]
    rcases env_set ej with ⟨rfl, rfl, hv⟩ | ⟨ne, ej⟩
    · exact ⟨.ref a, by rw [List.getElem?_set_self (by rw [← st2.len]; exact hv)], .inr (.inr (.inr (.inl ob)))⟩
    · obtain ⟨os, s⟩ := st2
      obtain ⟨v, y1, y2⟩ := s.sl j d ej
      rw [fzAll_ok hfz j] at y2
      exact ⟨v, by rw [List.getElem?_set_ne ne]; exact y1, .inl (dp_mono sF2 _ _ (plain_dp hpn ej y2))⟩
  · have hq : PostS X.K fr .fz wl w' F Er (endS f (ρ.set i (some d))) Dn := q
    unfold endS at hq
    cases ef : f (ρ.set i (some d)) with
    | rt d' ρ'' =>
      rw [ef] at hq
      exact fun σ' F'' H'' v w'' hw'' z dv => hq σ' F'' H'' v w'' hw'' (back z) dv
    | err c ρ'' =>
      rw [ef] at hq
      exact fun σ' F'' H'' w'' hw'' z => hq σ' F'' H'' w'' hw'' (back z)
    | nx ρ'' => rw [ef] at hq; exact hq.elim
    | bk ρ'' => rw [ef] at hq; exact hq.elim
    | bad => rw [ef] at hq; exact hq.elim
end
end DL

set_option maxHeartbeats 2000000
/-! DZ3: an object that holds a counter: its __init__. -/
namespace DL
open PySem PySem.Spec L2
open PyProof.Rows hiding St
def menF (v2 v3 : V) (a2 kad : Addr) : List (Str × V) := [("counter", .ref a2), ("laid", v2), ("weights", v3), ("known", .ref kad)]
def menD (cn : Str) (c L W : D) : D := objD cn [("counter", c), ("laid", L), ("weights", W)]
def newM (cn cn2 : Str) (fa : AF) (gI : D → R (D × D)) : List D → R D
  | [T, L, W] => (fa [none, some T, some L, some W]).noErr.bind fun ds => newO cn2 gI ds |>.bind fun c => .ok (menD cn c L W)
  | _ => .bad
@[reducible] def memM (P : Program) (w : World) (K : PySem.W.Frag) (G : D → R D) (d0 : D) (kad : Addr) (d2 : D) (kad2 : Addr) : Mem where
  is := fun a => a = kad
  good := fun F k o => memGood P w K G F k o
  mono := memGood_mono
  drop := memGood_drop
  lk := fun d k => (d = d0 ∧ k = kad) ∨ (d = d2 ∧ k = kad2)
theorem memM_v {P : Program} {w : World} {K : PySem.W.Frag} {G : D → D → R D} {cn cn2 : Str} {kvs0 kvs2 : List (Str × D)} {kad kad2 : Addr} (hne : cn ≠ cn2) : @MemV (memM P w K (G (objD cn kvs0)) (objD cn kvs0) kad (objD cn2 kvs2) kad2) P w K cn G := fun kvs k h => by
  rcases h with ⟨e1, e2⟩ | ⟨e1, e2⟩
  · subst e2
    rw [e1]
    exact ⟨rfl, fun _ _ => .rfl⟩
  · exact absurd (objD_inj e1).1 hne
/-- the heap behind C2(..) and the fields -/
theorem men_laid {P : Program} {w : World} {K : PySem.W.Frag} {cn cn2 : Str} {G : D → D → R D} {C C2 a dx a2 dx2 kad kad2 : Addr} {F1 F' H3 Hd Hf : Hp} {v2 v3 u1 u2 vp vc : V} {L W T Gd pl c : D} (hcn : cn ≠ cn2) (hC : PySem.W.nsIn K mainGlobals cn = some (some (.ref C))) (hC2 : PySem.W.nsIn K mainGlobals cn2 = some (some (.ref C2)))
    (wf : Same F' H3) (d2 : Dp K F' v2 L) (d3 : Dp K F' v3 W) (e1 : Dp K F' u1 T) (e2 : Dp K F' u2 Gd) (e3 : Dp K F' vp pl) (e4 : Dp K F' vc c)
    (Fa : F' a = none) (Fdx : F' dx = none) (Fdx2 : F' dx2 = none) (ha2 : H3 a2 = none) (hk2 : H3 kad2 = none) (hk : H3 kad = none) (ha : H3 a = some (.ins C dx [])) (hdx : H3 dx = some (.own a)) (hdx2 : H3 dx2 = some (.own a2)) (n1 : kad2 ≠ a2) (n2 : kad ≠ a2) (n3 : kad ≠ kad2) (n4 : a ≠ dx) (n5 : a ≠ dx2) (n6 : dx ≠ dx2)
    (hHd : Hd = remH (remH (remH H3 dx2) a) dx)
    (hHf : Hf = upd (upd (upd (upd H3 a2 (.ins C2 dx2 (ctrF u1 u2 vp vc kad2))) kad2 (dN P w kad2 [])) a (.ins C dx (menF v2 v3 a2 kad))) kad (dN P w kad [])) :
    Laid P w K cn G ["counter", "laid", "weights"] C a dx (menD cn (ctrD cn2 T Gd pl c) L W) F' Hd Hf := by
  have m1 : a ≠ a2 := fun z => by rw [z, ha2] at ha; cases ha
  have m2 : a ≠ kad2 := fun z => by rw [z, hk2] at ha; cases ha
  have m3 : a ≠ kad := fun z => by rw [z, hk] at ha; cases ha
  have m4 : dx ≠ a2 := fun z => by rw [z, ha2] at hdx; cases hdx
  have m5 : dx ≠ kad2 := fun z => by rw [z, hk2] at hdx; cases hdx
  have m6 : dx ≠ kad := fun z => by rw [z, hk] at hdx; cases hdx
  have m7 : dx2 ≠ a2 := fun z => by rw [z, ha2] at hdx2; cases hdx2
  have m8 : dx2 ≠ kad2 := fun z => by rw [z, hk2] at hdx2; cases hdx2
  have m9 : dx2 ≠ kad := fun z => by rw [z, hk] at hdx2; cases hdx2
  have Fa2 : F' a2 = none := none_of_same wf ha2
  have Fk : F' kad = none := none_of_same wf hk
  obtain ⟨F4, hF4⟩ : ∃ F4, F4 = upd (upd (upd (upd F' a (.ins C dx (menF v2 v3 a2 kad))) dx (.own a)) a2 (.ins C2 dx2 (ctrF u1 u2 vp vc kad2))) dx2 (.own a2) := ⟨_, rfl⟩
  have q1 : F4 a = some (.ins C dx (menF v2 v3 a2 kad)) := by rw [hF4, upd_ne n5, upd_ne m1, upd_ne n4, upd_same]
  have q2 : F4 dx = some (.own a) := by rw [hF4, upd_ne n6, upd_ne m4, upd_same]
  have q3 : F4 a2 = some (.ins C2 dx2 (ctrF u1 u2 vp vc kad2)) := by rw [hF4, upd_ne (Ne.symm m7), upd_same]
  have q4 : F4 dx2 = some (.own a2) := by rw [hF4, upd_same]
  have q5 : ∀ b, b ≠ a → b ≠ dx → b ≠ a2 → b ≠ dx2 → F4 b = F' b := fun b z1 z2 z3 z4 => by rw [hF4, upd_ne z4, upd_ne z3, upd_ne z2, upd_ne z1]
  have r1 : Hf a = some (.ins C dx (menF v2 v3 a2 kad)) := by rw [hHf, upd_ne m3, upd_same]
  have r2 : Hf dx = some (.own a) := by rw [hHf, upd_ne m6, upd_ne (Ne.symm n4), upd_ne m5, upd_ne m4, hdx]
  have r3 : Hf a2 = some (.ins C2 dx2 (ctrF u1 u2 vp vc kad2)) := by rw [hHf, upd_ne (Ne.symm n2), upd_ne (Ne.symm m1), upd_ne (Ne.symm n1), upd_same]
  have r4 : Hf dx2 = some (.own a2) := by rw [hHf, upd_ne m9, upd_ne (Ne.symm n5), upd_ne m8, upd_ne m7, hdx2]
  have r5 : Hf kad = some (dN P w kad []) := by rw [hHf, upd_same]
  have r6 : ∀ b, b ≠ a → b ≠ a2 → b ≠ kad → b ≠ kad2 → Hf b = H3 b := fun b z1 z2 z3 z4 => by rw [hHf, upd_ne z3, upd_ne z1, upd_ne z4, upd_ne z2]
  have sF : Same F' F4 := fun b o e => by
    rw [q5 b (ne_of_none e Fa) (ne_of_none e Fdx) (ne_of_none e Fa2) (ne_of_none e Fdx2)]; exact e
  have h0 : ∀ b o, Hd b = some o → b ≠ dx ∧ b ≠ a ∧ b ≠ dx2 ∧ H3 b = some o := fun b o e => by
    rw [hHd] at e
    by_cases z1 : b = dx
    · rw [z1, remH_same] at e; cases e
    · rw [remH_ne z1] at e
      by_cases z2 : b = a
      · rw [z2, remH_same] at e; cases e
      · rw [remH_ne z2] at e
        by_cases z3 : b = dx2
        · rw [z3, remH_same] at e; cases e
        · rw [remH_ne z3] at e
          exact ⟨z1, z2, z3, e⟩
  have sH : Same Hd Hf := fun b o e => by
    obtain ⟨z1, z2, z3, e⟩ := h0 b o e
    rw [r6 b z2 (ne_of_none e ha2) (ne_of_none e hk) (ne_of_none e hk2)]; exact e
  have sFH : Same F4 Hf := fun b o e => by
    by_cases z1 : b = a
    · rw [z1, q1] at e; rw [z1, r1]; exact e
    · by_cases z2 : b = dx
      · rw [z2, q2] at e; rw [z2, r2]; exact e
      · by_cases z3 : b = a2
        · rw [z3, q3] at e; rw [z3, r3]; exact e
        · by_cases z4 : b = dx2
          · rw [z4, q4] at e; rw [z4, r4]; exact e
          · rw [q5 b z1 z2 z3 z4] at e
            have e' := wf b o e
            rw [r6 b z1 z3 (ne_of_none e' hk) (ne_of_none e' hk2)]; exact e'
  refine ⟨memM P w K (G (menD cn (ctrD cn2 T Gd pl c) L W)) (menD cn (ctrD cn2 T Gd pl c) L W) kad (ctrD cn2 T Gd pl c) kad2, F4, menF v2 v3 a2 kad, sF, sH, fun b y1 y2 => ?_, fun b z => ?_, ?_, ?_, memM_v hcn, r1, ?_⟩
  · cases e : Hd b with
    | none => exact absurd e y2
    | some o =>
      obtain ⟨z1, z2, z3, e⟩ := h0 b o e
      rw [← q5 b z2 z1 (ne_of_none e ha2) z3]; exact y1
  · have z : b = kad := z
    rw [z]
    cases e : Hd kad with
    | none => rfl
    | some o => obtain ⟨_, _, _, e⟩ := h0 kad o e; rw [hk] at e; cases e
  · refine @Wf.mk (memM P w K (G (menD cn (ctrD cn2 T Gd pl c) L W)) (menD cn (ctrD cn2 T Gd pl c) L W) kad (ctrD cn2 T Gd pl c) kad2) _ _ sFH fun b z => ?_
    have z : b = kad := z
    rw [z]
    exact ⟨by rw [q5 kad (Ne.symm m3) (Ne.symm m6) n2 (Ne.symm m9)]; exact Fk, _, r5, [], rfl, List.nodup_nil, fun x hx => (nomatch hx)⟩
  · refine ⟨a, menF v2 v3 a2 kad, cn, _, rfl, rfl, ⟨kad, by rfl, .inl ⟨rfl, rfl⟩⟩, ⟨⟨C, dx, hC, q1, q2⟩⟩, fun p hp => ?_, fun f h1 h2 => ?_⟩
    · simp only [List.mem_cons, List.not_mem_nil, or_false] at hp
      rcases hp with rfl | rfl | rfl
      · refine ⟨.ref a2, by rfl, .inr ⟨a2, ctrF u1 u2 vp vc kad2, cn2, _, rfl, rfl, ⟨kad2, by rfl, .inr ⟨rfl, rfl⟩⟩, ⟨⟨C2, dx2, hC2, q3, q4⟩⟩, fun p hp => ?_, fun f h1 h2 => ?_⟩⟩
        · simp only [List.mem_cons, List.not_mem_nil, or_false] at hp
          rcases hp with rfl | rfl | rfl | rfl
          · exact ⟨u1, rfl, dp_mono sF _ _ e1⟩
          · exact ⟨u2, rfl, dp_mono sF _ _ e2⟩
          · exact ⟨vp, rfl, dp_mono sF _ _ e3⟩
          · exact ⟨vc, rfl, dp_mono sF _ _ e4⟩
        · simp only [List.map_cons, List.map_nil, List.mem_cons, List.not_mem_nil, or_false, not_or] at h2
          obtain ⟨n1, n2, n3, n4⟩ := h2
          have b : ∀ x : Str, f ≠ x → (f == x) = false := fun x h => beq_eq_false_iff_ne.mpr h
          simp only [ctrF, List.lookup_cons, b _ n1, b _ n2, b _ n3, b _ n4, b _ h1]
          rfl
      · exact ⟨v2, rfl, .inl (dp_mono sF _ _ d2)⟩
      · exact ⟨v3, rfl, .inl (dp_mono sF _ _ d3)⟩
    · simp only [List.map_cons, List.map_nil, List.mem_cons, List.not_mem_nil, or_false, not_or] at h2
      obtain ⟨k1, k2, k3⟩ := h2
      have b : ∀ x : Str, f ≠ x → (f == x) = false := fun x h => beq_eq_false_iff_ne.mpr h
      simp only [menF, List.lookup_cons, b _ k1, b _ k2, b _ k3, b _ h1]
      rfl
  · intro f h1 h2
    simp only [List.mem_cons, List.not_mem_nil, or_false, not_or] at h2
    obtain ⟨k1, k2, k3⟩ := h2
    have b : ∀ x : Str, f ≠ x → (f == x) = false := fun x h => beq_eq_false_iff_ne.mpr h
    simp only [menF, List.lookup_cons, b _ k1, b _ k2, b _ k3, b _ h1]
    rfl
end DL

set_option maxHeartbeats 2000000
/-! DZ4: its __init__, walked. -/
namespace DL
open PySem PySem.Spec L2
open PyProof.Rows hiding St
def tInitM (X : Cx) (P : Program) (w : World) (C2 : Addr) (gI : D → R (D × D)) (E2 : XK) (ta : TA) : TS := tSeq (sFld X.K (tVar 0) (tMake C2 (spI P w X.K C2 gI) [] E2 ta) "counter") (tSeq (sFld X.K (tVar 0) (tVar 2) "laid") (tSeq (sFld X.K (tVar 0) (tVar 3) "weights") (sFld X.K (tVar 0) (tDNewN X) "known")))
section
variable {P : Program} {w : World} {K : PySem.W.Frag} {mg : Str → Option Value} {base : Heap}
theorem env4 [Mem] {F : Hp} {v0 v1 v2 v3 : V} {T L W : D} (h1 : Dp K F v1 T) (h2 : Dp K F v2 L) (h3 : Dp K F v3 W) : EnvR K F [some v0, some v1, some v2, some v3] [none, some T, some L, some W] := ⟨fun i d e => by
  match i, e with
  | 0, e => cases e
  | 1, e => cases e; exact ⟨v1, rfl, .inl h1⟩
  | 2, e => cases e; exact ⟨v2, rfl, .inl h2⟩
  | 3, e => cases e; exact ⟨v3, rfl, .inl h3⟩
  | i + 4, e => simp at e, rfl⟩
theorem init_okM {qual : Str} {st : Stmt} {f C C2 : Addr} {fd : FuncData} {N : List Str} {k : Nat} {fa : AF} {gI : D → R (D × D)} {E2 : XK} {cn cn2 : Str} {G : D → D → R D} (Fn : Fun K "__init__" qual st f fd) (S : FnScope N ["self", "tiles", "floor", "weights"] (defScope st)) (hN : N.length = 4) (hcl : Cls K C) (hna : ∀ f ∈ (["counter", "laid", "weights", "known"] : List Str), NoAttr K C f)
    (hcn : cn ≠ cn2) (hC : PySem.W.nsIn K mainGlobals cn = some (some (.ref C))) (hC2 : PySem.W.nsIn K mainGlobals cn2 = some (some (.ref C2)))
    (body : ∀ [Mem] (cdv : Value) (A : Around) (outer : List PySem.Env) (s : Shared) (H : Hp) (E : XK), Room k (A.deeper (envOfC qual (defScope st) s.heap.objs.size f cdv)) →
      ∃ ta, PSs (cxOf (L2.CX P w) P w K mg base N qual (defScope st) f cdv A outer s H E) (defBody st) (tInitM (cxOf (L2.CX P w) P w K mg base N qual (defScope st) f cdv A outer s H E) P w C2 gI E2 ta) ∧ DRa K ErN ta fa) :
    FnOk P w K mg base (L2.CX P w) (k + 1) f fd ["self", "tiles", "floor", "weights"] (spMk P w K cn G ["counter", "laid", "weights"] C (newM cn cn2 fa gI)) := by
  have two : ∀ {ds : List D} {d : D}, newM cn cn2 fa gI ds = .ok d → ∃ T L W T' Gd pc, ds = [T, L, W] ∧ fa [none, some T, some L, some W] = .ok [T', Gd] ∧ gI Gd = .ok pc ∧ d = menD cn (ctrD cn2 T' Gd pc.1 pc.2) L W := by
    intro ds d h
    match ds, h with
    | [T, L, W], h =>
      simp only [newM] at h
      cases e1 : fa [none, some T, some L, some W] with
      | err c => rw [e1] at h; cases h
      | bad => rw [e1] at h; cases h
      | ok es =>
        rw [e1] at h
        simp only [ne_ok', R.bind_ok] at h
        match es, h, e1 with
        | [T', Gd], h, e1 =>
          simp only [newO] at h
          cases e2 : gI Gd with
          | err c => rw [e2] at h; cases h
          | bad => rw [e2] at h; cases h
          | ok pc =>
            rw [e2] at h
            simp only [ne_ok', R.bind_ok] at h
            cases h
            exact ⟨T, L, W, T', Gd, pc, rfl, e1, e2, rfl⟩
  have len3 : ∀ {F : Hp} {us : List V} {T L W : D}, DpAll K F us [T, L, W] → ∃ v1 v2 v3, us = [v1, v2, v3] ∧ Dp K F v1 T ∧ Dp K F v2 L ∧ Dp K F v3 W := by
    intro F us T L W h
    cases h with
    | cons h1 h =>
      cases h with
      | cons h2 h =>
        cases h with
        | cons h3 h => cases h; exact ⟨_, _, _, rfl, h1, h2, h3⟩
  refine Fn.okX S (fun vs H Q E h => by
    obtain ⟨_, _, _, us, ds, _, _, d, rfl, _, _, _, _, _, du, en, _⟩ := h
    obtain ⟨T, L, W, _, _, _, rfl, _⟩ := two en
    obtain ⟨_, _, _, rfl, _⟩ := len3 du
    rfl) (fun cdv A outer s H vs Q E hr h => ?_)
  obtain ⟨M, F, H1, us, ds, a, dx, d, rfl, ha, hdx, hne, rfl, wf, dus, en, q⟩ := h
  obtain ⟨T, L, W, T', Gd, pc, rfl, efa, eg, rfl⟩ := two en
  obtain ⟨v1, v2, v3, rfl, d1, d2, d3⟩ := len3 dus
  obtain ⟨ta, hp, ra⟩ := body cdv A outer s (upd (upd H1 dx (.own a)) a (.ins C dx [])) E hr
  refine ⟨_, hp, ?_⟩
  have hσ : L2.start N [.ref a, v1, v2, v3] = [some (.ref a), some v1, some v2, some v3] := by
    unfold L2.start
    simp [hN]
  rw [hσ]
  have n1 := hna "counter" (by simp)
  have n2 := hna "laid" (by simp)
  have n3 := hna "weights" (by simp)
  have n4 := hna "known" (by simp)
  have wb : Wf F (upd H1 dx (.own a)) := wf.upd hdx
  have hba : upd H1 dx (.own a) a = none := by rw [upd_ne (Ne.symm hne)]; exact ha
  have wba := wb.upd (o := HO.ins C dx []) hba
  have na : ¬ Mem.is a := wb.no hba
  have nd : ¬ Mem.is dx := wf.no hdx
  refine ra F _ _ [none, some T, some L, some W] _ wba (env4 d1 d2 d3) ?_
  rw [efa]
  intro F2 H2 g2 us2 dus2 a2 dx2 hx2 hd2 hne2
  obtain ⟨u1, u2, rfl, e1, e2⟩ : ∃ u1 u2, us2 = [u1, u2] ∧ Dp K F2 u1 T' ∧ Dp K F2 u2 Gd := by
    cases dus2 with
    | cons h1 h =>
      cases h with
      | cons h2 h => cases h; exact ⟨_, _, rfl, h1, h2⟩
  refine ⟨M, F2, upd H2 dx2 (.own a2), u1, u2, T', Gd, a2, dx2, rfl, by rw [upd_ne (Ne.symm hne2)]; exact hx2, rfl, upd_same, g2.fh.upd hd2, e1, e2, ?_⟩
  rw [eg]
  intro F3 H3 g3 vp vc kad2 e3 e4 hxa2 hk2 hka2
  refine ⟨rfl, ?_⟩
  -- the addresses
  have H2a : H2 a = some (.ins C dx []) := g2.hh a _ na upd_same
  have H2d : H2 dx = some (.own a) := g2.hh dx _ nd (by rw [upd_ne hne]; exact upd_same)
  have nd2 : ¬ Mem.is dx2 := g2.fh.no hd2
  have b1 : a ≠ dx2 := fun z => by rw [z, hd2] at H2a; cases H2a
  have b2 : dx ≠ dx2 := fun z => by rw [z, hd2] at H2d; cases H2d
  have H3a : H3 a = some (.ins C dx []) := g3.hh a _ na (by rw [upd_ne b1]; exact H2a)
  have H3d : H3 dx = some (.own a) := g3.hh dx _ nd (by rw [upd_ne b2]; exact H2d)
  have H3d2 : H3 dx2 = some (.own a2) := g3.hh dx2 _ nd2 upd_same
  have b3 : a ≠ a2 := fun z => by rw [z, hxa2] at H3a; cases H3a
  have b4 : a ≠ kad2 := fun z => by rw [z, hk2] at H3a; cases H3a
  have gh1 := grow_hide g2.fh hd2 g3
  have gh2 := grow_hide wb hba (g2.trans gh1)
  have gh3 := grow_hide wf hdx gh2
  have F3a : F3 a = none := by
    cases z : F3 a with
    | none => rfl
    | some o =>
      have := gh2.nw
      have y1 := g3.nw a (by rw [z]; simp) (by rw [upd_ne b1, H2a]; simp)
      have y2 := g2.nw a y1 (by rw [upd_same]; simp)
      exact absurd (none_of_same wb.s hba) y2
  have F3d : F3 dx = none := by
    cases z : F3 dx with
    | none => rfl
    | some o =>
      have y1 := g3.nw dx (by rw [z]; simp) (by rw [upd_ne b2, H2d]; simp)
      have y2 := g2.nw dx y1 (by rw [upd_ne hne, upd_same]; simp)
      exact absurd (none_of_same wf.s hdx) y2
  have F3d2 : F3 dx2 = none := by
    cases z : F3 dx2 with
    | none => rfl
    | some o =>
      have y1 := g3.nw dx2 (by rw [z]; simp) (by rw [upd_same]; simp)
      exact absurd (none_of_same g2.fh.s hd2) y1
  have sF : Same F F3 := same_trans g2.ff g3.ff
  -- the fields
  obtain ⟨Hm, hHm⟩ : ∃ Hm, Hm = upd (upd H3 a2 (.ins C2 dx2 (ctrF u1 u2 vp vc kad2))) kad2 (dN P w kad2 []) := ⟨_, rfl⟩
  have Hma : Hm a = some (.ins C dx []) := by rw [hHm, upd_ne b4, upd_ne b3]; exact H3a
  show ∃ x, _ ∧ _
  rw [← hHm]
  refine ⟨.ref a, rfl, a, C, dx, [], rfl, Hma, hcl, n1, by simp, ?_⟩
  have f1 : putF "counter" (.ref a2) [] = ([("counter", .ref a2)] : List (Str × V)) := rfl
  rw [f1]
  refine ⟨v2, rfl, .ref a, rfl, a, C, dx, _, rfl, upd_same, hcl, n2, by simp, ?_⟩
  have f2 : putF "laid" v2 [("counter", .ref a2)] = ([("counter", .ref a2), ("laid", v2)] : List (Str × V)) := by
    simp only [putF]
    rw [if_neg (by decide +kernel)]
  rw [f2, upd_upd]
  refine ⟨v3, rfl, .ref a, rfl, a, C, dx, _, rfl, upd_same, hcl, n3, by simp, ?_⟩
  have f3 : putF "weights" v3 [("counter", .ref a2), ("laid", v2)] = ([("counter", .ref a2), ("laid", v2), ("weights", v3)] : List (Str × V)) := by
    simp only [putF]
    rw [if_neg (by decide +kernel), if_neg (by decide +kernel)]
  rw [f3, upd_upd]
  intro kad hk
  have hka : kad ≠ a := fun z => by rw [z, upd_same] at hk; cases hk
  have hkm : Hm kad = none := by rw [upd_ne hka] at hk; exact hk
  have f4 : putF "known" (.ref kad) [("counter", .ref a2), ("laid", v2), ("weights", v3)] = menF v2 v3 a2 kad := by
    simp only [putF]
    rw [if_neg (by decide +kernel), if_neg (by decide +kernel), if_neg (by decide +kernel)]
    rfl
  refine ⟨.ref a, rfl, a, C, dx, [("counter", .ref a2), ("laid", v2), ("weights", v3)], rfl, by rw [upd_ne (Ne.symm hka)]; exact upd_same, hcl, n4, by simp, ?_⟩
  rw [f4, upd_comm hka, upd_upd]
  have k1 : kad ≠ kad2 := fun z => by rw [z, hHm, upd_same] at hkm; cases hkm
  have k2 : kad ≠ a2 := fun z => by rw [hHm, upd_ne k1, z, upd_same] at hkm; cases hkm
  have k3 : H3 kad = none := by rw [hHm, upd_ne k1, upd_ne k2] at hkm; exact hkm
  exact q F3 _ _ gh3 (men_laid (F1 := F3) hcn hC hC2 g3.fh.s (dp_mono sF _ _ d2) (dp_mono sF _ _ d3) (dp_mono g3.ff _ _ e1) (dp_mono g3.ff _ _ e2) e3 e4 F3a F3d F3d2 hxa2 hk2 k3 H3a H3d H3d2 hka2 k2 k1 (Ne.symm hne) b1 b2 rfl (by rw [hHm]; rfl))
end
end DL

set_option maxHeartbeats 1000000
/-! DZ5: a memo whose value is one own method's; fuel of an object that holds a counter. -/
namespace DL
open PySem PySem.Spec L2
open PyProof.Rows hiding St
section
variable [Mem] {X : Cx} {Er : ErT} {s0 : Sh} {wl w w1 w' : List Sh} {xs x1 x2 : Str} {p1 p2 p3 p4 p5 p6 p7 p8 p9 q1 q2 q3 q4 q5 q6 q7 q8 q9 r1 r2 r3 r4 r5 : Pos} {ka kb kc : Nat}
theorem ds_memo1 {cn : Str} {G : D → D → R D} {cond : D → D → Bool} {m : Nat} {tE : TE} {fE : EF} {eE : Expr} (hv : MemV X.prog X.w X.K cn G) (hcl : ∀ C, PySem.W.nsIn X.K mainGlobals cn = some (some (.ref C)) → Cls X.K C ∧ NoAttr X.K C "known") (hu : X.A.units + 64 < cLine)
    (h0 : ∀ p, PE X (.Name xs p) (tVar 0)) (h1 : ∀ p, PE X (.Name x1 p) (tVar 1)) (h2 : ∀ p, PE X (.Name x2 p) (tVar 2)) (hE : DE X Er eE tE fE)
    (hG : ∀ d0 k1 k2, cond d0 (.tuple [k1, k2]) = true → outM (seqS nxS (retS w fE) (some d0 :: some k1 :: some k2 :: List.replicate m none)) = G d0 (.tuple [k1, k2]))
    (hw : ∀ j, j < 3 → sh w j = .fz := by exact fun j _ => fzAll_ok rfl j) (hs0 : s0 = .fz := by rfl)
    (hsw : swapsWith eE (some (.Subscript (.Attribute (.Name xs q1) "known" q2) (.Tuple [.Name x1 q3, .Name x2 q4] kb q5) q6)) q7.line X.env = pure false := by rfl)
    (hbm : behindInMarks .NotIn (.Attribute (.Name xs p5) "known" p6) = false := by rfl)
    (ht : ∀ (a b d : Pos), starEach [.Name x1 a, .Name x2 b] X.env = (false, eval (.Name x1 a) X.env) :: starEach [.Name x2 b] X.env ∧ starEach [.Name x2 d] X.env = (false, eval (.Name x2 d) X.env) :: starEach [] X.env := by intros; exact ⟨rfl, rfl⟩)
    (hb : ∀ p, attributeBase (.Name xs p) "known" X.env (eval (.Name xs p) X.env) = eval (.Name xs p) X.env := by intros; rfl) :
    DS X Er s0 wl w [.If (.Compare (.Tuple [.Name x1 p1, .Name x2 p2] ka p3) [.NotIn] [.Attribute (.Name xs p5) "known" p6] p7)
      [.Assign [.Subscript (.Attribute (.Name xs q1) "known" q2) (.Tuple [.Name x1 q3, .Name x2 q4] kb q5) q6] eE q7] [] p8,
      .Return (some (.Subscript (.Attribute (.Name xs r1) "known" r2) (.Tuple [.Name x1 r3, .Name x2 r4] kc r5) p4)) p9] w'
      (tSeq (tIfS (tB (tNNotIn X tKey (tKnown X.K))) (sNPut X (tKnown X.K) tKey tE) tNext) (tRet (tNGet X (tKnown X.K) tKey))) (memoS cn G cond m) := by
  have hu16 : X.A.units + 16 < cLine := by omega
  have key : ∀ (a b c : Pos) (k : Nat), PE X (.Tuple [.Name x1 a, .Name x2 b] k c) tKey := fun a b c k => pe_tup (pa_cons (h1 a) (pa_cons (h2 b) pa_nil (ht a b b).2) (ht a b b).1)
  have kn : ∀ (a b : Pos), PE X (.Attribute (.Name xs a) "known" b) (tKnown X.K) := fun a b => pe_fld (h0 a) (hb a)
  exact ⟨pss_cons (ps_if (pt_cmp (pc_nnotin hu16 (key _ _ _ _) (kn _ _)) hbm) (pss_one (ps_nput hu16 (kn _ _) (key _ _ _ _) hE.pe hsw)) pss_nil) (pss_one (ps_ret (pe_nget hu16 (kn _ _) (key _ _ _ _) (fun _ _ => rfl)))), dr_memo (tA := tNext) (fA := nxS) hv hcl hw hw hs0 (fun fr F H σ ρ Dn st p => p σ F H (same_refl _) st) hE.rd (fun ρ => ⟨rfl, fun j hj => rfl⟩) hG⟩
end
/-! fuel: how many places are left, of the counter in the field h -/
def lenM (h f : Str) (d0 : D) : Nat := match objOf d0 with
  | some (_, kvs) => (match kvs.lookup h with
    | some d => lenP f d
    | none => 0)
  | none => 0
def fuelM (h f : Str) (d0 k1 : D) : Nat := match k1 with
  | .int i => lenM h f d0 - i.toNat
  | _ => 0
def condM (h f : Str) (j : Nat) (d0 kd : D) : Bool := match kd with
  | .tuple [k1, _] => decide (fuelM h f d0 k1 = j)
  | _ => false
def gwAllM (h f : Str) (gw : Nat → D → D → R D) (d0 kd : D) : R D := match kd with
  | .tuple [k1, _] => gw (fuelM h f d0 k1) d0 kd
  | _ => .bad
theorem memo_fuelM {f h cn : Str} {gw : Nat → D → D → R D} {j m : Nat} : memoS cn (gwAllM h f gw) (condM h f j) m = memoS cn (gw j) (condM h f j) m := by
  funext ρ
  match ρ with
  | some d0 :: some k1 :: some k2 :: r =>
    simp only [memoS]
    by_cases hh : condM h f j d0 (.tuple [k1, k2]) = true
    · have e : fuelM h f d0 k1 = j := by simpa [condM] using hh
      simp only [gwAllM, e]
    · have hh : condM h f j d0 (.tuple [k1, k2]) = false := by simpa using hh
      simp only [hh, Bool.and_false, Bool.false_and, memoO]
      rfl
  | [] => rfl
  | [some _] => rfl
  | [none] => rfl
  | [some _, some _] => rfl
  | [some _, none] => rfl
  | [none, _] => rfl
  | none :: _ :: _ :: _ => rfl
  | some _ :: none :: _ :: _ => rfl
  | some _ :: some _ :: none :: _ => rfl

end DL

set_option maxHeartbeats 1000000
/-! DZ6: short forms. -/
namespace DL
open PySem PySem.Spec L2
open PyProof.Rows hiding St
theorem kmkmG (K : PySem.W.Frag) (mg : Str → Option Value) [M : Mem] {X : Cx} {Er : ErT} {ta tb : TA} {pos : Pos} {pl : Sem Bool} {CX CX' : CXT} {k k' : Nat} {fi fm : Addr} {fd fd' : FuncData} {ps ps' : List Str} {E E' : XK} {x m : Str} {fl : List Str} {p p' apos : Pos} {e e2 : Expr} {es es2 : List Expr} {fa fb : AF} {new : List D → R D} {ns : List Str} {G : D → D → R D} {gm : List D → R D} {n : Nat}
    (T : KlI K mg x fl) (M0 : Mk K T.C fi) (F0 : FnOk X.prog X.w K mg X.base CX k fi fd ps (spMk X.prog X.w K x G ns T.C new)) (hr : Room (k + 1) X.A) (hg : Gl X x) (hb : Binds K fd ps []) (hx : Passes CX X E')
    (ha : DA X ErN (e :: es) ta fa) (hme : Meth K T.C m fm) (F1 : FnOk X.prog X.w K mg X.base CX' k' fm fd' ps' (spW X.prog X.w K mg x G n gm)) (hr' : Room k' X.A) (hb' : Binds K fd' ps' []) (hx' : Passes CX' X E) (he : ∀ c H', Er c H' → erX mg E c H')
    (hbq : ∀ [Mem], DAq X ErN (e2 :: es2) tb fb) (hn : ∀ ρ ds, fb ρ = .ok ds → ds.length + 1 = n) (hK : X.K = K := by rfl) (hG : X.mg = mg := by rfl)
    (hdb : (x == ("__debug__" : Str)) = false := by decide) (hs1 : starEach (e :: es) X.env = (false, eval e X.env) :: starEach es X.env := by rfl) (hpl1 : (backTo p' (starEach es X.env)).any (·.1) = false := by rfl)
    (hst : starEach (e2 :: es2) X.env = (false, eval e2 X.env) :: starEach es2 X.env := by rfl) (hpl : (backTo pos (starEach es2 X.env)).any (·.1) = false := by rfl)
    (ht : eval (.Call (.Attribute (.Call (.Name x p) (e :: es) [] p') m apos) (e2 :: es2) [] pos) X.env = (do
      let ov ← eval (.Call (.Name x p) (e :: es) [] p') X.env
      standAt apos.atName
      let (f, first) ← holding [ov] (getMethod ov m pl)
      callWith pos f first (backTo pos (starEach (e2 :: es2) X.env)) (backToKw pos (keywordEach [] X.env))) := by exact mcall_of (abase_callA (by decide)) fun _ => rfl) :
    DE X Er (.Call (.Attribute (.Call (.Name x p) (e :: es) [] p') m apos) (e2 :: es2) [] pos) (tMeth T.C m (spW X.prog X.w K mg x G n gm) [] E (tMake T.C (spMk X.prog X.w K x G ns T.C new) [] E' ta) tb) (mkmG m ns new fa fb gm) := by
  subst hK; subst hG
  exact de_mkmG T.cl M0 F0 hr hg T.m hb hx ha hme F1 hr' hb' hx' he hbq hn hdb hs1 hpl1 hst hpl ht
theorem kds_mkG (K : PySem.W.Frag) (mg : Str → Option Value) [M : Mem] {X : Cx} {Er : ErT} {s0 : Sh} {wl w w' : List Sh} {ta : TA} {t : TS} {f : SF} {pos : Pos} {CX : CXT} {k : Nat} {fi : Addr} {fd : FuncData} {ps : List Str} {E : XK} {cx x : Str} {fl : List Str} (i : Nat) {p p' pn : Pos} {e : Expr} {es : List Expr} {rest : List Stmt} {fa : AF} {new : List D → R D} {ns : List Str} {G : D → D → R D}
    (T : KlI K mg cx fl) (M0 : Mk K T.C fi) (F0 : FnOk X.prog X.w K mg X.base CX k fi fd ps (spMk X.prog X.w K cx G ns T.C new)) (hr : Room (k + 1) X.A) (hg : Gl X cx) (hb : Binds K fd ps []) (hx : Passes CX X E)
    (hN : X.N.Nodup) (ha : DA X ErN (e :: es) ta fa) (hrest : ∀ [Mem], MemV X.prog X.w K cx G → DS X Er .fz wl (w.set i .fz) rest w' t f) (hw0 : s0 = .fz := by rfl)
    (hi : X.N[i]? = some x := by rfl) (hxl : Loc X.env.scope x := by first | exact Or.inl rfl | exact Or.inr rfl) (hK : X.K = K := by rfl) (hG : X.mg = mg := by rfl)
    (hdb : (cx == ("__debug__" : Str)) = false := by decide) (he : starEach (e :: es) X.env = (false, eval e X.env) :: starEach es X.env := by rfl) (hpl : (backTo p' (starEach es X.env)).any (·.1) = false := by rfl)
    (hs : swapsWith (.Call (.Name cx p) (e :: es) [] p') (some (.Name x pn)) pos.line X.env = pure false := by rfl) (hf : X.fn x = true ∨ X.env.scope.names.lookup x = some .local := by first | exact .inl rfl | exact .inr rfl) :
    DS X Er s0 wl w (.Assign [.Name x pn] (.Call (.Name cx p) (e :: es) [] p') pos :: rest) w' (tSeq (tAsg (tMake T.C (spMk X.prog X.w K cx G ns T.C new) [] E ta) (gName i)) t) (seqS (mkG w i new fa) (endS f)) := by
  subst hK; subst hG
  exact ds_mkG M0 F0 hr hg T.m hb hx hN hi hxl ha hrest hw0 hdb he hpl hs hf
section
variable [Mem] {X : Cx} {e : Expr} {ta : TA} {P : Program} {w : World} {C2 : Addr} {gI : D → R (D × D)} {E2 : XK} {xs x2 x3 : Str} {a1 a2 a3 a4 b1 b2 b3 b4 c2 c3 c4 d1 d2 d3 d4 : Pos}
theorem ps_initM (hm : PE X e (tMake C2 (spI P w X.K C2 gI) [] E2 ta)) (h0 : ∀ p, PE X (.Name xs p) (tVar 0)) (h2 : ∀ p, PE X (.Name x2 p) (tVar 2)) (h3 : ∀ p, PE X (.Name x3 p) (tVar 3))
    (s1 : swapsWith e (some (.Attribute (.Name xs a1) "counter" b1)) d1.line X.env = pure false := by rfl) (s2 : swapsWith (.Name x2 c2) (some (.Attribute (.Name xs a2) "laid" b2)) d2.line X.env = pure false := by rfl) (s3 : swapsWith (.Name x3 c3) (some (.Attribute (.Name xs a3) "weights" b3)) d3.line X.env = pure false := by rfl)
    (s4 : swapsWith (.Dict [] [] c4) (some (.Attribute (.Name xs a4) "known" b4)) d4.line X.env = pure false := by rfl) :
    PSs X [.Assign [.Attribute (.Name xs a1) "counter" b1] e d1, .Assign [.Attribute (.Name xs a2) "laid" b2] (.Name x2 c2) d2, .Assign [.Attribute (.Name xs a3) "weights" b3] (.Name x3 c3) d3, .Assign [.Attribute (.Name xs a4) "known" b4] (.Dict [] [] c4) d4] (tInitM X P w C2 gI E2 ta) :=
  pss_cons (ps_fld (h0 _) hm s1) (pss_cons (ps_fld (h0 _) (h2 _) s2) (pss_cons (ps_fld (h0 _) (h3 _) s3) (pss_one (ps_fld (h0 _) pe_dnewN s4))))
end
theorem kpe_make (K : PySem.W.Frag) (mg : Str → Option Value) {X : Cx} {CX : CXT} {k : Nat} {fi : Addr} {fd : FuncData} {ps : List Str} {E : XK} {x : Str} {fl : List Str} {p pos : Pos} {e : Expr} {es : List Expr} {sp : Sp} {t : TA} (T : KlI K mg x fl) (M0 : Mk K T.C fi) (F0 : FnOk X.prog X.w K mg X.base CX k fi fd ps sp) (hr : Room (k + 1) X.A) (hg : Gl X x) (hb : Binds K fd ps []) (hx : Passes CX X E)
    (ha : PA X (e :: es) t) (hK : X.K = K := by rfl) (hG : X.mg = mg := by rfl) (hdb : (x == ("__debug__" : Str)) = false := by decide) (he : starEach (e :: es) X.env = (false, eval e X.env) :: starEach es X.env := by rfl) (hpl : (backTo pos (starEach es X.env)).any (·.1) = false := by rfl) :
    PE X (.Call (.Name x p) (e :: es) [] pos) (tMake T.C sp [] E t) := by
  subst hK; subst hG
  exact pe_make M0 F0 hr hg T.m hb .nil hx ha hdb he hpl
theorem ps_initMk (K : PySem.W.Frag) (mg : Str → Option Value) {P : Program} {w : World} [Mem] {X : Cx} {CX : CXT} {k : Nat} {fi : Addr} {fd : FuncData} {ps : List Str} {E2 : XK} {x : Str} {fl : List Str} {p pos : Pos} {e : Expr} {es : List Expr} {ta : TA} {fa : AF} {gI : D → R (D × D)} {xs x2 x3 : Str} {a1 a2 a3 a4 b1 b2 b3 b4 c2 c3 c4 d1 d2 d3 d4 : Pos}
    (T : KlI K mg x fl) (M0 : Mk K T.C fi) (F0 : FnOk X.prog X.w K mg X.base CX k fi fd ps (spI P w K T.C gI)) (hr : Room (k + 1) X.A) (hg : Gl X x) (hb : Binds K fd ps []) (hx : Passes CX X E2) (ha : DA X ErN (e :: es) ta fa)
    (h0 : ∀ p, PE X (.Name xs p) (tVar 0)) (h2 : ∀ p, PE X (.Name x2 p) (tVar 2)) (h3 : ∀ p, PE X (.Name x3 p) (tVar 3)) (hK : X.K = K := by rfl) (hG : X.mg = mg := by rfl)
    (hdb : (x == ("__debug__" : Str)) = false := by decide) (he : starEach (e :: es) X.env = (false, eval e X.env) :: starEach es X.env := by rfl) (hpl : (backTo pos (starEach es X.env)).any (·.1) = false := by rfl)
    (s1 : swapsWith (.Call (.Name x p) (e :: es) [] pos) (some (.Attribute (.Name xs a1) "counter" b1)) d1.line X.env = pure false := by rfl) (s2 : swapsWith (.Name x2 c2) (some (.Attribute (.Name xs a2) "laid" b2)) d2.line X.env = pure false := by rfl) (s3 : swapsWith (.Name x3 c3) (some (.Attribute (.Name xs a3) "weights" b3)) d3.line X.env = pure false := by rfl)
    (s4 : swapsWith (.Dict [] [] c4) (some (.Attribute (.Name xs a4) "known" b4)) d4.line X.env = pure false := by rfl) :
    PSs X [.Assign [.Attribute (.Name xs a1) "counter" b1] (.Call (.Name x p) (e :: es) [] pos) d1, .Assign [.Attribute (.Name xs a2) "laid" b2] (.Name x2 c2) d2, .Assign [.Attribute (.Name xs a3) "weights" b3] (.Name x3 c3) d3, .Assign [.Attribute (.Name xs a4) "known" b4] (.Dict [] [] c4) d4] (tInitM X P w T.C gI E2 ta) ∧ DRa K ErN ta fa := by
  subst hK; subst hG
  exact ⟨ps_initM (pe_make M0 F0 hr hg T.m hb .nil hx ha.pe hdb he hpl) h0 h2 h3 s1 s2 s3 s4, ha.rd⟩
/-- o.m(), m uses the memo -/
theorem kmethW0 [Mem] {X : Cx} {Er : ErT} {te : TE} {e : Expr} {fe : EF} {pos : Pos} (K : PySem.W.Frag) (mg : Str → Option Value) {P : Program} {w : World} {pl : Sem Bool} {CX : CXT} {k : Nat} {fd : FuncData} {ps : List Str} {E : XK} {x m : Str} {fl : List Str} {f : Addr} {G : D → D → R D} {g : List D → R D} {apos : Pos} (T : KlI K mg x fl) (hv : MemV P w K x G) (h : DEq X Er e te fe) (hm : Meth K T.C m f)
    (F : FnOk P w K mg X.base CX k f fd ps (spW P w K mg x G 1 g)) (hr : Room k X.A) (hb : Binds K fd ps []) (hx : Passes CX X E) (he : ∀ c H', Er c H' → erX mg E c H')
    (hK : X.K = K := by rfl) (hG : X.mg = mg := by rfl) (hP : X.prog = P := by rfl) (hW : X.w = w := by rfl)
    (ht : eval (.Call (.Attribute e m apos) [] [] pos) X.env = (do
      let ov ← eval e X.env
      standAt apos.atName
      let (f, first) ← holding [ov] (getMethod ov m pl)
      callWith pos f first (backTo pos (starEach [] X.env)) (backToKw pos (keywordEach [] X.env))) := by rfl) :
    DE X Er (.Call (.Attribute e m apos) [] [] pos) (tMeth T.C m (spW P w K mg x G 1 g) [] E te tNil) (methE x m g fe nilA) := by
  subst hK; subst hG; subst hP; subst hW
  exact ⟨pe_meth0 h.pe T.cl hm F hr hb .nil hx ht, dr_methW hv T.n he (fun ρ ds e => by cases e; rfl) h.rd (daq_nil (X := X)).rd⟩
end DL

set_option maxHeartbeats 1000000
/-! DZ7: min(list of ints). -/
namespace DL
open PySem PySem.Spec L2
open PyProof.Rows hiding St
theorem dataLt_int (a b : Int) : PySem.W.dataLt (.int a) (.int b) = decide (a < b) := by
  have e : ∀ a b : Int, itemLt (Sum.inl a) (Sum.inl b) = decide (a < b) := fun a b => rfl
  have h : PySem.W.dataLt (.int a) (.int b) = PyProof.Rows.lexLt itemOrd [Sum.inl a] [Sum.inl b] := rfl
  have n : PyProof.Rows.lexLt itemOrd [] [] = false := rfl
  rw [h, lex_cons, n]
  simp only [e]
  by_cases h1 : a < b
  · rw [decide_eq_true h1]
    exact Bool.true_or _
  · rw [decide_eq_false h1]
    simp
theorem minD_ints (n : Int) (ns : List Int) : PySem.W.minD (.int n) (ns.map .int) = .int (ns.foldl min n) := by
  unfold PySem.W.minD
  induction ns generalizing n with
  | nil => rfl
  | cons q ns ih =>
    rw [List.map_cons, List.foldl_cons, List.foldl_cons, dataLt_int]
    split
    · rename_i h
      have h := of_decide_eq_true h
      rw [Int.min_eq_right (by omega)]
      exact ih q
    · rename_i h
      have h : ¬ q < n := fun z => h (decide_eq_true z)
      rw [Int.min_eq_left (by omega)]
      exact ih n
def rMinN (K : PySem.W.Frag) : List V → Hp → VK → Prop := fun vs H Q => ∃ (a : Addr) (xs : List V) (n : Int) (ns : List Int), vs = [V.ref a] ∧ SqL K H a xs ∧ DpAll K H xs ((n :: ns).map .int) ∧ Q (.int (ns.foldl min n)) H
theorem depth_ints : ∀ ns : List Int, PyData.depthAll (ns.map .int) ≤ 1
  | [] => Nat.zero_le _
  | p :: ps => by
    rw [List.map_cons]
    show max (PyData.depth (.int p)) (PyData.depthAll (ps.map .int)) ≤ 1
    have : PyData.depth (.int p) = 0 := rfl
    have := depth_ints ps
    omega
theorem cr_minN {X : Cx} (hu : X.A.units + 16 < cLine) (hc : X.calm = true) : CallR X (.builtin "min") (rMinN X.K) := by
  intro pins s σ H vs us Q I r h
  obtain ⟨a, xs, p, ps, rfl, hs, hd, q⟩ := h
  obtain ⟨its, rv, hl, hz⟩ := I.list hs
  rw [Vals.ref1 r]
  obtain ⟨as, hr⟩ := Dp.readsAll I _ _ its hd rv
  have hal : PySem.W.AlikeAll ((p :: ps).map .int) := ⟨fun x hx y hy => by
    obtain ⟨x, _, rfl⟩ := List.mem_map.mp hx
    obtain ⟨y, _, rfl⟩ := List.mem_map.mp hy
    rfl, fun x hx => by
    obtain ⟨x, _, rfl⟩ := List.mem_map.mp hx
    exact fun z => by cases z⟩
  have hdp := depth_ints (p :: ps)
  refine PySem.W.min_list_data (vs := its.toArray) (x := .int p) (xs := ps.map .int) (I.ok.hd hc) hl.isList hr hal (by have : PyData.depthAll (.int p :: ps.map .int) ≤ 1 := hdp; omega) fun i v h' tk bs hv hR hk => ?_
  have hv : its[i]? = some v := by simpa using hv
  obtain ⟨hi, hie⟩ := List.getElem?_eq_some_iff.mp hv
  have hxl : i < xs.length := by rw [rv.length]; exact hi
  have hdl := dpAll_len hd
  obtain ⟨d, hdi⟩ : ∃ d : D, ((p :: ps).map PyData.int)[i]? = some d := ⟨_, List.getElem?_eq_getElem (by omega)⟩
  obtain ⟨x, hx, dx⟩ := dpAll_get hd hdi
  have rx : RelV x v := by
    obtain ⟨u, hu1, hu2⟩ := Vals.get rv hx
    rw [hv] at hu1
    cases hu1
    exact hu2
  obtain ⟨bs2, hR2⟩ := Dp.reads I d x v dx rx
  have hcl : d.canLay0 = true := by
    obtain ⟨y, _, rfl⟩ := List.mem_map.mp (List.mem_of_getElem? hdi)
    rfl
  rw [minD_ints] at hR
  have e : d = .int (ps.foldl min p) := (SeqAt.readOf_eq hcl (Reads.keeps hk hR2)).symm.trans (SeqAt.readOf_eq (by rfl) hR)
  rw [e] at dx
  cases dx
  exact ⟨_, H, I.kept hk, rx, q⟩
section
variable [Mem]
theorem cg_minN (K : PySem.W.Frag) : CallG K (rMinN K) minLD := by
  intro F H vs ds d Q s h e k
  match ds, h, e with
  | [.list xs], .cons (.lst h1 h2) .nil, e =>
    simp only [minLD] at e
    split at e
    · rename_i p ps z
      cases e
      have e2 := intsOf_eq z
      subst e2
      exact ⟨_, _, p, ps, rfl, same_seqL s.s h1, dpAll_mono s.s _ _ h2, k _ F H (.refl s) (.int _)⟩
    · cases e
theorem kminN (K : PySem.W.Frag) {X : Cx} (hu : X.A.units + 16 < cLine) (hc : X.calm = true := by rfl) (hK : X.K = K := by rfl) : CallR X (.builtin "min") (rMinN K) := by subst hK; exact cr_minN hu hc
end
end DL

set_option maxHeartbeats 1000000
/-! DZ8: break. -/
namespace DL
open PySem PySem.Spec L2
def bkS : SF := fun ρ => .bk ρ
section
variable [Mem] {X : Cx} {Er : ErT} {s0 : Sh} {w w' : List Sh} {pos : Pos}
theorem d_break : D1 X Er s0 w w (.Break pos) w' tBreak bkS := ⟨ps_break, fun fr F H σ ρ Dn st p => p σ F H (same_refl _) st⟩
end
end DL

set_option maxHeartbeats 2000000
/-! DZ9: try: if .. : x = e1 elif .. : x = e2 .. / except C as n: k = n, over data. -/
namespace DL
open PySem PySem.Spec L2
open PyProof.Rows hiding St
section
variable [M : Mem]
/-- the body of a try that gives one name a value -/
structure DKB (X : Cx) (ia : Nat) (body : List Stmt) (tb : WX → TS) (f : EF) : Prop where
  ps : ∀ (W : WX) (pn : List (Addr × Obj)) (xe : Value → Shared → Prop), Takes (X.tr pn xe) W → PSs (X.tr pn xe) body (tb W)
  rd : ∀ (W : WX) F H σ ρ (Dn : Ends), Wf F H → EnvR X.K F σ ρ → Post F H (ErW X.mg W σ) (f ρ) (fun F' H' d => ∀ v, Dp X.K F' v d → Dn.nx (σ.set ia (some v)) H') → tb W Dn σ H
section
variable {X : Cx} {ia : Nat} {xa : Str} {e : Expr} {te : WX → TE} {f : EF} {p4 p5 pos : Pos}
theorem dkb_asg (hN : X.N.Nodup) (hia : X.N[ia]? = some xa) (hla : Loc X.env.scope xa) (h : DK X e te f)
    (hsw : swapsWith e (some (.Name xa p4)) p5.line X.env = pure false := by rfl) (hfa : X.fn xa = true ∨ X.env.scope.names.lookup xa = some .local := by first | exact .inl rfl | exact .inr rfl) :
    DKB X ia [.Assign [.Name xa p4] e p5] (fun W => tAsg (te W) (gName ia)) f :=
  ⟨fun W pn xe tk => pss_one (ps_set (X := X.tr pn xe) hN hia hla (h.pe W pn xe tk) hsw hfa), fun W F H σ ρ Dn s st q => h.rd W F H σ ρ _ s st q⟩
theorem dkb_if {c : Expr} {a b : List Stmt} {tt : TT} {t1 t2 : WX → TS} {fc : TF} {f1 f2 : EF} (hc : ∀ pn xe, DT (X.tr pn xe) (fun _ _ => False) c tt fc) (h : DKB X ia a t1 f1) (h2 : DKB X ia b t2 f2) : DKB X ia [.If c a b pos] (fun W => tIfS tt (t1 W) (t2 W)) (ifK fc f1 f2) := by
  refine ⟨fun W pn xe tk => pss_one (ps_if (hc pn xe).pe (h.ps W pn xe tk) (h2.ps W pn xe tk)), fun W F H σ ρ Dn s st q => ?_⟩
  refine (hc [] fun _ _ => False).rd F H σ ρ _ s st (Post.imp (post_noErr q) fun F1 H1 c g1 p1 => ?_)
  cases c with
  | true => exact h.rd W F1 H1 σ ρ Dn g1.fh (st.mono g1.ff) p1
  | false => exact h2.rd W F1 H1 σ ρ Dn g1.fh (st.mono g1.ff) p1
end
section
variable {X : Cx} {Er : ErT} {s0 : Sh} {wl w : List Sh} {ia ie ik : Nat} {xn xk xc : Str} {cB : Value} {cs : List Str} {body : List Stmt} {tb : WX → TS} {f : EF} {np p1 p2 p3 pos pos' : Pos}
theorem d_tryB (hs : X.stack = X.env :: X.outer) (hf : X.env.frame = some X.env.locals) (hx0 : X.ex = []) (hN : X.N.Nodup) (hc : Names X xc cB) (hcs : ∀ c ∈ cs, Caught X cB c)
    (h : DKB X ia body tb f) (hie : X.N[ie]? = some xn) (hik : X.N[ik]? = some xk) (hln : X.env.kindOf xn = some .local) (hv : Vis X.env.scope xn) (hlk : Loc X.env.scope xk)
    (hw : ∀ i, sh w i = .fz) (hne : ie ≠ ik)
    (hd1 : (xn == ("__debug__" : Str)) = false := by decide) (hd2 : (xn == ("__classdict__" : Str)) = false := by decide)
    (hsk : swapsWith (.Name xn p2) (some (.Name xk p1)) p3.line X.env = pure false := by rfl) (hfk : X.fn xk = true ∨ X.env.scope.names.lookup xk = some .local := by first | exact .inl rfl | exact .inr rfl) :
    D1 X Er s0 wl w (.Try body [.ExceptHandler (some (.Name xc np)) (some xn) [.Assign [.Name xk p1] (.Name xn p2) p3] pos'] [] [] pos) w
      (fun D σ H => tb (wKeep X.K cB ie ik D) D σ H) (tryS w ia ie ik cs f) := by
  refine ⟨ps_try_keep (tb := tb) hs hf hx0 hN hie hln hv hik hlk hc (fun W pn xe tk po => h.ps W pn xe tk) hd1 hd2 hsk hfk, fun fr F H σ ρ Dn st q => ?_⟩
  unfold tryS at q
  by_cases hz : fzAll w = true
  · rw [if_pos hz] at q
    have env := st.envA
    rw [fz_hid hz] at env
    refine h.rd _ F H σ ρ _ st.fh env ?_
    cases ef : f ρ with
    | bad => rw [ef] at q; exact q.elim
    | ok d =>
      rw [ef] at q
      intro F' H' g v dv
      refine q _ F' H' g.ff (((st.grow g).set_fz dv).congr fun j => ?_)
      by_cases hj : ia = j
      · subst hj; rw [sh_set_fz]; exact hw ia
      · rw [sh_set_ne hj]
    | err c =>
      rw [ef] at q
      by_cases hm : c ∈ cs
      · simp only [if_pos hm] at q
        intro F' H' g C hC
        obtain ⟨C', e1, e2, e3⟩ := (hcs c hm).is
        rw [hC] at e1
        cases e1
        refine ⟨rfl, e3, fun a ha => ?_⟩
        have g2 : Grow F' H' (upd F' a (CxO (.ref C) a)) (upd H' a (CxO (.ref C) a)) := Grow.new g.fh ha
        have st2 := (st.grow g).grow g2
        have hq : DQ X.K (upd F' a (CxO (.ref C) a)) (.ref a) (excD c) := .inr (.inr (.inl ⟨c, rfl, a, C, rfl, e2, upd_same⟩))
        have st3 := ((st2.unset (i := ie)).set_q (i := ik) hq).unset (i := ie)
        have eσ : (((σ.set ie (some (.ref a))).set ik (some (.ref a))).set ie none) = (((σ.set ie none).set ik (some (.ref a))).set ie none) := by
          rw [List.set_comm _ _ hne, List.set_set, List.set_comm _ _ hne, List.set_set]
        rw [eσ]
        refine q _ _ _ (same_trans g.ff g2.ff) (st3.congr fun j => ?_)
        by_cases hj : ik = j
        · subst hj; rw [sh_set_fz]; exact hw ik
        · rw [sh_set_ne hj]
      · simp only [if_neg hm] at q
        exact q.elim
  · rw [if_neg hz] at q
    exact q.elim
end
end
end DL

set_option maxHeartbeats 1000000
/-! EA1: a tuple whose object is known (tuple(list)): made, read, its place of a number. -/
namespace DL
open PySem PySem.Spec L2
open PyProof.Rows hiding St
def rTupO (K : PySem.W.Frag) : List V → Hp → VK → Prop := fun xs H Q => ∃ (p : Addr) (ys : List V), xs = [V.ref p] ∧ SqL K H p ys ∧ ∀ (l : Addr) (o : Obj), H l = none → o.dict = none → Q (.ref l) (upd H l (.frz o (.tup ys)))
theorem call_tupO {X : Cx} : CallR X (.type "tuple") (rTupO X.K) := by
  intro pins s σ H xs us Q I r h
  obtain ⟨p, ys, rfl, hq, q⟩ := h
  obtain ⟨u, rfl, rx⟩ := vals1 r
  cases rx
  obtain ⟨its, r', pl, hz⟩ := I.list hq
  have hlen := r'.length
  refine call_tuple_list pl.isList (fun h' kp => ?_) (by simp only [List.size_toArray] <;> omega)
  have I1 : Inv X pins σ H { s with heap := h' } := I.kept (t' := s.toks) kp
  have I2 : Inv X pins σ (upd H h'.objs.size (.frz { cls := .type "tuple", data := .seq its.toArray } (.tup ys))) { s with heap := h'.push { cls := .type "tuple", data := .seq its.toArray } } :=
    I1.laid (t' := s.toks) (fun b o e => Heap.get?_push_of_some _ e) (Nat.le_refl _) (show ObjOk X.prog X.w _ _ _ (.frz _ (.tup ys)) from ⟨Heap.get?_push_size _ rfl, hz, its, r', IsTup.new _ _⟩)
  exact ⟨.ref h'.objs.size, _, I2, rfl, q _ _ (I1.hok.fresh (Nat.le_refl _)) rfl⟩
def ordN1 : List D → Option (List D)
  | [.list xs] => some xs
  | _ => none
def ordOf : D → Option (List D)
  | .dict [(.str t, .tuple ds)] => if t = "ord" then some ds else none
  | _ => none
theorem ordOf_ord (ds : List D) : ordOf (ordD ds) = some ds := by
  unfold ordOf ordD
  simp only [if_true]
theorem ordOf_inv {d : D} {ds : List D} (h : ordOf d = some ds) : d = ordD ds := by
  unfold ordOf at h
  split at h
  · rename_i t l
    by_cases ht : t = "ord"
    · rw [if_pos ht] at h
      cases h
      rw [ht]
      rfl
    · rw [if_neg ht] at h
      cases h
  · cases h
section
variable [Mem]
theorem dq_ord {K : PySem.W.Frag} {F : Hp} {v : V} {ds : List D} (h : DQ K F v (ordD ds)) : OrdQ K F v (ordD ds) := by
  rcases h with h | ⟨_, _, _, e, _⟩ | ⟨_, e, _⟩ | h | h | h
  · cases h
  · exact absurd e.symm ord_int
  · exact absurd e.symm (ord_ne (by decide +kernel))
  · obtain ⟨_, _, _, _, _, e, _⟩ := h
    exact absurd e.symm (ord_ne (by decide +kernel))
  · exact h
  · obtain ⟨_, _, _, _, e, _⟩ := h
    exact absurd e (tup_ne (by decide +kernel))
theorem ordD_inj {a b : List D} (h : ordD a = ordD b) : a = b := by
  have := ordOf_ord a
  rw [h, ordOf_ord] at this
  exact (Option.some.inj this).symm
/-- a tuple whose object is known, made new -/
def DRu (K : PySem.W.Frag) (Er : ErT) (te : TE) (f : AF) : Prop := ∀ F H σ ρ Q, Wf F H → EnvR K F σ ρ →
  Post F H Er (f ρ) (fun F' H' ds => ∀ (p : Addr) (o : Obj) (vs : List V), H' p = none → o.dict = none → DpAll K F' vs ds → Q (.ref p) (upd H' p (.frz o (.tup vs)))) → te σ H Q
structure DU (X : Cx) (Er : ErT) (e : Expr) (te : TE) (f : AF) : Prop where
  pe : PE X e te
  rd : DRu X.K Er te f
def ordB (w : List Sh) (i : Nat) (f : AF) : SF := fun ρ => runR (f (hidO w ρ)) ρ fun ds => if noListA ds = true then .nx (ρ.set i (some (ordD ds))) else .bad
def ordE (i : Nat) : EF := bE (vqE i) fun d => oE ((ordOf d).map .tuple)
def ordIxD (ds : List D) (d : D) : Option D := match intsOf ds, d with
  | some ns, .int k => if k ∈ ns then some (.int (ns.idxOf k : Nat)) else none
  | _, _ => none
def ordIxE (i : Nat) (fe : EF) : EF := bE (vqE i) fun d => match ordOf d with
  | some ds => bE fe fun b => oE (ordIxD ds b)
  | none => fun _ => .bad
section
variable {X : Cx} {Er : ErT} {e : Expr} {es : List Expr} {ta : TA} {te : TE} {p pos : Pos} {fa : AF}
theorem du_tup (hg : Gl X "tuple") (hm : X.mg "tuple" = none) (ha : DA X Er (e :: es) ta fa)
    (he : starEach (e :: es) X.env = (false, eval e X.env) :: starEach es X.env := by rfl) (hpl : (backTo pos (starEach es X.env)).any (·.1) = false := by rfl) : DU X Er (.Call (.Name "tuple" p) (e :: es) [] pos) (tCB (rTupO X.K) ta) (callN ordN1 fa) := by
  refine ⟨pe_callTy call_tupO hg hm (by decide +kernel) ha.pe (by decide) (by decide) he hpl, fun F H σ ρ Q s st p => ?_⟩
  refine ha.rd F H σ ρ _ s st (Post.imp (Post.bind p) fun F1 H1 ds g1 p1 vs dvs => ?_)
  unfold oE at p1
  cases e : ordN1 ds with
  | none => simp only [e] at p1; exact p1.elim
  | some d =>
    simp only [e] at p1
    match ds, dvs, e with
    | [.list xs], .cons (.lst h1 h2) .nil, e =>
      cases e
      exact ⟨_, _, rfl, same_seqL g1.fh.s h1, fun l o hl ho => Post.now p1 g1.fh l o _ hl ho h2⟩
/-- read as data -/
theorem ordq_dp {K : PySem.W.Frag} {F : Hp} {v : V} {ds : List D} (h : OrdQ K F v (ordD ds)) : Dp K F v (.tuple ds) := by
  obtain ⟨ds', a, o, xs, e, rfl, h1, _, h2⟩ := h
  cases ordD_inj e
  exact .tup (.inl (.inr ⟨_, h1⟩)) h2
theorem deq_rd {K : PySem.W.Frag} {i : Nat} {F H : Hp} {σ : St} {ρ : Env} {Q : VK} (s : Wf F H) (st : EnvR K F σ ρ) (p : Post F H Er (vqE i ρ) (fun F' H' d => ∀ v, DQ K F' v d → Q v H')) : tVar i σ H Q := dr_varq F H σ ρ Q s st p
theorem de_ord {i : Nat} {x : Str} (hN : X.N[i]? = some x) (hv : Vis X.env.scope x) (hd : (x == ("__debug__" : Str)) = false := by decide) (hcd : (x == ("__classdict__" : Str)) = false := by decide) : DE X Er (.Name x pos) (tVar i) (ordE i) := by
  refine ⟨pe_var hN hv hd hcd, fun F H σ ρ Q s st q => ?_⟩
  refine deq_rd (Er := Er) s st (Post.imp (Post.bind q) fun F1 H1 d g1 p1 v dv => ?_)
  unfold oE at p1
  cases e : ordOf d with
  | none => simp only [e] at p1; exact p1.elim
  | some ds =>
    simp only [e, Option.map_some] at p1
    rw [ordOf_inv e] at dv
    exact Post.now p1 g1.fh v (ordq_dp (dq_ord dv))
/-- its place of a number -/
def tOrdIx (to te : TE) : TE := fun σ H Q => to σ H fun x H1 => ∃ (a : Addr) (o : Obj) (xs : List V), x = .ref a ∧ H1 a = some (.frz o (.tup xs)) ∧ o.dict = none ∧ tCons te tNil σ H1 fun ys H2 => ∃ (ns : List Int) (k : Int), xs = ns.map V.int ∧ ys = [.int k] ∧ k ∈ ns ∧ H2 a = some (.frz o (.tup xs)) ∧ Q (.int (ns.idxOf k : Nat)) H2
theorem ints_are : ∀ {ns : List Int} {us : List Value}, Vals (ns.map V.int) us → IntsAre us ns
  | [], _, h => by cases h; exact .nil
  | n :: ns, _, h => by
    cases h with
    | cons r rr =>
      obtain ⟨t, rfl⟩ := r
      exact .cons n t (ints_are rr)
theorem dp_ints {K : PySem.W.Frag} {F : Hp} : ∀ {ns : List Int} {xs : List V}, DpAll K F xs (ns.map .int) → xs = ns.map V.int
  | [], _, h => by cases h; rfl
  | n :: ns, _, h => by
    cases h with
    | cons h1 h2 =>
      cases h1
      rw [dp_ints h2]
      rfl
theorem pe_ordIx {o : Expr} {to : TE} {apos cpos : Pos} (ho : PE X o to) (he : PE X e te)
    (hbase : attributeBase o "index" X.env (eval o X.env) = eval o X.env := by rfl)
    (hfew : ((backTo cpos (starEach [e] X.env)).all (fun x => !x.1) && (backToKw cpos (keywordEach [] X.env)).all (fun x => x.1.isSome)
      && decide ([e].length + ([] : List Keyword).length + (if ([] : List Keyword).isEmpty then 0 else 1) < 30)) = true := by rfl)
    (hline : (apos.endLine == cpos.line) = true := by rfl) (hs : starEach [e] X.env = (false, eval e X.env) :: starEach [] X.env := by rfl) (hplain : (backTo cpos (starEach [] X.env)).any (·.1) = false := by rfl) :
    PE X (.Call (.Attribute o "index" apos) [e] [] cpos) (tOrdIx to te) := by
  refine ⟨fun pins s σ H Q I h => ?_⟩
  refine wpAny_Call_method_late hbase hfew hline rfl (thn (ho.run pins s σ H _ I h) fun v s1 ⟨x, H1, I1, r1, a, ob, xs, ex, h1, hd, q1⟩ => ?_)
  subst ex
  obtain rfl : v = Value.ref a := r1
  obtain ⟨hg, hz, its, rv, tp⟩ := I1.hok a _ h1
  refine ⟨"tuple", "tuple.index", PySem.F.plainAttrs_tuple, PySem.F.slot_tuple_index, PySem.F.type_tuple_index, (let ⟨o, ho, hc, _⟩ := tp; ⟨o, ho, hc⟩), (fun b eb => by cases eb; exact ⟨ob, hg, hd⟩), ?_⟩
  have hA := (pa_cons he pa_nil hs).run cpos pins s1 σ H1 _ I1 q1
  rw [hs] at hA ⊢
  refine Calls.callWith_builtin (by show (false || (backTo cpos (starEach [] X.env)).any (·.1)) = false; rw [hplain] <;> rfl) (Calls.evalArgs_plain ?_)
  refine thn hA fun us s2 ⟨vs, H2, I2, r2, ns, k, e1, e2, hk, h2, q2⟩ => ?_
  subst e1 e2
  obtain ⟨u, rfl, t, rfl⟩ := vals1 r2
  obtain ⟨_, _, its2, rv2, tp2⟩ := I2.hok a _ h2
  exact SeqAt.tuple_index_ints tp2 (ints_are rv2) hk ⟨.int (ns.idxOf k : Nat), H2, I2.tok _, ⟨_, rfl⟩, q2⟩
theorem kOrdIx {i : Nat} {x : Str} {p1 apos cpos : Pos} {fe : EF} (hN : X.N[i]? = some x) (hv : Vis X.env.scope x) (h : DE X Er e te fe) (hd : (x == ("__debug__" : Str)) = false := by decide) (hcd : (x == ("__classdict__" : Str)) = false := by decide)
    (hbase : attributeBase (.Name x p1) "index" X.env (eval (.Name x p1) X.env) = eval (.Name x p1) X.env := by rfl)
    (hfew : ((backTo cpos (starEach [e] X.env)).all (fun x => !x.1) && (backToKw cpos (keywordEach [] X.env)).all (fun x => x.1.isSome)
      && decide ([e].length + ([] : List Keyword).length + (if ([] : List Keyword).isEmpty then 0 else 1) < 30)) = true := by rfl)
    (hline : (apos.endLine == cpos.line) = true := by rfl) (hs : starEach [e] X.env = (false, eval e X.env) :: starEach [] X.env := by rfl) (hplain : (backTo cpos (starEach [] X.env)).any (·.1) = false := by rfl) :
    DE X Er (.Call (.Attribute (.Name x p1) "index" apos) [e] [] cpos) (tOrdIx (tVar i) te) (ordIxE i fe) := by
  refine ⟨pe_ordIx (pe_var hN hv hd hcd) h.pe hbase hfew hline hs hplain, fun F H σ ρ Q s st q => ?_⟩
  refine deq_rd (Er := Er) s st (Post.imp (Post.bind q) fun F1 H1 d g1 p1 v dv => ?_)
  cases e : ordOf d with
  | none => simp only [e] at p1; exact p1.elim
  | some ds =>
    simp only [e] at p1
    rw [ordOf_inv e] at dv
    obtain ⟨ds', a, o, xs, ed, rfl, h1, h2, h3⟩ := dq_ord dv
    cases ordD_inj ed
    refine ⟨a, o, xs, rfl, g1.fh.s a _ h1, h2, ?_⟩
    refine h.rd F1 H1 σ ρ _ g1.fh (st.mono g1.ff) (Post.imp (Post.bind p1) fun F2 H2 b g2 p2 w dw => ?_)
    unfold oE ordIxD at p2
    cases ei : intsOf ds with
    | none => simp only [ei] at p2; exact p2.elim
    | some ns =>
      simp only [ei] at p2
      cases b with
      | int k =>
        by_cases hk : k ∈ ns
        · simp only [if_pos hk] at p2
          cases dw
          have e3 := intsOf_eq ei
          subst e3
          refine ⟨ns, k, dp_ints h3, rfl, hk, g2.fh.s a _ (g2.ff a _ h1), Post.now p2 g2.fh _ (.int _)⟩
        · simp only [if_neg hk] at p2
          exact p2.elim
      | _ => exact p2.elim
end
end
end DL

set_option maxHeartbeats 4000000
/-! EA2: sorted(tuple of ints); x = tuple(list) kept as a tuple whose object is known. -/
namespace DL
open PySem PySem.Spec L2 PyProof.Rows SrtO Srt
section
variable {prog : Program} {w : World} {A : Around} {E : Value → Shared → Prop} {s : Shared}
theorem sorted_tupO {l : Addr} {o : Obj} {n : Nat} {vs : List Value} {ltv : Value → Value → Bool} {Q : Value → Shared → Prop} (O : Swo ltv) (ho : s.heap.get? l = some o) (hc : o.cls = .type "tuple") (hd : o.data = .seq vs.toArray n) (hz : vs.length ≤ sizeLine)
    (hS : 2 ≤ vs.length → ∀ (h₁ : Heap) (a : Addr), SortableO prog w A.in1.in1 { s with heap := h₁ } a vs ltv)
    (h : ∀ (h1 h' : Heap) (d : Addr) (out : List Value), Srtd ltv out → Stb ltv out vs → (∀ b o, s.heap.get? b = some o → h1.get? b = some o) → (∀ b o, h1.get? b = some o → h'.get? b = some o) → h1.objs.size ≤ d → (∃ n, h'.get? d = some (seqObj "list" out.toArray n)) → Q (.ref d) { s with heap := h' }) :
    wpAny (model prog w) A (call (.builtin "sorted") [.ref l]) Q E s := by
  refine Calls.call_function_entry kind_sorted plain_sorted entry_sorted (args_sorted1 _) ?_
  unfold Builtin.«sorted»
  refine wpAny_bind (m := checkCount "sorted" 1 1 _) (wpAny_pure ?_)
  refine wpAny_bind (wpAny_collect_seq (hsz := by simpa using hz) l (.inr rfl) ho hc hd fun h1 hk1 => ?_)
  refine wpAny_bind (wpAny_newList ?_ (by simpa using hz))
  have hoL : (h1.push (seqObj "list" vs.toArray 0)).get? h1.objs.size = some (seqObj "list" vs.toArray 0) := Heap.get?_push_size _ rfl
  show wpAny _ _ _ _ _ { s with heap := h1.push (seqObj "list" vs.toArray 0) }
  refine wpAny_bind (wpAny_holding (wpAny_call_entry slot_list_sort ⟨_, hoL, rfl⟩ entry_list_sort (list_sort_ord O hoL hz (fun h2 => hS h2 _ _) fun out hs hb => ⟨_, rfl, ?_⟩) (args_list_sort _)))
  refine wpAny_pure ⟨_, rfl, h h1 _ _ out hs hb hk1 (fun b o e1 => ?_) (Nat.le_refl _) (sortedHeap_at hoL)⟩
  · have hlt : b < h1.objs.size := Heap.lt_size e1
    have e2 : (h1.push (seqObj "list" vs.toArray 0)).get? b = some o := Heap.get?_push_of_some _ e1
    rw [sortedHeap_old (Nat.ne_of_lt hlt) (Heap.lt_size e2)]
    exact e2
end
/-- sorted(t), a tuple of ints -/
def rSortedTI (K : PySem.W.Frag) : List V → Hp → VK → Prop := fun vs H Q => ∃ (a : Addr) (ns : List Int), vs = [V.ref a] ∧ SqT K H a (ns.map V.int) ∧
  ∀ (ns' : List Int) (p : Addr), ns'.Perm ns → ns'.Pairwise (· ≤ ·) → H p = none → Q (.ref p) (upd H p (.lst (ns'.map V.int)))
theorem cr_sortedTI {X : Cx} : CallR X (.builtin "sorted") (rSortedTI X.K) := by
  intro pins s σ H vs us Q I r h
  obtain ⟨a, ns, rfl, hs, q⟩ := h
  obtain ⟨its, rv, ⟨o, ho, hc, n, hd⟩, hz⟩ := I.tuple hs
  rw [Vals.ref1 r]
  have hi := rv.ints
  refine sorted_tupO swo_int ho hc hd (by rw [← rv.length]; exact hz) (fun h2 h₁ a' => ints_sortable hi h2) fun h1 h' d out e1 e2 kp1 kp2 hd hn => ?_
  obtain ⟨k1, k2, k3⟩ := ints_out hi e1 e2
  obtain ⟨ep, he'⟩ := hn
  have hlen : ((out.map iv).map V.int).length ≤ sizeLine := by
    rw [List.length_map, k2.length_eq]
    rw [List.length_map] at hz
    exact hz
  have I1 : Inv X pins σ H { s with heap := h1 } := I.kept (t' := s.toks) kp1
  exact ⟨.ref d, upd H d (.lst ((out.map iv).map V.int)), I1.laid (t' := s.toks) kp2 hd ⟨hlen, out, ep, vals_of_ints k1, he'⟩, rfl, q _ _ k2 k3 (I1.hok.fresh hd)⟩
def sortTD : List D → Option D
  | [.tuple xs] => (intsOf xs).map fun ns => .list ((sortN ns).map .int)
  | _ => none
section
variable [Mem]
theorem cg_sortTI (K : PySem.W.Frag) : CallG K (rSortedTI K) sortTD := by
  intro F H vs ds d Q s h e k
  match ds, h, e with
  | [.tuple xs], .cons (.tup h1 h2) .nil, e =>
    simp only [sortTD] at e
    obtain ⟨ns, e1, e2⟩ := Option.map_eq_some_iff.mp e
    subst e2
    have e3 := intsOf_eq e1
    subst e3
    rw [dp_ints h2] at h1
    refine ⟨_, ns, rfl, same_seqT s.s h1, fun ns' p q1 q2 hp => ?_⟩
    rw [sortN_of q1 q2]
    exact k _ _ _ (Grow.new s hp) (.lst (.inl (.inl upd_same)) (dpAll_intsI _))
theorem ksortT (K : PySem.W.Frag) {X : Cx} (hK : X.K = K := by rfl) : CallR X (.builtin "sorted") (rSortedTI K) := by subst hK; exact cr_sortedTI
/-! x = tuple(list): kept -/
section
variable {X : Cx} {Er : ErT} {s0 : Sh} {wl w w' : List Sh} {te : TE} {K : PySem.W.Frag} {pos : Pos}
theorem runUV {fr : Fr} {F H : Hp} {σ : L2.St} {ρ : DL.Env} {Dn : Ends} {fe : AF} {k : List D → Out} {Q : VK} (hw : sh w 0 = s0) (h : DRu K Er te fe) (st : SR K fr w F H σ ρ) (p : PostS K fr s0 wl w' F Er (runR (fe (hidO w ρ)) ρ k) Dn)
    (q : ∀ ds p o vs F1 H1, Same F F1 → SR K fr w F1 H1 σ ρ → H1 p = none → o.dict = none → (noListA ds = true → DpAll K F1 vs ds) → PostS K fr s0 wl w' F1 Er (k ds) Dn → Q (.ref p) (upd H1 p (.frz o (.tup vs)))) : te σ H Q := by
  obtain ⟨W, s1, s2, env, fin⟩ := st.view
  refine h W H σ _ _ s2 env ?_
  cases e : fe (hidO w ρ) with
  | ok d =>
    rw [e, runR_ok] at p
    intro W' H' gr a o vs ha ho dv
    obtain ⟨F', s3, st', hd⟩ := fin W' H' gr
    exact q d a o vs F' H' s3 st' ha ho (fun n => noListA_all hd d vs n dv) (PostS.mono p s3)
  | err c =>
    rw [e] at p
    intro W' H' gr
    obtain ⟨F', s3, st', _⟩ := fin W' H' gr
    exact p σ F' H' w hw st'
  | bad => rw [e] at p; exact p
theorem s_ordB (i : Nat) {x : Str} {e : Expr} {pos' : Pos} {fe : AF} (hN : X.N.Nodup) (h : DU X Er e te fe) (hi : X.N[i]? = some x := by rfl) (hx : Loc X.env.scope x := by first | exact Or.inl rfl | exact Or.inr rfl) (hw : sh w 0 = s0 := by rfl) (hs : swapsWith e (some (.Name x pos')) pos.line X.env = pure false := by rfl) (hf : X.fn x = true ∨ X.env.scope.names.lookup x = some .local := by first | exact .inl rfl | exact .inr rfl | assumption) :
    D1 X Er s0 wl w (.Assign [.Name x pos'] e pos) (w.set i .fz) (tAsg te (gName i)) (ordB w i fe) :=
  ⟨ps_set hN hi hx h.pe hs hf, fun fr F H σ ρ Dn st p => runUV (te := te) hw h.rd st p fun ds a o vs F1 H1 s1 st1 ha ho dv p1 => by
    by_cases n : noListA ds = true
    · rw [if_pos n] at p1
      have g := Grow.new (o := .frz o (.tup vs)) st1.fh ha
      exact p1 _ _ _ g.ff ((st1.grow g).set_q (.inr (.inr (.inr (.inr (.inl ⟨ds, a, o, vs, rfl, rfl, upd_same, ho, dpAll_mono g.ff _ _ (dv n)⟩))))))
    · rw [if_neg n] at p1
      exact p1.elim⟩
end
end
end DL

set_option maxHeartbeats 1000000
/-! EA3: short forms of EA1, EA2. -/
namespace DL
open PySem PySem.Spec L2
section
variable [Mem] {X : Cx} {Er : ErT}
theorem dov (i : Nat) {x : Str} {pos : Pos} (hN : X.N[i]? = some x := by rfl) (hv : Vis X.env.scope x := by first | exact Or.inl rfl | exact Or.inr (Or.inl rfl) | exact Or.inr (Or.inr rfl)) (hd : (x == ("__debug__" : Str)) = false := by decide) (hcd : (x == ("__classdict__" : Str)) = false := by decide) : DE X Er (.Name x pos) (tVar i) (ordE i) :=
  de_ord hN hv hd hcd
theorem kordix (i : Nat) {x : Str} {e : Expr} {te : TE} {p1 apos cpos : Pos} {fe : EF} (h : DE X Er e te fe) (hN : X.N[i]? = some x := by rfl) (hv : Vis X.env.scope x := by first | exact Or.inl rfl | exact Or.inr (Or.inl rfl) | exact Or.inr (Or.inr rfl)) (hd : (x == ("__debug__" : Str)) = false := by decide) (hcd : (x == ("__classdict__" : Str)) = false := by decide)
    (hbase : attributeBase (.Name x p1) "index" X.env (eval (.Name x p1) X.env) = eval (.Name x p1) X.env := by rfl)
    (hfew : ((backTo cpos (starEach [e] X.env)).all (fun x => !x.1) && (backToKw cpos (keywordEach [] X.env)).all (fun x => x.1.isSome)
      && decide ([e].length + ([] : List Keyword).length + (if ([] : List Keyword).isEmpty then 0 else 1) < 30)) = true := by rfl)
    (hline : (apos.endLine == cpos.line) = true := by rfl) (hs : starEach [e] X.env = (false, eval e X.env) :: starEach [] X.env := by rfl) (hplain : (backTo cpos (starEach [] X.env)).any (·.1) = false := by rfl) :
    DE X Er (.Call (.Attribute (.Name x p1) "index" apos) [e] [] cpos) (tOrdIx (tVar i) te) (ordIxE i fe) := kOrdIx hN hv h hd hcd hbase hfew hline hs hplain
theorem ktupU (K : PySem.W.Frag) {e : Expr} {es : List Expr} {ta : TA} {fa : AF} {p pos : Pos} (hg : Gl X "tuple") (hm : X.mg "tuple" = none) (ha : DA X Er (e :: es) ta fa)
    (he : starEach (e :: es) X.env = (false, eval e X.env) :: starEach es X.env := by rfl) (hpl : (backTo pos (starEach es X.env)).any (·.1) = false := by rfl) (hK : X.K = K := by rfl) : DU X Er (.Call (.Name "tuple" p) (e :: es) [] pos) (tCB (rTupO K) ta) (callN ordN1 fa) := by subst hK; exact du_tup hg hm ha he hpl
end
end DL

set_option maxHeartbeats 1000000
/-! EB1: dicts whose keys are tuples of ints: the hand layer's rules over dX. -/
namespace DL
open PySem PySem.Spec L2
open PyProof.Rows hiding St
theorem hashes_num (w w' : World) : ∀ ns : List Int, NestedKey.hashes w (ns.map .num) = NestedKey.hashes w' (ns.map .num)
  | [] => rfl
  | n :: ns => by
    rw [List.map_cons]
    simp only [NestedKey.hashes]
    rw [hashes_num w w' ns]
    rfl
theorem hash_nk (w w' : World) (ns : List Int) : NestedKey.hash w (nk ns) = NestedKey.hash w' (nk ns) := by
  unfold nk
  simp only [NestedKey.hash]
  rw [hashes_num w w' ns]
def NumK (xs : NXs) : Prop := ∀ x ∈ xs, ∃ ns, x.1 = nk ns
theorem nraw_any {P P' : Program} {w w' : World} {k : Addr} {xs : NXs} {h : Heap} (n : NumK xs) (r : NRaw P w k xs h) : NRaw P' w' k xs h := by
  obtain ⟨a, b, o, es, ep, e1, e2, e3, e4, e5⟩ := r
  refine ⟨a, b, o, es, ep, e1, e2, e3, ?_, e5⟩
  rw [e4]
  refine List.map_congr_left fun x hx => ?_
  obtain ⟨ns, hn⟩ := n x hx
  show (⟨NestedKey.hash w x.1, _, _⟩ : DictEntry) = ⟨NestedKey.hash w' x.1, _, _⟩
  rw [hn, hash_nk w w']
theorem dX_ok {P : Program} {w : World} {H : Hp} {h : Heap} {k : Addr} {xs : NXs} (r : ∀ P w, NRaw P w k xs h) : ObjOk P w H h k (dX k xs) :=
  ⟨r, (let ⟨_, _, o, _, _, e, _⟩ := r P w; ⟨o, e⟩), fun h1 h2 r k P w => (let ⟨a, b, o, es, ep, e, c⟩ := r P w; ⟨a, b, o, es, ep, k o e, c⟩)⟩
section
variable {X : Cx} {pins : List (Addr × Obj)} {σ : St} {H : Hp} {s : Shared} {d b : Addr} {xs : NXs} {key : NestedKey} {A : Around} {E : Value → Shared → Prop}
theorem dictX (I : Inv X pins σ H s) (e : H d = some (dX d xs)) (hk : ∀ x ∈ xs, NKey X.K H x.1 x.2.1) : (d == sysModules) = false ∧ xs.length ≤ sizeLine ∧ s.heap.DictOfH (nestedKind X.prog X.w) d xs := by
  obtain ⟨a1, a2, o, es, ep, h1, h2, h3, h4, h5⟩ := (I.hok d _ e).1 X.prog X.w
  exact ⟨a1, a2, o, es, ep, h1, h2, h3, h4, fun x hx => nkey_is I (hk x hx), h5⟩
theorem dictX_at (I : Inv X pins σ H s) (e : H d = some (dX d xs)) : s.TypeIs (.ref d) "dict" ∧ (∀ b, Value.ref d = .ref b → ∃ ob, s.heap.get? b = some ob ∧ ob.dict = none) ∧ (d == sysModules) = false := by
  obtain ⟨a1, _, o, _, _, h1, h2, _⟩ := (I.hok d _ e).1 X.prog X.w
  refine ⟨⟨o, h1, h2.1⟩, fun b eb => ?_, a1⟩
  cases eb
  exact ⟨o, h1, h2.2.1⟩
end
def tXGet2 (K : PySem.W.Frag) (td ty tz : TE) : TE := fun σ H Q => td σ H fun x H1 => ∃ d, x = .ref d ∧ (∃ xs, H1 d = some (dX d xs)) ∧ ty σ H1 fun y H2 => tz σ H2 fun z H3 => ∃ b xs key, y = .ref b ∧ H3 d = some (dX d xs) ∧ (∀ x ∈ xs, NKey K H3 x.1 x.2.1) ∧ NKey K H3 key b ∧
  ∃ v : V, (∀ p, atKey xs key = some p → RelV v p.2) ∧ (atKey xs key = none → v = z) ∧ Q v H3
def sXPut (K : PySem.W.Frag) (td ty tv : TE) : TS := fun D σ H => tv σ H fun v H1 => td σ H1 fun x H2 => ty σ H2 fun y H3 => ∃ d b xs key, x = .ref d ∧ y = .ref b ∧ H3 d = some (dX d xs) ∧ (∀ x ∈ xs, NKey K H3 x.1 x.2.1) ∧ NKey K H3 key b ∧ NumK xs ∧ (∃ ns, key = nk ns) ∧ xs.length < sizeLine ∧ ∀ u, RelV v u → D.nx σ (upd H3 d (dX d (storedH xs key b u)))
def tDNewX : TE := fun _ H Q => ∀ p, H p = none → Q (.ref p) (upd H p (dX p []))
def rLenXD (K : PySem.W.Frag) : List V → Hp → VK → Prop := fun vs H Q => ∃ (p : Addr) (xs : NXs), vs = [.ref p] ∧ H p = some (dX p xs) ∧ (∀ x ∈ xs, NKey K H x.1 x.2.1) ∧ Q (.int (xs.length : Nat)) H
theorem stored_num {xs : NXs} {key : NestedKey} {b : Addr} {u : Value} (h : NumK xs) (hk : ∃ ns, key = nk ns) : NumK (storedH xs key b u) := fun x hx => by
  unfold storedH at hx
  split at hx
  · obtain ⟨y, hy, e⟩ := List.mem_map.mp hx
    obtain ⟨ns, hn⟩ := h y hy
    refine ⟨ns, ?_⟩
    rw [← hn, ← e]
    unfold putAt
    split <;> rfl
  · rcases List.mem_append.mp hx with hx | hx
    · exact h x hx
    · rw [List.mem_singleton] at hx
      obtain ⟨ns, e⟩ := hk
      exact ⟨ns, by rw [hx, e]⟩
section
variable {X : Cx} {o i e f value : Expr} {pos pos' tpos apos cpos : Pos} {td ty tv tz : TE}
theorem pe_xget2 (hu : X.A.units + 16 < cLine) (ho : PE X o td) (he : PE X e ty) (hf : PE X f tz) (m : M2 X o "get" apos e f cpos) : PE X (.Call (.Attribute o "get" apos) [e, f] [] cpos) (tXGet2 X.K td ty tz) := by
  refine ⟨fun pins s σ H Q I h => ?_⟩
  refine wpAny_Call_method m.base m.few m.line PySem.F.plainAttrs_dict PySem.F.slot_dict_get PySem.F.type_dict_get (thn (ho.run pins s σ H _ I h) fun u s1 ⟨x, H1, I1, rx, d, ex, ⟨xs1, h1⟩, q1⟩ => ?_)
  subst ex
  obtain rfl : u = Value.ref d := rx
  obtain ⟨t1, t2, a1⟩ := dictX_at I1 h1
  refine ⟨t1, t2, ?_⟩
  rw [m.trees]
  refine wpAny_dict_get2_heap (knd := nestedKind X.prog X.w) (by show X.A.units + 1 + 8 < cLine; omega) a1 (thn (he.run pins s1 σ H1 _ I1 q1) fun iv s2 ⟨y, H2, I2, ry, q2⟩ => thn (hf.run pins s2 σ H2 _ I2 q2) fun fv s3 ⟨z, H3, I3, rz, b, xs, key, ey, e3, hk, kb, v, hv1, hv2, q3⟩ => ?_)
  subst ey
  obtain rfl : iv = Value.ref b := ry
  obtain ⟨_, _, dd⟩ := dictX I3 e3 hk
  refine ⟨b, key, xs, rfl, nkey_is I3 kb, dd, ?_⟩
  cases hp : atKey xs key with
  | some p => exact ⟨v, H3, I3.tok _, hv1 p hp, q3⟩
  | none =>
    rw [hv2 hp] at q3
    exact ⟨z, H3, I3.tok _, rz, q3⟩
theorem ps_xput (hu : X.A.units + 16 < cLine) (ho : PE X o td) (hi : PE X i ty) (hv : PE X value tv) (hs : swapsWith value (some (.Subscript o i pos')) pos.line X.env = pure false) :
    PS X (.Assign [.Subscript o i pos'] value pos) (sXPut X.K td ty tv) := by
  refine ⟨fun pins s σ H D I h => ?_⟩
  refine wpAny_Assign_Subscript (thn (hv.run pins s σ H _ I h) fun r s1 ⟨v, H1, I1, rv, q1⟩ => thn (ho.run pins s1 σ H1 _ I1 q1) fun u s2 ⟨x, H2, I2, rx, q2⟩ => thn (hi.run pins s2 σ H2 _ I2 q2) fun iv s3 ⟨y, H3, I3, ry, d, b, xs, key, ex, ey, e, hk, kb, hn, hkn, hl, q3⟩ => ?_) hs
  subst ex ey
  obtain rfl : u = Value.ref d := rx
  obtain rfl : iv = Value.ref b := ry
  obtain ⟨a1, a2, dd⟩ := dictX I3 e hk
  refine wpAny_setItem_heap (knd := nestedKind X.prog X.w) (hsz := a2) (by show X.A.units + 1 + 8 < cLine; omega) (nkey_is I3 kb) dd fun h' dd' hs => ?_
  obtain ⟨q, es, ep, hq, h2, h3, h4, _, h5⟩ := dd'
  exact ⟨σ, _, d_write I3 (by rw [e]; exact True.intro) hs ⟨q, hq⟩ (dX_ok fun P w => nraw_any (P := X.prog) (w := X.w) (stored_num hn hkn) ⟨a1, Nat.le_trans storedH_le hl, q, es, ep, hq, h2, h3, h4, h5⟩), q3 r rv⟩
theorem pe_dnewX : PE X (.Dict [] [] pos) tDNewX := ⟨fun pins s σ H Q I h =>
  wpAny_Dict_empty ⟨.ref s.heap.objs.size, _, I.laid (a := s.heap.objs.size) (o := dX s.heap.objs.size []) (t' := s.toks) (fun _ _ q => Heap.get?_push_of_some _ q) (Nat.le_refl _)
    (dX_ok fun P w => ⟨beq_eq_false_iff_ne.mpr (Ne.symm (Nat.ne_of_lt I.big)), Nat.zero_le _, _, #[], 0, Heap.get?_push_size _ rfl, ⟨rfl, rfl, rfl⟩, rfl, rfl, List.nodup_nil⟩), rfl, h _ (I.hok.fresh (Nat.le_refl _))⟩⟩
theorem call_len_dX : CallR X (.builtin "len") (rLenXD X.K) := by
  intro pins s σ H xs us Q I r h
  obtain ⟨p, ys, rfl, hp, hk, q⟩ := h
  obtain ⟨u, rfl, rx⟩ := vals1 r
  obtain rfl : u = .ref p := rx
  obtain ⟨a1, a2, dd⟩ := dictX I hp hk
  refine call_len_dictH a1 dd (by rw [sizeLine_eq] at a2; omega) ?_
  exact ⟨.int ((ys.length : Nat) : Int), H, I.tok _, ⟨_, rfl⟩, q⟩
end
end DL

set_option maxHeartbeats 1000000
/-! EB2: dicts whose keys are tuples of ints, owned by a slot; read when frozen. -/
namespace DL
open PySem PySem.Spec L2
open PyProof.Rows hiding St
abbrev TKV := List (List Int × D)
def getT (kvs : TKV) (k : List Int) : Option D := (kvs.find? fun p => decide (p.1 = k)).map (·.2)
def putT (kvs : TKV) (k : List Int) (v : D) : TKV := if (kvs.any fun p => decide (p.1 = k)) = true then kvs.map (fun p => if p.1 = k then (p.1, v) else p) else kvs ++ [(k, v)]
def tkvOf : List (D × D) → Option TKV
  | [] => some []
  | (.tuple ks, v) :: r => (intsOf ks).bind fun ns => (tkvOf r).map ((ns, v) :: ·)
  | _ => none
def tupOf : D → Option TKV
  | .dict ((.str t, .none) :: l) => if t = "tup" then tkvOf l else none
  | _ => none
theorem intsOf_ints (ns : List Int) : intsOf (ns.map .int) = some ns := by
  induction ns with
  | nil => rfl
  | cons n ns ih => rw [List.map_cons]; simp [intsOf, ih]
theorem tkvOf_map (kvs : TKV) : tkvOf (kvs.map fun p => (.tuple (p.1.map .int), p.2)) = some kvs := by
  induction kvs with
  | nil => rfl
  | cons p r ih => simp [tkvOf, ih, intsOf_ints]
theorem tupOf_dic (kvs : TKV) : tupOf (tupDic kvs) = some kvs := by
  unfold tupOf tupDic
  simp only [if_true]
  exact tkvOf_map kvs
theorem tkvOf_inv : ∀ {l : List (D × D)} {kvs : TKV}, tkvOf l = some kvs → l = kvs.map fun p => (.tuple (p.1.map .int), p.2)
  | [], kvs, h => by cases h; rfl
  | (.tuple ks, v) :: r, kvs, h => by
    simp only [tkvOf] at h
    obtain ⟨ns, h1, h2⟩ := Option.bind_eq_some_iff.mp h
    obtain ⟨l, h3, h4⟩ := Option.map_eq_some_iff.mp h2
    subst h4
    rw [tkvOf_inv h3, intsOf_eq h1]
    rfl
  | (.none, _) :: _, _, h => by cases h
  | (.int _, _) :: _, _, h => by cases h
  | (.bool _, _) :: _, _, h => by cases h
  | (.str _, _) :: _, _, h => by cases h
  | (.list _, _) :: _, _, h => by cases h
  | (.dict _, _) :: _, _, h => by cases h
theorem tupOf_inv {d : D} {kvs : TKV} (h : tupOf d = some kvs) : d = tupDic kvs := by
  unfold tupOf at h
  split at h
  · rename_i t l
    by_cases ht : t = "tup"
    · rw [if_pos ht] at h
      rw [ht, tkvOf_inv h]
      rfl
    · rw [if_neg ht] at h; cases h
  · cases h
theorem nk_inj {a b : List Int} (h : nk a = nk b) : a = b := by
  unfold nk at h
  injection h with h
  induction a generalizing b with
  | nil => cases b with
    | nil => rfl
    | cons y b => cases h
  | cons x a ih =>
    cases b with
    | nil => cases h
    | cons y b =>
      injection h with h1 h2
      injection h1 with h1
      rw [h1, ih h2]
section
variable [Mem] {K : PySem.W.Frag} {F : Hp}
theorem tupM_num : ∀ {kvs : TKV} {xs : NXs}, TupM K F kvs xs → NumK xs
  | [], [], _ => fun _ h => nomatch h
  | p :: ps, x :: xs, h => fun y hy => by
    rcases List.mem_cons.mp hy with rfl | hy
    · exact ⟨p.1, h.1.1⟩
    · exact tupM_num h.2 y hy
  | [], _ :: _, h => h.elim
  | _ :: _, [], h => h.elim
theorem tupM_key : ∀ {kvs : TKV} {xs : NXs}, TupM K F kvs xs → ∀ x ∈ xs, NKey K F x.1 x.2.1
  | [], [], _ => fun _ h => nomatch h
  | p :: ps, x :: xs, h => fun y hy => by
    rcases List.mem_cons.mp hy with rfl | hy
    · exact h.1.2.1
    · exact tupM_key h.2 y hy
  | [], _ :: _, h => h.elim
  | _ :: _, [], h => h.elim
theorem tupM_len : ∀ {kvs : TKV} {xs : NXs}, TupM K F kvs xs → kvs.length = xs.length
  | [], [], _ => rfl
  | p :: ps, x :: xs, h => by rw [List.length_cons, List.length_cons, tupM_len h.2]
  | [], _ :: _, h => h.elim
  | _ :: _, [], h => h.elim
theorem tupM_get (k : List Int) : ∀ {kvs : TKV} {xs : NXs}, TupM K F kvs xs → (getT kvs k = none ∧ atKey xs (nk k) = none) ∨ ∃ d v p, getT kvs k = some d ∧ vOf d = some v ∧ atKey xs (nk k) = some p ∧ RelV v p.2
  | [], [], _ => .inl ⟨rfl, rfl⟩
  | p :: ps, x :: xs, h => by
    obtain ⟨⟨h1, h2, v, h3, h4⟩, h5⟩ := h
    by_cases e : p.1 = k
    · refine .inr ⟨p.2, v, x.2, ?_, h3, ?_, h4⟩
      · unfold getT
        rw [List.find?_cons_of_pos (by simpa using e)]
        rfl
      · unfold atKey
        have : x.1 = nk k := by rw [h1, e]
        rw [List.find?_cons_of_pos (by simpa using this)]
        rfl
    · have e2 : ¬ x.1 = nk k := fun z => e (nk_inj (h1.symm.trans z))
      have g1 : getT (p :: ps) k = getT ps k := by
        unfold getT
        rw [List.find?_cons_of_neg (by simpa using e)]
      have g2 : atKey (x :: xs) (nk k) = atKey xs (nk k) := by
        unfold atKey
        rw [List.find?_cons_of_neg (by simpa using e2)]
      rw [g1, g2]
      exact tupM_get k h5
  | [], _ :: _, h => h.elim
  | _ :: _, [], h => h.elim
theorem tupM_app {d : D} {v : V} {k : List Int} {b : Addr} {u : Value} (hk : NKey K F (nk k) b) (hd : vOf d = some v) (hr : RelV v u) : ∀ {kvs : TKV} {xs : NXs}, TupM K F kvs xs → TupM K F (kvs ++ [(k, d)]) (xs ++ [(nk k, b, u)])
  | [], [], _ => ⟨⟨rfl, hk, v, hd, hr⟩, trivial⟩
  | p :: ps, x :: xs, h => ⟨h.1, tupM_app hk hd hr h.2⟩
  | [], _ :: _, h => h.elim
  | _ :: _, [], h => h.elim
theorem tupM_map {d : D} {v : V} {k : List Int} {u : Value} (hd : vOf d = some v) (hr : RelV v u) : ∀ {kvs : TKV} {xs : NXs}, TupM K F kvs xs → TupM K F (kvs.map fun p => if p.1 = k then (p.1, d) else p) (xs.map (putAt (nk k) u))
  | [], [], _ => trivial
  | p :: ps, x :: xs, h => by
    obtain ⟨⟨h1, h2, w, h3, h4⟩, h5⟩ := h
    refine ⟨?_, tupM_map hd hr h5⟩
    unfold putAt
    show (_ = nk (if p.1 = k then (p.1, d) else p).1 ∧ _ ∧ ∃ v, vOf (if p.1 = k then (p.1, d) else p).2 = some v ∧ _)
    by_cases e : p.1 = k
    · have e2 : x.1 = nk k := by rw [h1, e]
      rw [if_pos e, if_pos e2]
      exact ⟨h1, h2, v, hd, hr⟩
    · have e2 : ¬ x.1 = nk k := fun z => e (nk_inj (h1.symm.trans z))
      rw [if_neg e, if_neg e2]
      exact ⟨h1, h2, w, h3, h4⟩
  | [], _ :: _, h => h.elim
  | _ :: _, [], h => h.elim
theorem any_get (kvs : TKV) (k : List Int) : (kvs.any fun p => decide (p.1 = k)) = (getT kvs k).isSome := by
  induction kvs with
  | nil => rfl
  | cons p r ih =>
    unfold getT at ih ⊢
    by_cases e : p.1 = k
    · simp [e]
    · rw [List.any_cons, ih, List.find?_cons_of_neg (by simpa using e)]
      simp [e]
theorem tupM_put {d : D} {v : V} {k : List Int} {b : Addr} {u : Value} {kvs : TKV} {xs : NXs} (h : TupM K F kvs xs) (hk : NKey K F (nk k) b) (hd : vOf d = some v) (hr : RelV v u) : TupM K F (putT kvs k d) (storedH xs (nk k) b u) := by
  unfold putT storedH
  rw [any_get]
  rcases tupM_get k h with ⟨e1, e2⟩ | ⟨d', v', p, e1, _, e2, _⟩
  · rw [e1, e2, if_neg (by simp), if_neg (by simp)]
    exact tupM_app hk hd hr h
  · rw [e1, e2, if_pos (show (some d').isSome = true from rfl), if_pos (show (some p).isSome = true from rfl)]
    exact tupM_map hd hr h
theorem nkey_of {H : Hp} {v : V} {ds : List D} {ns : List Int} (h : Dp K H v (.tuple ds)) (e : intsOf ds = some ns) : ∃ b, v = .ref b ∧ NKey K H (nk ns) b := by
  have ed := intsOf_eq e
  subst ed
  have hd : (nk ns).data = .tuple (ns.map .int) := by
    unfold nk
    show PyData.tuple (NestedKey.datas (ns.map .num)) = _
    congr 1
    clear h e
    induction ns with
    | nil => rfl
    | cons n ns ih => rw [List.map_cons, List.map_cons]; show _ :: _ = _ :: _; rw [ih]; rfl
  have hdep : (nk ns).depth ≤ 8 := by
    have : NestedKey.depthAll (ns.map .num) ≤ 1 := by
      clear h e hd
      induction ns with
      | nil => exact Nat.zero_le _
      | cons n ns ih =>
        rw [List.map_cons]
        simp only [NestedKey.depthAll]
        have : (NestedKey.num n).depth ≤ 1 := by simp [NestedKey.depth]
        omega
    unfold nk
    simp only [NestedKey.depth]
    omega
  cases h with
  | tup h1 h2 => exact ⟨_, rfl, by rw [hd]; exact .tup h1 h2, hdep⟩
end
def dtO : Own := ⟨fun K v F o d => ∃ (a : Addr) (kvs : TKV) (xs : NXs), v = .ref a ∧ d = tupDic kvs ∧ o = upd emp a (dX a xs) ∧ TupM K F kvs xs, fun ⟨a, kvs, xs, e1, e2, e3, e4⟩ s => ⟨a, kvs, xs, e1, e2, e3, e4.mono s⟩⟩
/-! mirrors -/
def newT (i : Nat) : SF := fun ρ => .nx (ρ.set i (some (tupDic [])))
def tupD (ρ : Env) (d : D) (k : TKV → Out) : Out := match tupOf d with
  | some kvs => k kvs
  | none => .bad
def keyI (d : D) : Option (List Int) := match d with
  | .tuple ks => intsOf ks
  | _ => none
def putTO (ρ : Env) (i : Nat) (kvs : TKV) (v k : D) : Out := match keyI k, vOf v with
  | some ns, some _ => if kvs.length < 1000000 then .nx (ρ.set i (some (tupDic (putT kvs ns v)))) else .bad
  | _, _ => .bad
def putTS (w : List Sh) (i : Nat) (fk fe : EF) : SF := fun ρ => atSlot ρ i fun d => tupD ρ d fun kvs => runR (fe (hidA w ρ)) ρ fun v => runR (fk (hidA w ρ)) ρ fun k => putTO ρ i kvs v k
def talTO (ρ : Env) (i : Nat) (kvs : TKV) (ns : List Int) (m : D) : Out := match intD m with
  | some m => (match (getT kvs ns).getD (.int 0) with
    | .int z => if kvs.length < 1000000 then .nx (ρ.set i (some (tupDic (putT kvs ns (.int (z + m)))))) else .bad
    | _ => .bad)
  | none => .bad
def talTK (k : D) (g : List Int → Out) : Out := match keyI k with
  | some ns => g ns
  | none => .bad
def talTS (w : List Sh) (i j : Nat) (fe : EF) : SF := fun ρ => atSlot ρ i fun d => tupD ρ d fun kvs => runR (vE j (hidA w ρ)) ρ fun k => talTK k fun ns => runR (fe (hidA w ρ)) ρ fun m => talTO ρ i kvs ns m
/-- x.get(k, z), x frozen -/
def getTD (kvs : TKV) (k z : D) : Option D := (keyI k).map fun ns => (getT kvs ns).getD z
def getTE (i : Nat) (fk fz : EF) : EF := bE (vqE i) fun d => match tupOf d with
  | some kvs => bE fk fun k => bE fz fun z => oE (getTD kvs k z)
  | none => fun _ => .bad
def lenTE (i : Nat) : EF := bE (vqE i) fun d => oE ((tupOf d).map fun kvs => .int (kvs.length : Nat))
section
variable [Mem]
theorem dq_tup {K : PySem.W.Frag} {F : Hp} {v : V} {kvs : TKV} (h : DQ K F v (tupDic kvs)) : ∃ a xs, v = .ref a ∧ F a = some (dX a xs) ∧ TupM K F kvs xs := by
  rcases h with h | ⟨_, _, _, e, _⟩ | ⟨_, e, _⟩ | h | h | h
  · cases h
  · exact absurd e.symm tup_int
  · exact absurd e.symm (tup_ne (by decide +kernel))
  · obtain ⟨_, _, _, _, _, e, _⟩ := h
    exact absurd e.symm (tup_ne (by decide +kernel))
  · obtain ⟨_, _, _, _, e, _⟩ := h
    exact absurd e.symm (tup_ne (by decide +kernel))
  · obtain ⟨a, kvs', xs, e1, e2, e3, e4⟩ := h
    have := tupOf_dic kvs
    rw [e2, tupOf_dic] at this
    cases this
    exact ⟨a, xs, e1, e3, e4⟩
end
end DL

set_option maxHeartbeats 2000000
/-! EB3: the statements and expressions over EB2. -/
namespace DL
open PySem PySem.Spec L2
open PyProof.Rows hiding St
variable [Mem]
section
variable {K : PySem.W.Frag} {fr : Fr} {w : List Sh} {F H F' H' : Hp} {σ : St} {ρ : Env}
theorem SR.set_dt {i : Nat} {p : Addr} (h : SR K fr w F H σ ρ) (hp : H p = none) (hi : i < w.length) : SR K fr (w.set i (.ob dtO)) F (upd H p (dX p [])) (σ.set i (some (.ref p))) (ρ.set i (some (tupDic []))) :=
  h.set_ob (o := upd emp p (dX p [])) ⟨same_refl _, sameM_of (same_upd hp), h.fh.upd hp, fun _ h _ => h⟩ (fun a ha => by
    have e : a = p := by
      by_cases e : a = p
      · exact e
      · rw [upd_ne e] at ha; exact absurd rfl ha
    subst e
    exact ⟨hp, none_of_same h.fh.s hp⟩) (fun a o z => by
    by_cases e : a = p
    · subst e; rw [upd_same] at z ⊢; exact z
    · rw [upd_ne e] at z; cases z) ⟨p, [], [], rfl, rfl, rfl, trivial⟩ hi
theorem SR.get_dt {i : Nat} {d : D} (h : SR K fr w F H σ ρ) (hw : sh w i = .ob dtO) (e : ρ[i]? = some (some d)) : ∃ a kvs xs, σ[i]? = some (some (.ref a)) ∧ d = tupDic kvs ∧ H a = some (dX a xs) ∧ TupM K F kvs xs ∧
    (∀ kvs' xs', TupM K F kvs' xs' → SR K fr w F (upd H a (dX a xs')) σ (ρ.set i (some (tupDic kvs')))) ∧ ∃ F', Same F F' ∧ SR K fr (w.set i .fz) F' H σ ρ := by
  obtain ⟨os, s⟩ := h
  obtain ⟨v, e1, ⟨a, kvs, xs, rfl, e3, eo, e5⟩, so, k1, k2⟩ := s.ob hw e
  have ha : os i a = some (dX a xs) := by rw [eo, upd_same]
  have nF := (s.ow i a (by rw [ha]; simp)).1
  refine ⟨a, kvs, xs, e1, e3, so a _ ha, e5, fun kvs' xs' h' => ?_, ?_⟩
  · refine k1 a (dX a xs') (tupDic kvs') (by rw [ha]; simp) ⟨a, kvs', xs', rfl, rfl, ?_, h'⟩
    rw [eo, upd_upd]
  · have hj : joinH F (os i) a = some (dX a xs) := joinH_some ha
    have sj : Same F (joinH F (os i)) := fun b u z => by
      by_cases hb : b = a
      · subst hb; rw [nF] at z; cases z
      · rw [joinH_none]
        · exact z
        · rw [eo, upd_ne hb]; rfl
    obtain ⟨q1, q2⟩ := k2 (.inr (.inr (.inr (.inr (.inr ⟨a, kvs, xs, rfl, e3, hj, e5.mono sj⟩)))))
    exact ⟨_, q2, q1⟩
theorem SR.freezeT {i : Nat} (h : SR K fr w F H σ ρ) (hw : sh w i = .ob dtO) : ∃ F', Same F F' ∧ SR K fr (w.set i .fz) F' H σ ρ := by
  have none' : (∀ d, ρ[i]? ≠ some (some d)) → ∃ F', Same F F' ∧ SR K fr (w.set i .fz) F' H σ ρ := fun hn => by
    obtain ⟨os, s⟩ := h
    refine ⟨F, same_refl _, os, s.fh, s.gh, s.f0, s.nw, s.oh, s.ow, fun j d q => ?_, s.len, s.om⟩
    have hj : i ≠ j := fun z => by subst z; exact hn d q
    rw [sh_set_ne hj]
    exact s.sl j d q
  cases e : ρ[i]? with
  | none => exact none' fun d z => by rw [e] at z; cases z
  | some o =>
    cases o with
    | none => exact none' fun d z => by rw [e] at z; cases z
    | some d =>
      obtain ⟨_, _, _, _, _, _, _, _, q⟩ := h.get_dt hw e
      exact q
end
section
variable {X : Cx} {Er : ErT} {s0 : Sh} {wl w w' : List Sh} {t : TS} {f : SF} {te tk : TE} {K : PySem.W.Frag} {pos : Pos} {sts : List Stmt}
theorem ds_frzT (i : Nat) (hi : sh w i = .ob dtO) (h : DS X Er s0 wl (w.set i .fz) sts w' t f) : DS X Er s0 wl w sts w' t f := by
  refine ⟨h.ps, fun fr F H σ ρ Dn st p => ?_⟩
  obtain ⟨F', s, st'⟩ := st.freezeT hi
  exact h.rd fr F' H σ ρ Dn st' (PostS.mono p s)
theorem d_newT (i : Nat) {x : Str} {pos' p2 : Pos} (hN : X.N.Nodup) (hi : X.N[i]? = some x := by rfl) (hx : Loc X.env.scope x := by first | exact Or.inl rfl | exact Or.inr rfl) (hl : i < w.length := by decide) (hs : swapsWith (.Dict [] [] p2) (some (.Name x pos')) pos.line X.env = pure false := by rfl)
    (hf : X.fn x = true ∨ X.env.scope.names.lookup x = some .local := by first | exact .inl rfl | exact .inr rfl | assumption) : D1 X Er s0 wl w (.Assign [.Name x pos'] (.Dict [] [] p2) pos) (w.set i (.ob dtO)) (tAsg tDNewX (gName i)) (newT i) := by
  refine ⟨ps_set hN hi hx pe_dnewX hs hf, fun fr F H σ ρ Dn st p => ?_⟩
  intro q hq
  exact p _ F _ (same_refl _) (st.set_dt hq hl)
/-- x[k] = e -/
theorem d_putT (i : Nat) {x : Str} {e k : Expr} {p1 p3 : Pos} {fe fk : EF} (hu : X.A.units + 16 < cLine) (h : DE X Er e te fe) (hk : DE X Er k tk fk) (hi : sh w i = .ob dtO := by rfl) (hw : sh w 0 = s0 := by rfl) (hN : X.N[i]? = some x := by rfl) (hv : Vis X.env.scope x := by first | exact Or.inl rfl | exact Or.inr (Or.inl rfl) | exact Or.inr (Or.inr rfl))
    (hd : (x == ("__debug__" : Str)) = false := by decide) (hcd : (x == ("__classdict__" : Str)) = false := by decide)
    (hs : swapsWith e (some (.Subscript (.Name x p1) k p3)) pos.line X.env = pure false := by rfl) :
    D1 X Er s0 wl w (.Assign [.Subscript (.Name x p1) k p3] e pos) w (sXPut X.K (tVar i) tk te) (putTS w i fk fe) := by
  refine ⟨ps_xput hu (pe_var hN hv hd hcd) hk.pe h.pe hs, fun fr F H σ ρ Dn st p => ?_⟩
  unfold putTS atSlot at p
  cases e1 : ρ[i]? with
  | none => rw [e1] at p; exact p.elim
  | some o =>
    cases o with
    | none => rw [e1] at p; exact p.elim
    | some d =>
      rw [e1] at p
      simp only [tupD] at p
      cases e2 : tupOf d with
      | none => rw [e2] at p; exact p.elim
      | some kvs =>
        rw [e2] at p
        simp only at p
        refine runA (te := te) hw h.rd st p fun dv v F1 H1 s1 st1 hdv p1 => ?_
        obtain ⟨a, kvs1, xs1, q1, q2, q3, q4, _⟩ := st1.get_dt hi e1
        refine ⟨_, q1, ?_⟩
        refine runA (te := tk) hw hk.rd st1 p1 fun dk y F2 H2 s2 st2 hdk p2 => ?_
        obtain ⟨a2, kvs2, xs2, r1, r2, r3, r4, r5, _⟩ := st2.get_dt hi e1
        rw [q1] at r1
        cases r1
        have ek : kvs2 = kvs := by
          rw [r2, tupOf_dic] at e2
          exact Option.some.inj e2
        subst ek
        unfold putTO at p2
        cases e3 : keyI dk with
        | none => simp only [e3] at p2; exact p2.elim
        | some ns =>
          simp only [e3] at p2
          cases e4 : vOf dv with
          | none => simp only [e4] at p2; exact p2.elim
          | some v' =>
            simp only [e4] at p2
            by_cases hl : kvs2.length < 1000000
            · rw [if_pos hl] at p2
              obtain ⟨ks, rfl, eks⟩ : ∃ ks, dk = .tuple ks ∧ intsOf ks = some ns := by
                unfold keyI at e3
                split at e3
                · exact ⟨_, rfl, e3⟩
                · cases e3
              obtain ⟨b, rfl, nb⟩ := nkey_of hdk eks
              have ev : v' = v := by
                have hdv := hdv
                cases dv with
                | int z => cases hdv; cases e4; rfl
                | bool z => cases hdv; cases e4; rfl
                | _ => cases e4
              subst ev
              refine ⟨a, b, xs2, nk ns, rfl, rfl, r3, fun z hz => (tupM_key r4 z hz).mono st2.fh.s, nb.mono st2.fh.s, tupM_num r4, ⟨ns, rfl⟩, by rw [← tupM_len r4, sizeLine_eq]; omega, fun u ru => ?_⟩
              exact p2 _ F2 _ (same_refl _) (r5 _ _ (tupM_put r4 nb e4 ru))
            · rw [if_neg hl] at p2
              exact p2.elim
/-- x[y] = x.get(y, 0) + e -/
theorem d_talT (i j : Nat) {x y : Str} {e : Expr} {p1 p2 p3 p4 p5 p6 p7 p8 p9 : Pos} {j0 : Nat} {fe : EF} (hu : X.A.units + 16 < cLine) (h : DE X Er e te fe) (hi : sh w i = .ob dtO := by rfl) (hw : sh w 0 = s0 := by rfl) (hN : X.N[i]? = some x := by rfl) (hv : Vis X.env.scope x := by first | exact Or.inl rfl | exact Or.inr (Or.inl rfl) | exact Or.inr (Or.inr rfl))
    (hN2 : X.N[j]? = some y := by rfl) (hv2 : Vis X.env.scope y := by first | exact Or.inl rfl | exact Or.inr (Or.inl rfl) | exact Or.inr (Or.inr rfl))
    (hd : (x == ("__debug__" : Str)) = false := by decide) (hcd : (x == ("__classdict__" : Str)) = false := by decide) (hd2 : (y == ("__debug__" : Str)) = false := by decide) (hcd2 : (y == ("__classdict__" : Str)) = false := by decide)
    (m : M2 X (.Name x p4) "get" p5 (.Name y p6) (.Constant (.int 0) j0 p7) p8 := by exact ⟨by rfl, by rfl, by rfl, by rfl⟩)
    (hs : swapsWith (.BinOp (.Call (.Attribute (.Name x p4) "get" p5) [.Name y p6, .Constant (.int 0) j0 p7] [] p8) .Add e p9) (some (.Subscript (.Name x p1) (.Name y p2) p3)) pos.line X.env = pure false := by rfl) :
    D1 X Er s0 wl w (.Assign [.Subscript (.Name x p1) (.Name y p2) p3] (.BinOp (.Call (.Attribute (.Name x p4) "get" p5) [.Name y p6, .Constant (.int 0) j0 p7] [] p8) .Add e p9) pos) w
      (sXPut X.K (tVar i) (tVar j) (tOp (rI0 fun i j => .int (i + j)) (tXGet2 X.K (tVar i) (tVar j) (tC (.int 0))) te)) (talTS w i j fe) := by
  have px : ∀ p, PE X (.Name x p) (tVar i) := fun p => pe_var hN hv hd hcd
  have py : ∀ p, PE X (.Name y p) (tVar j) := fun p => pe_var hN2 hv2 hd2 hcd2
  have dy : ∀ p, DE X Er (.Name y p) (tVar j) (vE j) := fun p => de_var hN2 hv2 hd2 hcd2
  refine ⟨ps_xput hu (px _) (py _) (pe_op op_add (pe_xget2 hu (px _) (py _) pe_int m) h.pe) hs, fun fr F H σ ρ Dn st p => ?_⟩
  unfold talTS atSlot at p
  cases e1 : ρ[i]? with
  | none => rw [e1] at p; exact p.elim
  | some o =>
    cases o with
    | none => rw [e1] at p; exact p.elim
    | some d =>
      rw [e1] at p
      simp only [tupD] at p
      cases e2 : tupOf d with
      | none => rw [e2] at p; exact p.elim
      | some kvs =>
        rw [e2] at p
        simp only at p
        have sameK : ∀ {F1 H1 : Hp}, SR X.K fr w F1 H1 σ ρ → ∃ a xs, σ[i]? = some (some (.ref a)) ∧ H1 a = some (dX a xs) ∧ TupM X.K F1 kvs xs ∧ ∀ kvs' xs', TupM X.K F1 kvs' xs' → SR X.K fr w F1 (upd H1 a (dX a xs')) σ (ρ.set i (some (tupDic kvs'))) := fun s1 => by
          obtain ⟨a, kvs1, xs1, q1, q2, q3, q4, q5, _⟩ := s1.get_dt hi e1
          have ek : kvs1 = kvs := by
            rw [q2, tupOf_dic] at e2
            exact Option.some.inj e2
          subst ek
          exact ⟨a, xs1, q1, q3, q4, q5⟩
        obtain ⟨a, xs0, q1, q3, q4, _⟩ := sameK st
        refine ⟨_, q1, a, rfl, ⟨xs0, q3⟩, ?_⟩
        cases ej : (hidA w ρ)[j]? with
        | none =>
          simp only [vE, ej] at p
          exact p.elim
        | some oj =>
          cases oj with
          | none =>
            simp only [vE, ej] at p
            exact p.elim
          | some dj =>
            simp only [vE, ej] at p
            obtain ⟨vk, hj, dq⟩ := st.envA.sl j dj ej
            have dvk : Dp X.K F vk dj := by
              cases k : okD dj with
              | ok z => exact (dq_dp dq k).1
              | err c => cases dj <;> cases k
              | bad => rw [k] at p; exact p.elim
            have p1 : PostS X.K fr s0 wl w F Er (talTK dj fun ns => runR (fe (hidA w ρ)) ρ fun m => talTO ρ i kvs ns m) Dn := by
              cases dvk <;> exact p
            unfold talTK at p1
            cases e3 : keyI dj with
            | none => simp only [e3] at p1; exact p1.elim
            | some ns =>
              simp only [e3] at p1
              obtain ⟨ks, rfl, eks⟩ : ∃ ks, dj = .tuple ks ∧ intsOf ks = some ns := by
                unfold keyI at e3
                split at e3
                · exact ⟨_, rfl, e3⟩
                · cases e3
              obtain ⟨b, rfl, nb⟩ := nkey_of dvk eks
              obtain ⟨gv, hg1, hg2, hg3⟩ : ∃ gv : V, (∀ p, atKey xs0 (nk ns) = some p → RelV gv p.2) ∧ (atKey xs0 (nk ns) = none → gv = .int 0) ∧ vOf ((getT kvs ns).getD (.int 0)) = some gv := by
                rcases tupM_get ns q4 with ⟨g1, g2⟩ | ⟨d1, v1, p1, g1, g2, g3, g4⟩
                · exact ⟨.int 0, (fun p z => by rw [g2] at z; cases z), fun _ => rfl, by rw [g1]; rfl⟩
                · exact ⟨v1, (fun p z => by rw [g3] at z; cases z; exact g4), (fun z => by rw [g3] at z; cases z), by rw [g1]; exact g2⟩
              refine ⟨_, hj, b, xs0, nk ns, rfl, q3, fun z hz => (tupM_key q4 z hz).mono st.fh.s, nb.mono st.fh.s, gv, hg1, hg2, ?_⟩
              refine runA (te := te) hw h.rd st p1 fun dm vm F2 H2 s2 st2 dvm p2 => ?_
              obtain ⟨a2, xs2, y1, y3, y4, y5⟩ := sameK st2
              rw [q1] at y1
              cases y1
              unfold talTO at p2
              cases dvm with
              | int mm =>
                simp only [intD] at p2
                cases eg : (getT kvs ns).getD (.int 0) with
                | int z =>
                  rw [eg] at p2 hg3
                  simp only at p2
                  cases hg3
                  by_cases hl : kvs.length < 1000000
                  · rw [if_pos hl] at p2
                    refine ⟨z, mm, rfl, rfl, .ref a, q1, .ref b, hj, a, b, xs2, nk ns, rfl, rfl, y3, fun z hz => (tupM_key y4 z hz).mono st2.fh.s, (nb.mono s2).mono st2.fh.s, tupM_num y4, ⟨ns, rfl⟩, by rw [← tupM_len y4, sizeLine_eq]; omega, fun u ru => ?_⟩
                    exact p2 _ F2 _ (same_refl _) (y5 _ _ (tupM_put y4 (nb.mono s2) rfl ru))
                  · rw [if_neg hl] at p2
                    exact p2.elim
                | _ => rw [eg] at p2; exact p2.elim
              | _ => exact p2.elim
/-- x.get(k, z), x frozen -/
theorem de_getT (i : Nat) {x : Str} {k z : Expr} {tz : TE} {p4 p5 p8 : Pos} {fk fz : EF} (hu : X.A.units + 16 < cLine) (hk : DE X Er k tk fk) (hz : DE X Er z tz fz) (hN : X.N[i]? = some x := by rfl) (hv : Vis X.env.scope x := by first | exact Or.inl rfl | exact Or.inr (Or.inl rfl) | exact Or.inr (Or.inr rfl))
    (hd : (x == ("__debug__" : Str)) = false := by decide) (hcd : (x == ("__classdict__" : Str)) = false := by decide)
    (m : M2 X (.Name x p4) "get" p5 k z p8 := by exact ⟨by rfl, by rfl, by rfl, by rfl⟩) :
    DE X Er (.Call (.Attribute (.Name x p4) "get" p5) [k, z] [] p8) (tXGet2 X.K (tVar i) tk tz) (getTE i fk fz) := by
  refine ⟨pe_xget2 hu (pe_var hN hv hd hcd) hk.pe hz.pe m, fun F H σ ρ Q s st q => ?_⟩
  refine deq_rd (Er := Er) s st (Post.imp (Post.bind q) fun F1 H1 d g1 p1 v dv => ?_)
  cases e : tupOf d with
  | none => simp only [e] at p1; exact p1.elim
  | some kvs =>
    simp only [e] at p1
    rw [tupOf_inv e] at dv
    obtain ⟨a, xs, rfl, h1, h2⟩ := dq_tup dv
    refine ⟨a, rfl, ⟨xs, g1.fh.s a _ h1⟩, ?_⟩
    refine hk.rd F1 H1 σ ρ _ g1.fh (st.mono g1.ff) (Post.imp (Post.bind p1) fun F2 H2 dk g2 p2 y hy => ?_)
    refine hz.rd F2 H2 σ ρ _ g2.fh (st.mono (same_trans g1.ff g2.ff)) (Post.imp (Post.bind p2) fun F3 H3 dz g3 p3 w hw => ?_)
    unfold oE getTD at p3
    cases e3 : keyI dk with
    | none => simp only [e3] at p3; exact p3.elim
    | some ns =>
      simp only [e3, Option.map_some] at p3
      obtain ⟨ks, rfl, eks⟩ : ∃ ks, dk = .tuple ks ∧ intsOf ks = some ns := by
        unfold keyI at e3
        split at e3
        · exact ⟨_, rfl, e3⟩
        · cases e3
      obtain ⟨b, rfl, nb⟩ := nkey_of hy eks
      have h2' := h2.mono (same_trans g2.ff g3.ff)
      refine ⟨b, xs, nk ns, rfl, g3.fh.s a _ (g3.ff a _ (g2.ff a _ h1)), fun z hz => (tupM_key h2' z hz).mono g3.fh.s, (nb.mono g3.ff).mono g3.fh.s, ?_⟩
      rcases tupM_get ns h2' with ⟨c1, c2⟩ | ⟨d1, v1, p1, c1, c2, c3, c4⟩
      · refine ⟨w, (fun p z => by rw [c2] at z; cases z), fun _ => rfl, ?_⟩
        rw [c1] at p3
        exact Post.now p3 g3.fh w hw
      · refine ⟨v1, (fun p z => by rw [c3] at z; cases z; exact c4), (fun z => by rw [c3] at z; cases z), ?_⟩
        rw [c1] at p3
        refine Post.now p3 g3.fh v1 ?_
        show Dp X.K F3 v1 d1
        cases d1 with
        | int z => cases c2; exact .int _
        | bool z => cases c2; exact .bl _
        | _ => cases c2
theorem de_lenT (i : Nat) {x : Str} {p1 p2 p3 : Pos} (hg : Gl X "len") (hm : X.mg "len" = none) (hN : X.N[i]? = some x := by rfl) (hv : Vis X.env.scope x := by first | exact Or.inl rfl | exact Or.inr (Or.inl rfl) | exact Or.inr (Or.inr rfl))
    (hd : (x == ("__debug__" : Str)) = false := by decide) (hcd : (x == ("__classdict__" : Str)) = false := by decide)
    (he : starEach [.Name x p1] X.env = (false, eval (.Name x p1) X.env) :: starEach [] X.env := by rfl) (hpl : (backTo p3 (starEach [] X.env)).any (·.1) = false := by rfl) :
    DE X Er (.Call (.Name "len" p2) [.Name x p1] [] p3) (tCB (rLenXD X.K) (tCons (tVar i) tNil)) (lenTE i) := by
  refine ⟨pe_callB call_len_dX hg hm (by decide +kernel) (pa_cons (pe_var hN hv hd hcd) pa_nil he) (by decide) (by decide) he hpl, fun F H σ ρ Q s st q => ?_⟩
  refine deq_rd (Er := Er) s st (Post.imp (Post.bind q) fun F1 H1 d g1 p1 v dv => ?_)
  unfold oE at p1
  cases e : tupOf d with
  | none => simp only [e] at p1; exact p1.elim
  | some kvs =>
    simp only [e, Option.map_some] at p1
    rw [tupOf_inv e] at dv
    obtain ⟨a, xs, rfl, h1, h2⟩ := dq_tup dv
    refine ⟨a, xs, rfl, g1.fh.s a _ h1, fun z hz => (tupM_key h2 z hz).mono g1.fh.s, ?_⟩
    rw [← tupM_len h2]
    exact Post.now p1 g1.fh _ (.int _)
end
end DL

set_option maxHeartbeats 1000000
/-! EC1: zip of three tuples. -/
namespace RZ
open PySem PySem.Spec PyProof.Rows L2
/-- the tuples at a, b and c as they stand at each turn, the items in new threes -/
def Itz3 (K : PySem.W.Frag) (a b c : Addr) : It :=
  ⟨fun i H => ∃ (xs ys zs : List V) (x y z : V), SqT K H a xs ∧ SqT K H b ys ∧ SqT K H c zs ∧ xs[i]? = some x ∧ ys[i]? = some y ∧ zs[i]? = some z,
    fun i H v H' => ∃ T x y z, v = .ref T ∧ H T = none ∧ H' = upd H T (.tup [x, y, z]) ∧ (∀ xs, SqT K H a xs → xs[i]? = some x) ∧ (∀ ys, SqT K H b ys → ys[i]? = some y) ∧ ∀ zs, SqT K H c zs → zs[i]? = some z,
    fun i H => ∃ xs ys zs : List V, SqT K H a xs ∧ SqT K H b ys ∧ SqT K H c zs ∧ i ≤ xs.length ∧ i ≤ ys.length ∧ i ≤ zs.length ∧ (i = xs.length ∨ i = ys.length ∨ i = zs.length)⟩
theorem sep3 {I a b c : Nat} (ha : a < I) (hb : b < I) (hc : c < I) : ZipSep3 (I + 5) (I + 3) (I + 4) I (I + 1) (I + 2) [I, a] [I + 1, b] [I + 2, c] := by
  constructor <;> simp only [List.mem_cons, List.not_mem_nil, or_false, not_or, ne_eq, true_or] <;> simp only [Addr] at * <;> omega
theorem turn_zip3 {P : Program} {w : World} {K : PySem.W.Frag} {elts : List Expr} {kk : Nat} {tpos : Pos} {a b c z TI TO i1 i2 i3 : Addr} (S : ZipSep3 z TI TO i1 i2 i3 [i1, a] [i2, b] [i3, c]) (ha : a ≠ i1) (hb : b ≠ i2) (hcc : c ≠ i3) :
    Turn P w K (.Tuple elts kk tpos) (Itz3 K a b c) [z, TI, TO, i1, i2, i3] z (fun i h => IsZip h z TI TO .none ∧ IsTupOf3 h TI (.ref i1) (.ref i2) (.ref i3) ∧ (∃ x y q, IsTupOf3 h TO x y q) ∧ h.IsTupleIter i1 a i ∧ h.IsTupleIter i2 b i ∧ h.IsTupleIter i3 c i) where
  mem := by simp
  obj := fun i h st c hc => by
    obtain ⟨hz, hTI, ⟨x, y, q, hTO⟩, ⟨o1, e1, _, d1⟩, ⟨o2, e2, _, d2⟩, ⟨o3, e3, _, d3⟩⟩ := st
    have e' : c = z ∨ c = TI ∨ c = TO ∨ c = i1 ∨ c = i2 ∨ c = i3 := by simpa using hc
    rcases e' with q | q | q | q | q | q
    · rw [q]; exact ⟨_, hz, fun v q => nomatch q⟩
    · rw [q]; exact ⟨_, hTI, fun v q => nomatch q⟩
    · rw [q]; exact ⟨_, hTO, fun v q => nomatch q⟩
    · rw [q]; exact ⟨o1, e1, fun v q => by rw [d1] at q; cases q⟩
    · rw [q]; exact ⟨o2, e2, fun v q => by rw [d2] at q; cases q⟩
    · rw [q]; exact ⟨o3, e3, fun v q => by rw [d3] at q; cases q⟩
  keep := fun i h h' st k => by
    obtain ⟨hz, hTI, ⟨x, y, q, hTO⟩, h1, h2, h3⟩ := st
    exact ⟨k z (by simp) _ hz, k TI (by simp) _ hTI, ⟨x, y, q, k TO (by simp) _ hTO⟩, h1.at fun o q => k i1 (by simp) o q, h2.at fun o q => k i2 (by simp) o q, h3.at fun o q => k i3 (by simp) o q⟩
  item := by
    intro X hP hw hK hc i pins s σ H E I hf st hg
    subst hP hw hK
    obtain ⟨hz, hTI, ⟨x0, y0, q0, hTO⟩, h1, h2, h3⟩ := st
    obtain ⟨xs, ys, zs, x, y, q, hqx, hqy, hqz, hx, hy, hq⟩ := hg
    obtain ⟨its, rv, p, _⟩ := I.tuple hqx
    obtain ⟨its2, rv2, p2, _⟩ := I.tuple hqy
    obtain ⟨its3, rv3, p3, _⟩ := I.tuple hqz
    obtain ⟨u, hu, ru⟩ := rv.get hx
    obtain ⟨u2, hu2, ru2⟩ := rv2.get hy
    obtain ⟨u3, hu3, ru3⟩ := rv3.get hq
    have hzl : z < s.heap.objs.size := Heap.lt_size hz
    have hh : X.A.in1.handled = none := I.ok.hd hc
    have D1 := Draws.tuple (prog := X.prog) (w := X.w) (A := X.A.in1) hh i1 a ha its.toArray
    have D2 := Draws.tuple (prog := X.prog) (w := X.w) (A := X.A.in1) hh i2 b hb its2.toArray
    have D3 := Draws.tuple (prog := X.prog) (w := X.w) (A := X.A.in1) hh i3 c hcc its3.toArray
    have hl1 : i < its.toArray.size := by have := (List.getElem?_eq_some_iff.mp hu).1; simpa using this
    have hl2 : i < its2.toArray.size := by have := (List.getElem?_eq_some_iff.mp hu2).1; simpa using this
    have hl3 : i < its3.toArray.size := by have := (List.getElem?_eq_some_iff.mp hu3).1; simpa using this
    refine wpAny_pyNext_zipD3_item S D1 D2 D3 hz hTI hTO ⟨h1, p⟩ ⟨h2, p2⟩ ⟨h3, p3⟩ hl1 hl2 hl3 fun x1 x2 x3 h' tk y1 y2 y3 z' TO' h1' h2' h3' hT hsz hk => ?_
    have y1 : its[i]? = some x1 := by simpa using y1
    have y2 : its2[i]? = some x2 := by simpa using y2
    have y3 : its3[i]? = some x3 := by simpa using y3
    rw [hu] at y1; cases y1
    rw [hu2] at y2; cases y2
    rw [hu3] at y3; cases y3
    refine ⟨_, rfl, wpAny_letOwnedTupleGo_zip (s := { s with heap := h', toks := tk }) z' fun h'' z'' sb => ?_⟩
    have hT2 : h''.get? s.heap.objs.size = some { cls := .type "tuple", data := .seq #[u, u2, u3] } := (sb.2 _ (Nat.ne_of_gt hzl)).trans hT
    have new : ObjOk X.prog X.w (upd H s.heap.objs.size (.tup [x, y, q])) h'' s.heap.objs.size (.tup [x, y, q]) :=
      ⟨by show 3 ≤ sizeLine; decide, [u, u2, u3], .cons ru (.cons ru2 (.cons ru3 .nil)), ⟨_, hT2, rfl, _, rfl⟩⟩
    have I1 : Inv X pins σ (upd H s.heap.objs.size (.tup [x, y, q])) { s with heap := h'', toks := tk } :=
      I.turnedNew (t' := tk) (ch := [z, TI, TO, i1, i2, i3]) (fun c o hb q => (sb.2 c (fun q' => hb (by simp [q']))).trans (hk c o (fun q' => hb (by simp [q'])) (fun q' => hb (by simp [q'])) (fun q' => hb (by simp [q'])) (fun q' => hb (by simp [q'])) (fun q' => hb (by simp [q'])) q)) hf (Nat.le_refl _) new
    refine ⟨.ref s.heap.objs.size, _, I1, rfl, ⟨_, x, y, q, rfl, I.hok.fresh (Nat.le_refl _), rfl, fun l hl => by rw [I.tuple_inj hl hqx]; exact hx, fun l hl => by rw [I.tuple_inj hl hqy]; exact hy, fun l hl => by rw [I.tuple_inj hl hqz]; exact hq⟩, ⟨z'', ?_, ⟨u, u2, u3, ?_⟩, ?_, ?_, ?_⟩, fun c hcm => ?_⟩
    · exact (sb.2 _ S.TIz).trans (hk _ _ S.TIz S.TITO S.TIi1 S.TIi2 S.TIi3 hTI)
    · exact (sb.2 _ S.TOz).trans TO'
    · exact h1'.1.at fun o q => (sb.2 _ (Ne.symm S.zi1)).trans q
    · exact h2'.1.at fun o q => (sb.2 _ (Ne.symm S.zi2)).trans q
    · exact h3'.1.at fun o q => (sb.2 _ (Ne.symm S.zi3)).trans q
    · have hlt : c < s.heap.objs.size := by
        have e' : c = z ∨ c = TI ∨ c = TO ∨ c = i1 ∨ c = i2 ∨ c = i3 := by simpa using hcm
        rcases e' with q | q | q | q | q | q
        · rw [q]; exact hzl
        · rw [q]; exact Heap.lt_size hTI
        · rw [q]; exact Heap.lt_size hTO
        · rw [q]; obtain ⟨_, e1, _⟩ := h1; exact Heap.lt_size e1
        · rw [q]; obtain ⟨_, e2, _⟩ := h2; exact Heap.lt_size e2
        · rw [q]; obtain ⟨_, e3, _⟩ := h3; exact Heap.lt_size e3
      rw [upd_ne (Nat.ne_of_lt hlt)]
      exact (hf c hcm).1
  done := by
    intro X hP hw hK hc i pins s σ H E I hf st hg
    subst hP hw hK
    obtain ⟨hz, hTI, ⟨x0, y0, q0, hTO⟩, h1, h2, h3⟩ := st
    obtain ⟨xs, ys, zs, hqx, hqy, hqz, l1, l2, l3, hend⟩ := hg
    obtain ⟨its, rv, p, _⟩ := I.tuple hqx
    obtain ⟨its2, rv2, p2, _⟩ := I.tuple hqy
    obtain ⟨its3, rv3, p3, _⟩ := I.tuple hqz
    have e1 : its.toArray.size = xs.length := by rw [List.size_toArray, rv.length]
    have e2 : its2.toArray.size = ys.length := by rw [List.size_toArray, rv2.length]
    have e3 : its3.toArray.size = zs.length := by rw [List.size_toArray, rv3.length]
    have hh : X.A.in1.handled = none := I.ok.hd hc
    have D1 := Draws.tuple (prog := X.prog) (w := X.w) (A := X.A.in1) hh i1 a ha its.toArray
    have D2 := Draws.tuple (prog := X.prog) (w := X.w) (A := X.A.in1) hh i2 b hb its2.toArray
    have D3 := Draws.tuple (prog := X.prog) (w := X.w) (A := X.A.in1) hh i3 c hcc its3.toArray
    exact wpAny_pyNext_zipD3_end S D1 D2 D3 hz hTI hTO ⟨h1, p⟩ ⟨h2, p2⟩ ⟨h3, p3⟩ (by omega) (by omega) (by omega) (by omega) fun h' tk hk => ⟨rfl, I.turnedL (t' := tk) (ch := [z, TI, TO, i1, i2, i3]) (fun c o hb q =>
      hk c o (fun q' => hb (by simp [q'])) (fun q' => hb (by simp [q'])) (fun q' => hb (by simp [q'])) (fun q' => hb (by simp [q'])) (fun q' => hb (by simp [q'])) q) hf⟩
  self := fun A i s Q E st h => wpAny_pyIter_zip st.1 h
def iZip3 (K : PySem.W.Frag) (ta : TA) : TI := fun σ H R => ta σ H fun vs H1 => ∃ a b c xs ys zs, vs = [.ref a, .ref b, .ref c] ∧ SqT K H1 a xs ∧ SqT K H1 b ys ∧ SqT K H1 c zs ∧ R (Itz3 K a b c) H1
theorem pi_zip3 {X : Cx} {e e2 e3 : Expr} {ta : TA} {p pos tpos : Pos} {elts : List Expr} {kk : Nat} (hg : Gl X "zip") (hm : X.mg "zip" = none) (ha : PA X [e, e2, e3] ta)
    (hs : starEach [e, e2, e3] X.env = (false, eval e X.env) :: starEach [e2, e3] X.env := by rfl) (hpl : (backTo pos (starEach [e2, e3] X.env)).any (·.1) = false := by rfl) :
    PI X (.Tuple elts kk tpos) (.Call (.Name "zip" p) [e, e2, e3] [] pos) (iZip3 X.K ta) := by
  refine ⟨fun pins s σ H R I h => ?_⟩
  refine Call_ (ld_blt I hg hm PyProof.Rows.boot_zip (PyProof.Rows.callWith_type1 (thn (ha.run pos pins s σ H _ I h) fun us s1 ⟨vs, H1, I1, r1, q1⟩ => ?_) hs hpl))
  obtain ⟨a, b, c, xs, ys, zs, ex, hqx, hqy, hqz, q⟩ := q1
  subst ex
  cases r1 with
  | cons r rr =>
    cases rr with
    | cons r' rr =>
      cases rr with
      | cons r'' rr =>
        cases rr
        cases r
        cases r'
        cases r''
        have fresh6 : ∀ c, c ∈ [s1.heap.objs.size + 5, s1.heap.objs.size + 3, s1.heap.objs.size + 4, s1.heap.objs.size, s1.heap.objs.size + 1, s1.heap.objs.size + 2] → FpOk X pins H1 c := fun c hcm => by
          have hle : s1.heap.objs.size ≤ c := by
            simp only [List.mem_cons, List.not_mem_nil, or_false] at hcm
            rcases hcm with z | z | z | z | z | z
            · rw [z]; exact Nat.le_add_right _ _
            · rw [z]; exact Nat.le_add_right _ _
            · rw [z]; exact Nat.le_add_right _ _
            · rw [z]; exact Nat.le_refl _
            · rw [z]; exact Nat.le_add_right _ _
            · rw [z]; exact Nat.le_add_right _ _
          exact I1.fpOk hle (I1.hok.fresh hle)
        obtain ⟨its, rv, p1, _⟩ := I1.tuple hqx
        obtain ⟨its2, rv2, p2, _⟩ := I1.tuple hqy
        obtain ⟨its3, rv3, p3, _⟩ := I1.tuple hqz
        obtain ⟨o1, ho1, _⟩ := id p1
        obtain ⟨o2, ho2, _⟩ := id p2
        obtain ⟨o3, ho3, _⟩ := id p3
        have l1 := Heap.lt_size ho1
        have l2 := Heap.lt_size ho2
        have l3 := Heap.lt_size ho3
        refine zip_begins3 (begins_tuple a its.toArray) (begins_tuple b its2.toArray) (begins_tuple c its3.toArray) p1 p2 p3 fun h' hz hTI hTO h1 h2 h3 hsz hk => wpAny_pyIter_zip hz ?_
        have I2 : Inv X pins σ H1 { s1 with heap := h' } := I1.kept (t' := s1.toks) hk
        exact ⟨s1.heap.objs.size + 5, [s1.heap.objs.size + 5, s1.heap.objs.size + 3, s1.heap.objs.size + 4, s1.heap.objs.size, s1.heap.objs.size + 1, s1.heap.objs.size + 2], _, _, H1, rfl, I2, turn_zip3 (sep3 l1 l2 l3) (Nat.ne_of_lt l1) (Nat.ne_of_lt (Nat.lt_succ_of_lt l2)) (Nat.ne_of_lt (Nat.lt_succ_of_lt (Nat.lt_succ_of_lt l3))), ⟨hz, hTI, ⟨_, _, _, hTO⟩, ⟨_, h1, rfl, rfl⟩, ⟨_, h2, rfl, rfl⟩, ⟨_, h3, rfl, rfl⟩⟩, fresh6, q⟩
end RZ
namespace DL
open PySem PySem.Spec L2
variable [Mem]
section
variable {K : PySem.W.Frag}
def zip3L (xs ys zs : List D) : List D := (xs.zip (ys.zip zs)).map fun p => .tuple [p.1, p.2.1, p.2.2]
theorem zip3_len (xs ys zs : List D) : (zip3L xs ys zs).length = min xs.length (min ys.length zs.length) := by simp [zip3L]
theorem zip3_get {xs ys zs : List D} {i : Nat} {d : D} (h : (zip3L xs ys zs)[i]? = some d) : ∃ x y z, xs[i]? = some x ∧ ys[i]? = some y ∧ zs[i]? = some z ∧ d = .tuple [x, y, z] := by
  unfold zip3L at h
  rw [List.getElem?_map] at h
  obtain ⟨p, hp, rfl⟩ := Option.map_eq_some_iff.mp h
  obtain ⟨x, q⟩ := p
  have h1 := List.getElem?_zip_eq_some.mp hp
  obtain ⟨y, z⟩ := q
  have h2 := List.getElem?_zip_eq_some.mp h1.2
  exact ⟨x, y, z, h1.1, h2.1, h2.2, rfl⟩
theorem dit_zip3 {F0 : Hp} {a b c : Addr} {xs ys zs : List V} {ds es fs : List D} (h1 : SqT K F0 a xs) (h2 : DpAll K F0 xs ds) (k1 : SqT K F0 b ys) (k2 : DpAll K F0 ys es) (m1 : SqT K F0 c zs) (m2 : DpAll K F0 zs fs) : DIt K (RZ.Itz3 K a b c) F0 (zip3L ds es fs) where
  go := fun i F H s1 s2 hi => by
    rw [zip3_len] at hi
    have l1 := dpAll_len h2
    have l2 := dpAll_len k2
    have l3 := dpAll_len m2
    exact ⟨xs, ys, zs, xs[i]'(by omega), ys[i]'(by omega), zs[i]'(by omega), same_seqT s2.s (same_seqT s1 h1), same_seqT s2.s (same_seqT s1 k1), same_seqT s2.s (same_seqT s1 m1), by simp, by simp, by simp⟩
  stop := fun F H s1 s2 => by
    have l1 := dpAll_len h2
    have l2 := dpAll_len k2
    have l3 := dpAll_len m2
    refine ⟨xs, ys, zs, same_seqT s2.s (same_seqT s1 h1), same_seqT s2.s (same_seqT s1 k1), same_seqT s2.s (same_seqT s1 m1), ?_, ?_, ?_, ?_⟩ <;> rw [zip3_len] <;> omega
  yld := fun i F H x H' d s1 s2 hd y => by
    obtain ⟨T, x', y', z', rfl, hT, rfl, y1, y2, y3⟩ := y
    obtain ⟨d1, d2, d3, e1, e2, e3, rfl⟩ := zip3_get hd
    obtain ⟨v1, z1, w1⟩ := dpAll_get h2 e1
    obtain ⟨v2, z2, w2⟩ := dpAll_get k2 e2
    obtain ⟨v3, z3, w3⟩ := dpAll_get m2 e3
    have q1 := y1 xs (same_seqT s2.s (same_seqT s1 h1))
    have q2 := y2 ys (same_seqT s2.s (same_seqT s1 k1))
    have q3 := y3 zs (same_seqT s2.s (same_seqT s1 m1))
    rw [z1] at q1; cases q1
    rw [z2] at q2; cases q2
    rw [z3] at q3; cases q3
    have st := same_trans s1 (Grow.new (o := .tup [x', y', z']) s2 hT).ff
    exact ⟨_, Grow.new s2 hT, .tup (.inl (.inl upd_same)) (.cons (dp_mono st _ _ w1) (.cons (dp_mono st _ _ w2) (.cons (dp_mono st _ _ w3) .nil)))⟩
end
def zip3D : List D → Option (List D)
  | [.tuple xs, .tuple ys, .tuple zs] => some (zip3L xs ys zs)
  | _ => none
theorem zip3D_some {ds r : List D} (h : zip3D ds = some r) : ∃ xs ys zs, ds = [.tuple xs, .tuple ys, .tuple zs] ∧ r = zip3L xs ys zs := by
  unfold zip3D at h
  split at h
  · cases h; exact ⟨_, _, _, rfl, rfl⟩
  · cases h
section
variable {X : Cx} {Er : ErT} {ta : TA}
theorem di_zip3 {e e2 e3 : Expr} {p pos tpos : Pos} {elts : List Expr} {kk : Nat} {fa : AF} (hg : Gl X "zip") (hm : X.mg "zip" = none) (ha : DA X Er [e, e2, e3] ta fa)
    (hs : starEach [e, e2, e3] X.env = (false, eval e X.env) :: starEach [e2, e3] X.env := by rfl) (hpl : (backTo pos (starEach [e2, e3] X.env)).any (·.1) = false := by rfl) :
    DI X Er (.Tuple elts kk tpos) (.Call (.Name "zip" p) [e, e2, e3] [] pos) (RZ.iZip3 X.K ta) (rangeI zip3D fa) := by
  refine ⟨RZ.pi_zip3 hg hm ha.pe hs hpl, fun F H σ ρ R s st p => ?_⟩
  refine ha.rd F H σ ρ _ s st (Post.imp (Post.bind p) fun F1 H1 ds g1 p1 vs dvs => ?_)
  obtain ⟨r, e, p1⟩ := of_ok p1
  obtain ⟨xs, ys, zs, rfl, rfl⟩ := zip3D_some e
  cases dvs with
  | cons z1 z2 =>
    cases z2 with
    | cons z2 z3 =>
      cases z3 with
      | cons z3 z4 =>
        cases z4
        cases z1 with
        | tup h1 h2 =>
          cases z2 with
          | tup h3 h4 =>
            cases z3 with
            | tup h5 h6 => exact ⟨_, _, _, _, _, _, rfl, same_seqT g1.fh.s h1, same_seqT g1.fh.s h3, same_seqT g1.fh.s h5, Post.now p1 g1.fh _ (dit_zip3 h1 h2 h3 h4 h5 h6)⟩
theorem kzip3 (K : PySem.W.Frag) {e e2 e3 : Expr} {p pos tpos : Pos} {elts : List Expr} {kk : Nat} {fa : AF} (hg : Gl X "zip") (hm : X.mg "zip" = none) (ha : DA X Er [e, e2, e3] ta fa)
    (hs : starEach [e, e2, e3] X.env = (false, eval e X.env) :: starEach [e2, e3] X.env := by rfl) (hpl : (backTo pos (starEach [e2, e3] X.env)).any (·.1) = false := by rfl) (hK : X.K = K := by rfl) :
    DI X Er (.Tuple elts kk tpos) (.Call (.Name "zip" p) [e, e2, e3] [] pos) (RZ.iZip3 K ta) (rangeI zip3D fa) := by subst hK; exact di_zip3 hg hm ha hs hpl
end
end DL

set_option maxHeartbeats 1000000
/-! PL0: the mirrors evaluated (simp set), the loops' laws. No program in sight. -/
namespace DL
open PySem PySem.Spec L2

theorem nr {α : Sort u} {a b : α} (h : a = b) : a = b := h
/-! ### R, Out -/
section
variable {α β : Type}
@[simp] theorem rb_ok (a : α) (g : α → R β) : (R.ok a).bind g = g a := nr rfl
@[simp] theorem rb_err (c : Str) (g : α → R β) : (R.err c : R α).bind g = .err c := nr rfl
@[simp] theorem rb_bad (g : α → R β) : (R.bad : R α).bind g = .bad := nr rfl
@[simp] theorem ro_some (a : α) : R.of (some a) = .ok a := nr rfl
@[simp] theorem ro_none : R.of (none : Option α) = .bad := nr rfl
@[simp] theorem ne_ok (a : α) : (R.ok a).noErr = .ok a := nr rfl
@[simp] theorem bE_ap (f : Env → R α) (g : α → Env → R β) (ρ : Env) : bE f g ρ = (f ρ).bind fun a => g a ρ := nr rfl
@[simp] theorem oE_ap (o : Option α) (ρ : Env) : oE o ρ = R.of o := nr rfl
@[simp] theorem cE_ap (d : α) (ρ : Env) : cE d ρ = .ok d := nr rfl
@[simp] theorem rr_ok (a : α) (ρ : Env) (k : α → Out) : runR (.ok a) ρ k = k a := nr rfl
@[simp] theorem rr_err (c : Str) (ρ : Env) (k : α → Out) : runR (.err c : R α) ρ k = .err c ρ := nr rfl
end
@[simp] theorem vE_z (d : D) (ρ : Env) : vE 0 (some d :: ρ) = okD d := nr rfl
@[simp] theorem okD_n : okD .none = .ok .none := nr rfl
@[simp] theorem okD_b (b : Bool) : okD (.bool b) = .ok (.bool b) := nr rfl
@[simp] theorem okD_i (b : Int) : okD (.int b) = .ok (.int b) := nr rfl
@[simp] theorem okD_s (b : Str) : okD (.str b) = .ok (.str b) := nr rfl
@[simp] theorem okD_l (b : List D) : okD (.list b) = .ok (.list b) := nr rfl
@[simp] theorem okD_t (b : List D) : okD (.tuple b) = .ok (.tuple b) := nr rfl
@[simp] theorem vE_s (i : Nat) (x : Option D) (ρ : Env) : vE (i + 1) (x :: ρ) = vE i ρ := by unfold vE; rw [List.getElem?_cons_succ]
@[simp] theorem op2E_ap (g : D → D → Option D) (a b : EF) (ρ : Env) : op2E g a b ρ = (a ρ).bind fun x => (b ρ).bind fun y => R.of (g x y) := nr rfl
@[simp] theorem op1E_ap (g : D → Option D) (a : EF) (ρ : Env) : op1E g a ρ = (a ρ).bind fun x => R.of (g x) := nr rfl
@[simp] theorem nilA_ap (ρ : Env) : nilA ρ = .ok [] := nr rfl
@[simp] theorem consA_ap (a : EF) (r : AF) (ρ : Env) : consA a r ρ = (a ρ).bind fun x => (r ρ).bind fun xs => .ok (x :: xs) := nr rfl
@[simp] theorem boolD_b (b : Bool) : boolD (.bool b) = some b := nr rfl
@[simp] theorem testE_ap (a : EF) (ρ : Env) : testE a ρ = (a ρ).bind fun x => R.of (boolD x) := nr rfl
@[simp] theorem andT_ap (a b : TF) (ρ : Env) : andT a b ρ = (a ρ).bind fun x => if x = true then b ρ else .ok false := by
  unfold andT bE; congr 1; funext x; cases x <;> rfl
@[simp] theorem orT_ap (a b : TF) (ρ : Env) : orT a b ρ = (a ρ).bind fun x => if x = true then .ok true else b ρ := by
  unfold orT bE; congr 1; funext x; cases x <;> rfl
@[simp] theorem notT_ap (a : TF) (ρ : Env) : notT a ρ = (a ρ).bind fun x => .ok (!x) := nr rfl
@[simp] theorem ifE_ap (t : TF) (a b : EF) (ρ : Env) : ifE t a b ρ = (t ρ).bind fun x => if x = true then a ρ else b ρ := by
  unfold ifE bE; congr 1; funext x; cases x <;> rfl
@[simp] theorem smallA_ap (a : AF) (ρ : Env) : smallA a ρ = (a ρ).bind fun xs => R.of (if xs.length ≤ 1000000 then some xs else none) := nr rfl
@[simp] theorem tupE_ap (a : AF) (ρ : Env) : tupE a ρ = ((a ρ).bind fun xs => R.of (if xs.length ≤ 1000000 then some xs else none)).bind fun xs => .ok (.tuple xs) := nr rfl
@[simp] theorem lstE_ap (a : AF) (ρ : Env) : lstE a ρ = (a ρ).bind fun xs => .ok (.list xs) := nr rfl
@[simp] theorem andE_ap (a b : EF) (ρ : Env) : andE a b ρ = (a ρ).bind fun x => (R.of (boolD x)).bind fun k => if k = true then b ρ else .ok (.bool false) := by
  unfold andE bE; congr 1; funext x; show (R.of (boolD x)).bind _ = _; congr 1; funext k; cases k <;> rfl
@[simp] theorem orE_ap (a b : EF) (ρ : Env) : orE a b ρ = (a ρ).bind fun x => (R.of (boolD x)).bind fun k => if k = true then .ok (.bool true) else b ρ := by
  unfold orE bE; congr 1; funext x; show (R.of (boolD x)).bind _ = _; congr 1; funext k; cases k <;> rfl
@[simp] theorem notE_ap (a : EF) (ρ : Env) : notE a ρ = (a ρ).bind fun x => (R.of (boolD x)).bind fun k => .ok (.bool (!k)) := nr rfl
@[simp] theorem chE_ap (g g' : D → D → Option D) (a b c : EF) (ρ : Env) : chE g g' a b c ρ = (a ρ).bind fun x => (b ρ).bind fun y => (R.of (g x y)).bind fun z => (R.of (boolD z)).bind fun k => if k = true then (c ρ).bind fun u => R.of (g' y u) else .ok (.bool false) := by
  unfold chE bE oE cE
  congr 1; funext x
  show (b ρ).bind _ = _
  congr 1; funext y
  show (R.of (g x y)).bind _ = _
  congr 1; funext z
  show (R.of (boolD z)).bind _ = _
  congr 1; funext k; cases k <;> rfl
@[simp] theorem partO_ap (f : EF) (ρ : Env) : partO f ρ = (f ρ).bind fun d => R.of ((intD d).map some) := nr rfl
@[simp] theorem noO_ap (ρ : Env) : noO ρ = .ok none := nr rfl
@[simp] theorem sliceE_ap (f : EF) (lo hi : OF) (ρ : Env) : sliceE f lo hi ρ = (f ρ).bind fun d => (lo ρ).bind fun l => (hi ρ).bind fun h => R.of (slD d l h) := nr rfl
@[simp] theorem callE_ap (g : List D → Option D) (a : AF) (ρ : Env) : callE g a ρ = (a ρ).bind fun ds => R.of (g ds) := nr rfl
@[simp] theorem callN_ap (g : List D → Option (List D)) (a : AF) (ρ : Env) : callN g a ρ = (a ρ).bind fun ds => R.of (g ds) := nr rfl
@[simp] theorem isiE_ap (g : D → Bool) (a : EF) (ρ : Env) : isiE g a ρ = (a ρ).bind fun d => .ok (.bool (g d)) := nr rfl
@[simp] theorem seqI_ap (f : EF) (ρ : Env) : seqI f ρ = (f ρ).bind fun d => R.of (seqOf d) := nr rfl
@[simp] theorem rangeI_ap (g : List D → Option (List D)) (a : AF) (ρ : Env) : rangeI g a ρ = (a ρ).bind fun ds => R.of (g ds) := nr rfl
@[simp] theorem ownE_ap (g : List D → R D) (a : AF) (ρ : Env) : ownE g a ρ = (a ρ).bind g := nr rfl
@[simp] theorem compE_ap (fi : AF) (tgf : TGF) (tt : TF) (fe : EF) (vs : List Nat) (ρ : Env) : compE fi tgf tt fe vs ρ = ((fi ρ).bind fun xs => R.of (if xs.length ≤ 1000000 then some xs else none)).bind fun ds => compL tgf tt fe (killE ρ vs) ds := nr rfl
@[simp] theorem killE_n (ρ : Env) : killE ρ [] = ρ := nr rfl
@[simp] theorem killE_c (ρ : Env) (v : Nat) (vs : List Nat) : killE ρ (v :: vs) = (killE ρ vs).set v none := nr rfl
@[simp] theorem setE_n (ρ : Env) : setE ρ [] = ρ := nr rfl
@[simp] theorem setE_c (ρ : Env) (i : Nat) (d : D) (r : List (Nat × D)) : setE ρ ((i, d) :: r) = setE (ρ.set i (some d)) r := by
  first | rfl | (unfold setE; rfl) | (simp [setE])
@[simp] theorem tgN_ap (i : Nat) (d : D) : tgN i d = some [(i, d)] := nr rfl
@[simp] theorem hidA_nil (w : List Sh) : hidA w [] = [] := by cases w <;> rfl
@[simp] theorem hidA_f (w : List Sh) (x : Option D) (ρ : Env) : hidA (.fz :: w) (x :: ρ) = x :: hidA w ρ := by simp [hidA]
@[simp] theorem hidA_l (w : List Sh) (x : Option D) (ρ : Env) : hidA (.ls :: w) (x :: ρ) = none :: hidA w ρ := by simp [hidA]
@[simp] theorem hidO_nil (w : List Sh) : hidO w [] = [] := by cases w <;> rfl
@[simp] theorem hidO_f (w : List Sh) (x : Option D) (ρ : Env) : hidO (.fz :: w) (x :: ρ) = x :: hidO w ρ := by simp [hidO]
@[simp] theorem hidO_l (w : List Sh) (x : Option D) (ρ : Env) : hidO (.ls :: w) (x :: ρ) = x :: hidO w ρ := by simp [hidO]
@[simp] theorem hidA_o (Φ : Own) (w : List Sh) (x : Option D) (ρ : Env) : hidA (.ob Φ :: w) (x :: ρ) = none :: hidA w ρ := by simp [hidA]
@[simp] theorem hidO_o (Φ : Own) (w : List Sh) (x : Option D) (ρ : Env) : hidO (.ob Φ :: w) (x :: ρ) = none :: hidO w ρ := by simp [hidO]
/-! dicts -/
@[simp] theorem newD_ap (i : Nat) (ρ : Env) : newD i ρ = .nx (ρ.set i (some (IntDic []))) := nr rfl
@[simp] theorem atS_z (d : D) (ρ : Env) (k : D → Out) : atSlot (some d :: ρ) 0 k = k d := nr rfl
@[simp] theorem atS_s (x : Option D) (ρ : Env) (i : Nat) (k : D → Out) : atSlot (x :: ρ) (i + 1) k = atSlot ρ i k := by unfold atSlot; rw [List.getElem?_cons_succ]
@[simp] theorem talD_d (ρ : Env) (kvs : List (Int × Int)) (k : List (Int × Int) → Out) : talD ρ (IntDic kvs) k = k kvs := by unfold talD; rw [dcOf_dic]
@[simp] theorem talK_i (i : Int) (g : Int → Out) : talK (.int i) g = g i := nr rfl
@[simp] theorem talO_i (ρ : Env) (i : Nat) (kvs : List (Int × Int)) (k m : Int) : talO ρ i kvs k (.int m) = if kvs.length < 1000000 then .nx (ρ.set i (some (IntDic (putI kvs k ((getI kvs k).getD 0 + m))))) else .bad := nr rfl
@[simp] theorem talS_ap (w : List Sh) (i j : Nat) (fe : EF) (ρ : Env) : talS w i j fe ρ = atSlot ρ i fun d => talD ρ d fun kvs => runR (vE j (hidA w ρ)) ρ fun k => talK k fun k => runR (fe (hidA w ρ)) ρ fun m => talO ρ i kvs k m := nr rfl
@[simp] theorem itE_z (kvs : List (Int × Int)) (ρ : Env) : itE 0 (some (IntDic kvs) :: ρ) = .ok (itemsD kvs) := by show itO (dcOf (IntDic kvs)) = _; rw [dcOf_dic]; rfl
@[simp] theorem itE_s (x : Option D) (ρ : Env) (i : Nat) : itE (i + 1) (x :: ρ) = itE i ρ := by unfold itE; rw [List.getElem?_cons_succ]
@[simp] theorem dgetE_ap (f fk fx : EF) (ρ : Env) : dgetE f fk fx ρ = (f ρ).bind fun d => (R.of (pairsD d)).bind fun l => (fk ρ).bind fun k => (fx ρ).bind fun x => R.of (dgetD l k x) := nr rfl
@[simp] theorem pairsD_items (kvs : List (Int × Int)) : pairsD (itemsD kvs) = some (sortI kvs) := pairsOf_map _
@[simp] theorem dgetD_i (l : List (Int × Int)) (k x : Int) : dgetD l (.int k) (.int x) = some (.int ((getI (mergeI l) k).getD x)) := nr rfl
@[simp] theorem rng1E_ap (f : EF) (ρ : Env) : rng1E f ρ = (f ρ).bind fun d => R.of (rangeN [d]) := nr rfl
theorem rangeN_nat (n : Nat) (h : n ≤ 1000000) : rangeN [.int (n : Nat)] = some ((List.range n).map fun i => .int (i : Nat)) := by
  simp only [rangeN]
  rw [if_pos ⟨by omega, by omega⟩]
  simp [rangeL]
@[simp] theorem okD_items (kvs : List (Int × Int)) : okD (itemsD kvs) = .ok (itemsD kvs) := nr rfl
@[simp] theorem newD2_ap (i j : Nat) (ρ : Env) : newD2 i j ρ = .nx ((ρ.set i (some (IntDic []))).set j (some (IntDic []))) := nr rfl
@[simp] theorem slotD_z (kvs : List (Int × Int)) (ρ : Env) : slotD (some (IntDic kvs) :: ρ) 0 = some kvs := dcOf_dic kvs
@[simp] theorem slotD_s (x : Option D) (ρ : Env) (i : Nat) : slotD (x :: ρ) (i + 1) = slotD ρ i := by unfold slotD; rw [List.getElem?_cons_succ]
@[simp] theorem dkO_i (neg : Bool) (k : Int) (kvs : List (Int × Int)) : dkO neg (.int k) (some kvs) = .ok (.bool (if neg then !(getI kvs k).isSome else (getI kvs k).isSome)) := nr rfl
@[simp] theorem dinE_ap (neg : Bool) (fk : EF) (i : Nat) (ρ : Env) : dinE neg fk i ρ = (fk ρ).bind fun k => dkO neg k (slotD ρ i) := nr rfl
/-! statements -/
@[simp] theorem th_nx (ρ : Env) (g : SF) : (Out.nx ρ).then g = g ρ := nr rfl
@[simp] theorem th_rt (d : D) (ρ : Env) (g : SF) : (Out.rt d ρ).then g = .rt d ρ := nr rfl
@[simp] theorem th_err (c : Str) (ρ : Env) (g : SF) : (Out.err c ρ).then g = .err c ρ := nr rfl
@[simp] theorem th_ite (c : Prop) [Decidable c] (a b : Out) (g : SF) : (if c then a else b).then g = if c then a.then g else b.then g := by split <;> rfl
@[simp] theorem seqS_ap (f g : SF) (ρ : Env) : seqS f g ρ = (f ρ).then g := nr rfl
@[simp] theorem nxS_ap (ρ : Env) : nxS ρ = .nx ρ := nr rfl
@[simp] theorem asgS_ap (w : List Sh) (i : Nat) (f : EF) (ρ : Env) : asgS w i f ρ = runR (f (hidA w ρ)) ρ fun d => .nx (ρ.set i (some d)) := nr rfl
@[simp] theorem asgB_ap (w : List Sh) (i : Nat) (f : EF) (ρ : Env) : asgB w i f ρ = runR (f (hidO w ρ)) ρ fun d => if noList d = true then .nx (ρ.set i (some d)) else .bad := nr rfl
@[simp] theorem newS_ap (w : List Sh) (i : Nat) (f : AF) (ρ : Env) : newS w i f ρ = runR (f (hidA w ρ)) ρ fun ds => .nx (ρ.set i (some (.list ds))) := nr rfl
@[simp] theorem dropS_ap (w : List Sh) (f : EF) (ρ : Env) : dropS w f ρ = runR (f (hidA w ρ)) ρ fun _ => .nx ρ := nr rfl
@[simp] theorem ifS_ap (w : List Sh) (t : TF) (a b : SF) (ρ : Env) : ifS w t a b ρ = runR (t (hidO w ρ)) ρ fun c => if c = true then a ρ else b ρ := nr rfl
@[simp] theorem retS_ap (w : List Sh) (f : EF) (ρ : Env) : retS w f ρ = runR (f (hidA w ρ)) ρ fun d => .rt d ρ := nr rfl
@[simp] theorem retB_ap (w : List Sh) (f : EF) (ρ : Env) : retB w f ρ = runR (f (hidO w ρ)) ρ fun d => if noList d = true then .rt d ρ else .bad := nr rfl
@[simp] theorem retN_ap (ρ : Env) : retN ρ = .rt .none ρ := nr rfl
@[simp] theorem raiseS_ap (c : Str) (ρ : Env) : raiseS c ρ = .err c ρ := nr rfl
def getL (o : Option (Option D)) (k : List D → Out) : Out := match o with
  | some (some (.list ds)) => k ds
  | _ => .bad
@[simp] theorem getL_ok (ds : List D) (k : List D → Out) : getL (some (some (.list ds))) k = k ds := nr rfl
theorem lsAt_eq (ρ : Env) (i : Nat) (k : List D → Out) : lsAt ρ i k = getL ρ[i]? k := rfl
@[simp] theorem lsAt_z (ds : List D) (ρ : Env) (k : List D → Out) : lsAt (some (.list ds) :: ρ) 0 k = k ds := nr rfl
@[simp] theorem lsAt_s (x : Option D) (ρ : Env) (i : Nat) (k : List D → Out) : lsAt (x :: ρ) (i + 1) k = lsAt ρ i k := by rw [lsAt_eq, lsAt_eq, List.getElem?_cons_succ]
@[simp] theorem appS_ap (w : List Sh) (i : Nat) (f : EF) (ρ : Env) : appS w i f ρ = lsAt ρ i fun ds => runR (f (hidA w ρ)) ρ fun d => if ds.length < 1000000 then .nx (ρ.set i (some (.list (ds ++ [d])))) else .bad := nr rfl
@[simp] theorem appB_ap (w : List Sh) (i : Nat) (f : EF) (ρ : Env) : appB w i f ρ = lsAt ρ i fun ds => runR (f (hidO w ρ)) ρ fun d => if ds.length < 1000000 ∧ noList d = true then .nx (ρ.set i (some (.list (ds ++ [d])))) else .bad := nr rfl
@[simp] theorem extS_ap (w : List Sh) (i : Nat) (f : AF) (ρ : Env) : extS w i f ρ = lsAt ρ i fun ds => runR (f (hidA w ρ)) ρ fun es => if ds.length + es.length ≤ 1000000 then .nx (ρ.set i (some (.list (ds ++ es)))) else .bad := nr rfl
@[simp] theorem retO_z (d : D) (ρ : Env) : retO 0 (some d :: ρ) = .rt d (some d :: ρ) := nr rfl
def rtO (o : Option (Option D)) (ρ : Env) : Out := match o with
  | some (some d) => .rt d ρ
  | _ => .bad
theorem retO_ap (i : Nat) (ρ : Env) : retO i ρ = rtO ρ[i]? ρ := rfl
@[simp] theorem rtO_ok (d : D) (ρ : Env) : rtO (some (some d)) ρ = .rt d ρ := nr rfl
def tgO (o : Option (List (Nat × D))) (ρ : Env) : Out := match o with
  | some as => .nx (setE ρ as)
  | none => .bad
@[simp] theorem tgO_ok (as : List (Nat × D)) (ρ : Env) : tgO (some as) ρ = .nx (setE ρ as) := nr rfl
@[simp] theorem tupS_ap (w : List Sh) (f : EF) (g : TGF) (ρ : Env) : tupS w f g ρ = runR (f (hidA w ρ)) ρ fun d => tgO (g d) ρ := nr rfl
@[simp] theorem tupB_ap (w : List Sh) (f : EF) (g : TGF) (ρ : Env) : tupB w f g ρ = runR (f (hidO w ρ)) ρ fun d => if noList d = true then tgO (g d) ρ else .bad := nr rfl
def parO (i j : Nat) (ρ : Env) (ds : List D) : Out := match ds with
  | [d, e] => .nx ((ρ.set i (some d)).set j (some e))
  | _ => .bad
@[simp] theorem parO_ok (i j : Nat) (ρ : Env) (d e : D) : parO i j ρ [d, e] = .nx ((ρ.set i (some d)).set j (some e)) := nr rfl
@[simp] theorem parS_ap (w : List Sh) (f : AF) (i j : Nat) (ρ : Env) : parS w f i j ρ = runR (f (hidA w ρ)) ρ fun ds => parO i j ρ ds := nr rfl
@[simp] theorem forS_ap (w : List Sh) (fi : AF) (tgf : TGF) (body : SF) (ks : List Nat) (ρ : Env) : forS w fi tgf body ks ρ = runR (fi (hidA w ρ)) ρ fun ds => forL tgf body ks ds (killE ρ ks) := nr rfl
def outR : Out → R D
  | .nx _ => .ok .none
  | .rt d _ => .ok d
  | .err c _ => .err c
  | .bk _ => .bad
  | .bad => .bad
theorem runD_ap (m : Nat) (f : SF) (ds : List D) : runD m f ds = outR (f (ds.map some ++ List.replicate (m - ds.length) none)) := by
  unfold runD
  generalize f _ = o
  cases o <;> rfl
@[simp] theorem outR_nx (ρ : Env) : outR (.nx ρ) = .ok .none := nr rfl
@[simp] theorem outR_rt (d : D) (ρ : Env) : outR (.rt d ρ) = .ok d := nr rfl
@[simp] theorem outR_err (c : Str) (ρ : Env) : outR (.err c ρ) = .err c := nr rfl

/-! ### loops -/
def kilO (ks : List Nat) : Out → Out
  | .nx ρ => .nx (killE ρ ks)
  | o => o
@[simp] theorem kilO_nx (ks : List Nat) (ρ : Env) : kilO ks (.nx ρ) = .nx (killE ρ ks) := nr rfl
@[simp] theorem kilO_rt (ks : List Nat) (d : D) (ρ : Env) : kilO ks (.rt d ρ) = .rt d ρ := nr rfl
@[simp] theorem kilO_err (ks : List Nat) (d : Str) (ρ : Env) : kilO ks (.err d ρ) = .err d ρ := nr rfl
@[simp] theorem kilO_ite (ks : List Nat) (c : Prop) [Decidable c] (a b : Out) : kilO ks (if c then a else b) = if c then kilO ks a else kilO ks b := by split <;> rfl
def turO (body : SF) (ks : List Nat) (ρ : Env) : Option (List (Nat × D)) → Out
  | none => .bad
  | some as => kilO ks (body (setE ρ as))
@[simp] theorem turO_some (body : SF) (ks : List Nat) (ρ : Env) (as : List (Nat × D)) : turO body ks ρ (some as) = kilO ks (body (setE ρ as)) := nr rfl
def turnL (tgf : TGF) (body : SF) (ks : List Nat) (d : D) (ρ : Env) : Out := turO body ks ρ (tgf d)
theorem forL_nx {tgf : TGF} {body : SF} {ks : List Nat} {d : D} {ds : List D} {ρ ρ' : Env} (h : turnL tgf body ks d ρ = .nx ρ') : forL tgf body ks (d :: ds) ρ = forL tgf body ks ds ρ' := by
  rw [forL]
  unfold turnL turO at h
  cases e : tgf d with
  | none => rw [e] at h; cases h
  | some as =>
    rw [e] at h
    simp only at h ⊢
    cases e2 : body (setE ρ as) <;> rw [e2] at h <;> simp [kilO] at h ⊢
    rw [h]
theorem forL_rt {tgf : TGF} {body : SF} {ks : List Nat} {d x : D} {ds : List D} {ρ ρ' : Env} (h : turnL tgf body ks d ρ = .rt x ρ') : forL tgf body ks (d :: ds) ρ = .rt x ρ' := by
  rw [forL]
  unfold turnL turO at h
  cases e : tgf d with
  | none => rw [e] at h; cases h
  | some as =>
    rw [e] at h
    simp only at h ⊢
    cases e2 : body (setE ρ as) <;> rw [e2] at h <;> simp [kilO] at h ⊢
    exact h
section
variable {α S : Type} {tgf : TGF} {body : SF} {ks : List Nat}
theorem forL_fold (E : S → Env) (e : α → D) (f : S → α → S) (I : S → Prop) : ∀ (xs : List α) (s : S), I s → (∀ x ∈ xs, ∀ s, I s → turnL tgf body ks (e x) (E s) = .nx (E (f s x)) ∧ I (f s x)) →
    forL tgf body ks (xs.map e) (E s) = .nx (E (xs.foldl f s)) ∧ I (xs.foldl f s)
  | [], s, h0, _ => ⟨rfl, h0⟩
  | x :: xs, s, h0, h => by
    obtain ⟨h1, h2⟩ := h x List.mem_cons_self s h0
    rw [List.map_cons, forL_nx h1]
    exact forL_fold E e f I xs _ h2 fun y hy => h y (List.mem_cons_of_mem _ hy)
theorem forL_app (E : List D → Env) (e : α → D) (g : α → List D) (c B : Nat) : ∀ (xs : List α) (s : List D), (∀ x ∈ xs, ∀ s, s.length + c ≤ B → turnL tgf body ks (e x) (E s) = .nx (E (s ++ g x))) → (∀ x ∈ xs, (g x).length ≤ c) → s.length + c * xs.length ≤ B →
    forL tgf body ks (xs.map e) (E s) = .nx (E (s ++ xs.flatMap g))
  | [], s, _, _, _ => by simp [forL]
  | x :: xs, s, h, hc, hB => by
    have e1 : c * (xs.length + 1) = c * xs.length + c := by rw [Nat.mul_add, Nat.mul_one]
    rw [List.length_cons, e1] at hB
    rw [List.map_cons, forL_nx (h x List.mem_cons_self s (by omega)), forL_app E e g c B xs _ (fun y hy => h y (List.mem_cons_of_mem _ hy)) (fun y hy => hc y (List.mem_cons_of_mem _ hy)) (by have := hc x List.mem_cons_self; simp; omega)]
    simp
theorem forL_id (ρ : Env) (e : α → D) : ∀ (xs : List α), (∀ x ∈ xs, turnL tgf body ks (e x) ρ = .nx ρ) → forL tgf body ks (xs.map e) ρ = .nx ρ
  | [], _ => rfl
  | x :: xs, h => by
    rw [List.map_cons, forL_nx (h x List.mem_cons_self)]
    exact forL_id ρ e xs fun y hy => h y (List.mem_cons_of_mem _ hy)
theorem fold_inv {f : S → α → S} {I : S → Prop} : ∀ {xs : List α} {s : S}, I s → (∀ x ∈ xs, ∀ s, I s → I (f s x)) → I (xs.foldl f s)
  | [], _, h, _ => h
  | x :: xs, s, h, g => fold_inv (xs := xs) (g x List.mem_cons_self s h) fun y hy => g y (List.mem_cons_of_mem _ hy)
theorem for_fold (E : S → Env) (e : α → D) (f : S → α → S) (I : S → Prop) (xs : List α) (s : S) {ds : List D} {ρ : Env} (h0 : I s) (hI : ∀ x ∈ xs, ∀ s, I s → I (f s x)) (hd : ds = xs.map e) (hρ : ρ = E s)
    (h : ∀ x ∈ xs, ∀ s, I s → turnL tgf body ks (e x) (E s) = .nx (E (f s x))) : forL tgf body ks ds ρ = .nx (E (xs.foldl f s)) := by
  rw [hd, hρ]
  exact (forL_fold E e f I xs s h0 fun x hx s hs => ⟨h x hx s hs, hI x hx s hs⟩).1
theorem for_foldi (E : S → Env) (e : α → D) (f : S → α → S) (I : Nat → S → Prop) : ∀ (xs : List α) (s : S) (n : Nat) {ds : List D} {ρ : Env}, I n s → (∀ i x s, xs[i]? = some x → I (n + i) s → I (n + i + 1) (f s x)) → ds = xs.map e → ρ = E s →
    (∀ i x s, xs[i]? = some x → I (n + i) s → turnL tgf body ks (e x) (E s) = .nx (E (f s x))) → forL tgf body ks ds ρ = .nx (E (xs.foldl f s))
  | [], s, n, ds, ρ, h0, hI, hd, hρ, h => by rw [hd, hρ]; rfl
  | x :: xs, s, n, ds, ρ, h0, hI, hd, hρ, h => by
    rw [hd, hρ, List.map_cons, forL_nx (h 0 x s rfl h0)]
    refine for_foldi E e f I xs (f s x) (n + 1) (hI 0 x s rfl h0) (fun i y t hy ht => ?_) rfl rfl fun i y t hy ht => ?_
    · have e1 : n + 1 + i = n + (i + 1) := by omega
      rw [e1] at ht ⊢
      exact hI (i + 1) y t (by simpa using hy) ht
    · have e1 : n + 1 + i = n + (i + 1) := by omega
      rw [e1] at ht
      exact h (i + 1) y t (by simpa using hy) ht
theorem foldi_inv {f : S → α → S} {I : Nat → S → Prop} : ∀ {xs : List α} {s : S} {n : Nat}, I n s → (∀ i x s, xs[i]? = some x → I (n + i) s → I (n + i + 1) (f s x)) → I (n + xs.length) (xs.foldl f s)
  | [], _, _, h, _ => h
  | x :: xs, s, n, h, g => by
    have := foldi_inv (xs := xs) (n := n + 1) (g 0 x s rfl h) fun i y t hy ht => by
      have e1 : n + 1 + i = n + (i + 1) := by omega
      rw [e1] at ht ⊢
      exact g (i + 1) y t (by simpa using hy) ht
    rw [List.length_cons, show n + (xs.length + 1) = n + 1 + xs.length by omega]
    exact this
theorem for_app (E : List D → Env) (e : α → D) (g : α → List D) (c B : Nat) (xs : List α) (s : List D) {ds : List D} {ρ : Env} (hc : ∀ x ∈ xs, (g x).length ≤ c) (hB : s.length + c * xs.length ≤ B) (hd : ds = xs.map e) (hρ : ρ = E s)
    (h : ∀ x ∈ xs, ∀ s, s.length + c ≤ B → turnL tgf body ks (e x) (E s) = .nx (E (s ++ g x))) : forL tgf body ks ds ρ = .nx (E (s ++ xs.flatMap g)) := by
  rw [hd, hρ, forL_app E e g c B xs s h hc hB]
theorem for_id (e : α → D) (xs : List α) {ds : List D} {ρ : Env} (hd : ds = xs.map e) (h : ∀ x ∈ xs, turnL tgf body ks (e x) ρ = .nx ρ) : forL tgf body ks ds ρ = .nx ρ := by
  rw [hd, forL_id ρ e xs h]
/-- a search: the first hit returns -/
theorem forL_find (ρ : Env) (e : α → D) (p : α → Bool) (r : α → D) : ∀ (xs : List α), (∀ x ∈ xs, p x = false → turnL tgf body ks (e x) ρ = .nx ρ) → (∀ x ∈ xs, p x = true → ∃ ρ', turnL tgf body ks (e x) ρ = .rt (r x) ρ') →
    (xs.find? p = none ∧ forL tgf body ks (xs.map e) ρ = .nx ρ) ∨ ∃ x ρ', xs.find? p = some x ∧ forL tgf body ks (xs.map e) ρ = .rt (r x) ρ'
  | [], _, _ => .inl ⟨rfl, rfl⟩
  | x :: xs, h, h2 => by
    rw [List.map_cons]
    cases q : p x with
    | false =>
      rw [forL_nx (h x List.mem_cons_self q), List.find?_cons, q]
      exact forL_find ρ e p r xs (fun y hy => h y (List.mem_cons_of_mem _ hy)) fun y hy => h2 y (List.mem_cons_of_mem _ hy)
    | true =>
      obtain ⟨ρ', e1⟩ := h2 x List.mem_cons_self q
      exact .inr ⟨x, ρ', by rw [List.find?_cons, q], forL_rt e1⟩
end
/-! comprehensions -/
def turnC (tgf : TGF) (tt : TF) (fe : EF) (ρ : Env) (d : D) : R (List D) :=
  (R.of (tgf d)).bind fun as => (tt (setE ρ as)).noErr.bind fun b => if b = true then (fe (setE ρ as)).noErr.bind fun y => .ok [y] else .ok []
theorem compL_cons {tgf : TGF} {tt : TF} {fe : EF} {ρ : Env} {d : D} {ds ys zs : List D} (h : turnC tgf tt fe ρ d = .ok ys) (h2 : compL tgf tt fe ρ ds = .ok zs) : compL tgf tt fe ρ (d :: ds) = .ok (ys ++ zs) := by
  rw [compL, h2]
  unfold turnC at h
  cases e : tgf d with
  | none => rw [e] at h; cases h
  | some as =>
    rw [e] at h
    simp only [ro_some, rb_ok] at h ⊢
    cases e2 : (tt (setE ρ as)).noErr with
    | ok b =>
      rw [e2] at h
      simp only [rb_ok] at h ⊢
      cases b with
      | true =>
        simp only [if_true] at h ⊢
        cases e3 : (fe (setE ρ as)).noErr with
        | ok y => rw [e3] at h; cases h; rfl
        | err c => rw [e3] at h; cases h
        | bad => rw [e3] at h; cases h
      | false =>
        cases h
        rfl
    | err c => rw [e2] at h; cases h
    | bad => rw [e2] at h; cases h
section
variable {α : Type} {tgf : TGF} {tt : TF} {fe : EF} {ρ : Env}
theorem compL_flat (e : α → D) (g : α → List D) : ∀ (xs : List α), (∀ x ∈ xs, turnC tgf tt fe ρ (e x) = .ok (g x)) → compL tgf tt fe ρ (xs.map e) = .ok (xs.flatMap g)
  | [], _ => rfl
  | x :: xs, h => by
    rw [List.map_cons, compL_cons (h x List.mem_cons_self) (compL_flat e g xs fun y hy => h y (List.mem_cons_of_mem _ hy))]
    rfl
theorem compL_map (e : α → D) (y : α → D) (xs : List α) (h : ∀ x ∈ xs, turnC tgf tt fe ρ (e x) = .ok [y x]) : compL tgf tt fe ρ (xs.map e) = .ok (xs.map y) := by
  rw [compL_flat e (fun x => [y x]) xs h]
  congr 1
  clear h
  induction xs with
  | nil => rfl
  | cons x xs ih => simp [ih]
theorem compL_filter (e : α → D) (p : α → Bool) (y : α → D) (xs : List α) (h : ∀ x ∈ xs, turnC tgf tt fe ρ (e x) = .ok (if p x = true then [y x] else [])) : compL tgf tt fe ρ (xs.map e) = .ok ((xs.filter p).map y) := by
  rw [compL_flat e (fun x => if p x = true then [y x] else []) xs h]
  congr 1
  clear h
  induction xs with
  | nil => rfl
  | cons x xs ih => cases q : p x <;> simp [q, ih]
theorem comp_map (e : α → D) (y : α → D) (xs : List α) {ds : List D} (hd : ds = xs.map e) (h : ∀ x ∈ xs, turnC tgf tt fe ρ (e x) = .ok [y x]) : compL tgf tt fe ρ ds = .ok (xs.map y) := by
  rw [hd, compL_map e y xs h]
theorem comp_filter (e : α → D) (p : α → Bool) (y : α → D) (xs : List α) {ds : List D} (hd : ds = xs.map e) (h : ∀ x ∈ xs, turnC tgf tt fe ρ (e x) = .ok (if p x = true then [y x] else [])) : compL tgf tt fe ρ ds = .ok ((xs.filter p).map y) := by
  rw [hd, compL_filter e p y xs h]
end

/-! ### operations -/
@[simp] theorem addD_i (i j : Int) : addD (.int i) (.int j) = some (.int (i + j)) := nr rfl
@[simp] theorem addD_t (xs ys : List D) : addD (.tuple xs) (.tuple ys) = if xs.length + ys.length ≤ 1000000 then some (.tuple (xs ++ ys)) else none := nr rfl
@[simp] theorem addD_l (xs ys : List D) : addD (.list xs) (.list ys) = if xs.length + ys.length ≤ 1000000 then some (.list (xs ++ ys)) else none := nr rfl
@[simp] theorem subD_i (i j : Int) : subD (.int i) (.int j) = some (.int (i - j)) := nr rfl
@[simp] theorem modD_i (i j : Int) : modD (.int i) (.int j) = if 0 < j then some (.int (i % j)) else none := nr rfl
@[simp] theorem fdivD_i (i j : Int) : fdivD (.int i) (.int j) = if 0 < j ∧ j < 1073741824 then some (.int (i / j)) else none := nr rfl
@[simp] theorem mulD_i (i j : Int) : mulD (.int i) (.int j) = if (-(2 ^ 64) < i ∧ i < 2 ^ 64) ∨ (-(2 ^ 64) < j ∧ j < 2 ^ 64) then some (.int (i * j)) else none := nr rfl
@[simp] theorem mulD_t (xs : List D) (k : Int) : mulD (.tuple xs) (.int k) = if xs ≠ [] ∧ 1 ≤ k ∧ k ≤ 1000 ∧ xs.length ≤ 1000 then some (.tuple (List.replicate k.toNat xs).flatten) else none := nr rfl
@[simp] theorem mulD_l (xs : List D) (k : Int) : mulD (.list xs) (.int k) = if -(2 ^ 63) ≤ k ∧ k < 2 ^ 63 ∧ xs.length * k.toNat ≤ 1000000 then some (.list (List.replicate k.toNat xs).flatten) else none := nr rfl
@[simp] theorem intsD_i (p : Int → Int → Bool) (i j : Int) : intsD p (.int i) (.int j) = some (.bool (p i j)) := nr rfl
@[simp] theorem isD_nn : isD .none .none = some (.bool true) := nr rfl
@[simp] theorem isD_in (i : Int) : isD (.int i) .none = some (.bool false) := nr rfl
@[simp] theorem isD_tn (i : List D) : isD (.tuple i) .none = some (.bool false) := nr rfl
@[simp] theorem isD_ln (i : List D) : isD (.list i) .none = some (.bool false) := nr rfl
@[simp] theorem isD_bb (a b : Bool) : isD (.bool a) (.bool b) = some (.bool (decide (a = b))) := nr rfl
@[simp] theorem nisD_nn : notIsD .none .none = some (.bool false) := nr rfl
@[simp] theorem nisD_in (i : Int) : notIsD (.int i) .none = some (.bool true) := nr rfl
@[simp] theorem nisD_tn (i : List D) : notIsD (.tuple i) .none = some (.bool true) := nr rfl
@[simp] theorem nisD_bb (a b : Bool) : notIsD (.bool a) (.bool b) = some (.bool (!decide (a = b))) := nr rfl
@[simp] theorem ixD_l (xs : List D) (i : Int) : ixD (.list xs) (.int i) = atI xs i := nr rfl
@[simp] theorem ixD_t (xs : List D) (i : Int) : ixD (.tuple xs) (.int i) = atI xs i := nr rfl
@[simp] theorem slD_l (xs : List D) (lo hi : Option Int) : slD (.list xs) lo hi = some (.list (cutD xs lo hi)) := nr rfl
@[simp] theorem slD_t (xs : List D) (lo hi : Option Int) : slD (.tuple xs) lo hi = some (.tuple (cutD xs lo hi)) := nr rfl
@[simp] theorem intD_i (i : Int) : intD (.int i) = some i := nr rfl
@[simp] theorem lenD_l (xs : List D) : lenD [.list xs] = some (.int xs.length) := nr rfl
@[simp] theorem lenD_t (xs : List D) : lenD [.tuple xs] = some (.int xs.length) := nr rfl
@[simp] theorem tupleD_l (xs : List D) : tupleD [.list xs] = some (.tuple xs) := nr rfl
@[simp] theorem tupleD_t (xs : List D) : tupleD [.tuple xs] = some (.tuple xs) := nr rfl
@[simp] theorem listN_l (xs : List D) : listN [.list xs] = some xs := nr rfl
@[simp] theorem listN_t (xs : List D) : listN [.tuple xs] = some xs := nr rfl
@[simp] theorem seqOf_l (xs : List D) : seqOf (.list xs) = some xs := nr rfl
@[simp] theorem seqOf_t (xs : List D) : seqOf (.tuple xs) = some xs := nr rfl
@[simp] theorem allD_l (ds : List D) : allD [.list ds] = (boolsOf ds).map fun bs => .bool (bs.all id) := nr rfl
@[simp] theorem anyD_l (ds : List D) : anyD [.list ds] = (boolsOf ds).map fun bs => .bool (bs.any id) := nr rfl
@[simp] theorem sumD_l (ds : List D) : sumD [.list ds] = (intsOf ds).map fun ns => .int ns.sum := nr rfl
@[simp] theorem intC_i (i : Int) : intC [.int i] = some (.int i) := nr rfl
@[simp] theorem intC_b (b : Bool) : intC [.bool b] = some (.int (if b then 1 else 0)) := nr rfl
@[simp] theorem absD_i (i : Int) : absD [.int i] = some (.int (if i < 0 then -i else i)) := nr rfl
@[simp] theorem min2D_i (i j : Int) : min2D [.int i, .int j] = some (.int (if j < i then j else i)) := nr rfl
@[simp] theorem revD_l (xs : List D) : revD (.list xs) = some (.list xs.reverse) := nr rfl
@[simp] theorem revD_t (xs : List D) : revD (.tuple xs) = some (.tuple xs.reverse) := nr rfl
def exO (i : Nat) (ρ : Env) (ds : List D) : D → Out
  | .list es => if ds.length + es.length ≤ 1000000 then .nx (ρ.set i (some (.list (ds ++ es)))) else .bad
  | _ => .bad
@[simp] theorem exO_l (i : Nat) (ρ : Env) (ds es : List D) : exO i ρ ds (.list es) = if ds.length + es.length ≤ 1000000 then .nx (ρ.set i (some (.list (ds ++ es)))) else .bad := nr rfl
@[simp] theorem extV_ap (w : List Sh) (i : Nat) (f : EF) (ρ : Env) : extV w i f ρ = lsAt ρ i fun ds => runR (f (hidA w ρ)) ρ (exO i ρ ds) := nr rfl
@[simp] theorem negD_i (i : Int) : negD (.int i) = some (.int (-i)) := nr rfl
@[simp] theorem isInt_i (i : Int) : isIntD (.int i) = true := nr rfl
@[simp] theorem isInt_b (i : Bool) : isIntD (.bool i) = true := nr rfl
@[simp] theorem isBool_i (i : Int) : isBoolD (.int i) = false := nr rfl
@[simp] theorem isBool_b (i : Bool) : isBoolD (.bool i) = true := nr rfl
@[simp] theorem isTup_t (i : List D) : isTupD (.tuple i) = true := nr rfl
theorem boolsOf_mapf {α : Type} (f : α → Bool) (xs : List α) : boolsOf (xs.map fun x => .bool (f x)) = some (xs.map f) := by
  induction xs with
  | nil => rfl
  | cons x xs ih => simp [boolsOf, ih]
theorem intsOf_mapf {α : Type} (f : α → Int) (xs : List α) : intsOf (xs.map fun x => .int (f x)) = some (xs.map f) := by
  induction xs with
  | nil => rfl
  | cons x xs ih => simp [intsOf, ih]
/-- range(n), the numbers natural -/
@[simp] theorem range1_nat (n : Nat) (h : n < 2 ^ 62) : range1D [.int (n : Int)] = some ((List.range n).map fun i => .int (i : Nat)) := by
  have : -(2 ^ 62 : Int) ≤ n ∧ (n : Int) < 2 ^ 62 := by omega
  simp only [range1D]
  rw [if_pos this]
  simp [rangeL]
theorem range1_int {z : Int} (n : Nat) (e : z = n) (h : n < 2 ^ 62) : range1D [.int z] = some ((List.range n).map fun i => .int (i : Nat)) := by rw [e, range1_nat n h]
theorem enumD_l (xs : List D) : enumD [.list xs] = some (enumL xs) := rfl
theorem enumD_t (xs : List D) : enumD [.tuple xs] = some (enumL xs) := rfl
theorem zipD_l (xs ys : List D) : zipD [.list xs, .list ys] = some (zipL xs ys) := rfl
theorem zipD_t (xs ys : List D) : zipD [.tuple xs, .tuple ys] = some (zipL xs ys) := rfl
/-- the items of a row told by their numbers -/
theorem enumL_map {α : Type} (f : α → D) (xs : List α) : enumL (xs.map f) = (xs.zipIdx).map fun p => .tuple [.int (p.2 : Nat), f p.1] := by
  unfold enumL
  rw [List.zipIdx_map, List.map_map]
  rfl
theorem enumL_range (n : Nat) (f : Nat → D) : enumL ((List.range n).map f) = (List.range n).map fun i => .tuple [.int (i : Nat), f i] := by
  rw [enumL_map]
  apply List.ext_getElem <;> simp
theorem zipL_range (n : Nat) (f g : Nat → D) : zipL ((List.range n).map f) ((List.range n).map g) = (List.range n).map fun i => .tuple [f i, g i] := by
  unfold zipL
  apply List.ext_getElem <;> simp

/-! ### places -/
theorem at_nat {α : Type} (xs : List α) (k : Nat) : atI xs (k : Int) = xs[k]? := by
  unfold atI ixN
  by_cases h : (k : Int) < xs.length
  · rw [if_pos (by omega), if_pos h]
    simp
  · rw [if_pos (by omega), if_neg h]
    simp only [Option.bind_none]
    exact (List.getElem?_eq_none (by omega)).symm
theorem at_of {α : Type} (xs : List α) {i : Int} (k : Nat) (e : i = k) : atI xs i = xs[k]? := by rw [e, at_nat]
theorem at_pos {α : Type} (xs : List α) {i : Int} (h : 0 ≤ i) : atI xs i = xs[i.toNat]? := at_of xs i.toNat (by omega)
@[simp] theorem at_natS {α : Type} (xs : List α) (k : Nat) : atI xs (k : Int) = xs[k]? := at_nat xs k
@[simp] theorem at_succS {α : Type} (xs : List α) (k : Nat) : atI xs ((k : Int) + 1) = xs[k + 1]? := at_of xs (k + 1) (by omega)
@[simp] theorem at_zeroS {α : Type} (xs : List α) : atI xs 0 = xs[0]? := at_of xs 0 rfl
@[simp] theorem at_oneS {α : Type} (xs : List α) : atI xs 1 = xs[1]? := at_of xs 1 rfl
@[simp] theorem at_twoS {α : Type} (xs : List α) : atI xs 2 = xs[2]? := at_of xs 2 rfl
@[simp] theorem at_threeS {α : Type} (xs : List α) : atI xs 3 = xs[3]? := at_of xs 3 rfl
@[simp] theorem at_litS {α : Type} (xs : List α) (n : Nat) : atI xs (no_index (OfNat.ofNat n) : Int) = xs[(OfNat.ofNat n : Nat)]? := at_of xs n rfl
theorem at_neg1 {α : Type} (xs : List α) : atI xs (-1) = xs[xs.length - 1]? := by
  unfold atI ixN
  rw [if_neg (by omega)]
  by_cases h : -(xs.length : Int) ≤ -1
  · rw [if_pos h]
    show xs[(-1 + (xs.length : Int)).toNat]? = _
    congr 1
    omega
  · rw [if_neg h]
    have : xs.length = 0 := by omega
    exact (List.getElem?_eq_none (by omega)).symm
@[simp] theorem rng_get (n i : Nat) (f : Nat → D) : ((List.range n).map f)[i]? = if i < n then some (f i) else none := by
  rw [List.getElem?_map]
  split
  · rename_i h; rw [List.getElem?_range h]; rfl
  · rename_i h; rw [List.getElem?_eq_none (by simpa using h)]; rfl
theorem rng_neg1 (n : Nat) (f : Nat → D) (h : 0 < n) : atI ((List.range n).map f) (-1) = some (f (n - 1)) := by
  rw [at_neg1, rng_get]
  simp
  omega
/-- slices of a range -/
theorem cut_nat {α : Type} (xs : List α) (a b : Nat) : cutD xs (some (a : Int)) (some (b : Int)) = (xs.drop a).take (b - a) := by
  unfold cutD
  rw [HT.sIx_nat, HT.sIx_nat]
  rcases Nat.lt_or_ge a xs.length with h | h
  · rw [Nat.min_eq_left (Nat.le_of_lt h)]
    rcases Nat.lt_or_ge b xs.length with h2 | h2
    · rw [Nat.min_eq_left (Nat.le_of_lt h2)]
    · rw [Nat.min_eq_right h2, List.take_of_length_le (by simp), List.take_of_length_le (by simp; omega)]
  · rw [Nat.min_eq_right h, List.drop_of_length_le h, List.drop_of_length_le (Nat.le_refl _)]
    simp
theorem cut_lo {α : Type} (xs : List α) (a : Nat) : cutD xs (some (a : Int)) none = xs.drop a := by
  unfold cutD
  rw [HT.sIx_nat, HT.sIx_none]
  rcases Nat.lt_or_ge a xs.length with h | h
  · rw [Nat.min_eq_left (Nat.le_of_lt h), List.take_of_length_le (by simp)]
  · rw [Nat.min_eq_right h, List.drop_of_length_le h, List.drop_of_length_le (Nat.le_refl _)]
    simp
theorem cut_hi {α : Type} (xs : List α) (b : Nat) : cutD xs none (some (b : Int)) = xs.take b := by
  unfold cutD
  rw [HT.sIx_nat, HT.sIx_none]
  rcases Nat.lt_or_ge b xs.length with h2 | h2
  · rw [Nat.min_eq_left (Nat.le_of_lt h2)]; simp
  · rw [Nat.min_eq_right h2, List.take_of_length_le (by simp), List.take_of_length_le (by omega)]; simp
theorem rng_cut {α : Type} (n a c : Nat) (f : Nat → α) : (((List.range n).map f).drop a).take c = (List.range (min c (n - a))).map fun i => f (a + i) := by
  apply List.ext_getElem <;> simp

/-! ### comparisons -/
/-- data of ints, None, texts, lists, tuples: not deep -/
def cl : Nat → D → Bool
  | _, .none => true
  | _, .int _ => true
  | _, .bool _ => true
  | _, .str x => PyData.canLay0 (.str x)
  | n + 1, .list xs => xs.all (cl n)
  | n + 1, .tuple xs => xs.all (cl n)
  | _, _ => false
theorem depthAll_le {n : Nat} : ∀ {xs : List D}, (∀ x ∈ xs, x.depth ≤ n) → PyData.depthAll xs ≤ n
  | [], _ => by simp [PyData.depthAll]
  | x :: xs, h => by
    rw [PyData.depthAll]
    have := h x List.mem_cons_self
    have := depthAll_le (xs := xs) fun y hy => h y (List.mem_cons_of_mem _ hy)
    omega
theorem canAll_of : ∀ {xs : List D}, (∀ x ∈ xs, x.canLay0 = true) → PyData.canLayAll0 xs = true
  | [], _ => rfl
  | x :: xs, h => by
    rw [PyData.canLayAll0, h x List.mem_cons_self, canAll_of fun y hy => h y (List.mem_cons_of_mem _ hy)]
    rfl
theorem cl_ok : ∀ (n : Nat) (d : D), cl n d = true → d.canLay0 = true ∧ d.depth ≤ n
  | n, .none, _ => ⟨rfl, by simp [PyData.depth]⟩
  | n, .int _, _ => ⟨rfl, by simp [PyData.depth]⟩
  | n, .bool _, _ => ⟨rfl, by simp [PyData.depth]⟩
  | 0, .str x, h => ⟨by simpa [cl] using h, by simp [PyData.depth]⟩
  | n + 1, .str x, h => ⟨by simpa [cl] using h, by simp [PyData.depth]⟩
  | n + 1, .list xs, h => by
    simp only [cl, List.all_eq_true] at h
    refine ⟨canAll_of fun x hx => (cl_ok n x (h x hx)).1, ?_⟩
    rw [PyData.depth]
    have := depthAll_le fun x hx => (cl_ok n x (h x hx)).2
    omega
  | n + 1, .tuple xs, h => by
    simp only [cl, List.all_eq_true] at h
    refine ⟨canAll_of fun x hx => (cl_ok n x (h x hx)).1, ?_⟩
    rw [PyData.depth]
    have := depthAll_le fun x hx => (cl_ok n x (h x hx)).2
    omega
  | 0, .list xs, h => by simp [cl] at h
  | 0, .tuple xs, h => by simp [cl] at h
  | 0, .dict xs, h => by simp [cl] at h
  | n + 1, .dict xs, h => by simp [cl] at h
theorem cl_shaped {d : D} (h : cl 20 d = true) : SeqAt.shaped d = true := by
  obtain ⟨h1, h2⟩ := cl_ok 20 d h
  unfold SeqAt.shaped
  rw [h1, Bool.true_and]
  exact decide_eq_true (by omega)
@[simp] theorem cl_none (n : Nat) : cl n .none = true := by cases n <;> rfl
@[simp] theorem cl_int (n : Nat) (i : Int) : cl n (.int i) = true := by cases n <;> rfl
@[simp] theorem cl_bool (n : Nat) (i : Bool) : cl n (.bool i) = true := by cases n <;> rfl
@[simp] theorem cl_l (n : Nat) (xs : List D) : cl (n + 1) (.list xs) = xs.all (cl n) := by simp [cl]
@[simp] theorem cl_t (n : Nat) (xs : List D) : cl (n + 1) (.tuple xs) = xs.all (cl n) := by simp [cl]
theorem cl_s (n : Nat) (x : Str) (h : PyData.canLay0 (.str x) = true) : cl n (.str x) = true := by cases n <;> exact h
theorem eqD_cl {d e : D} (h : cl 20 d = true) (h2 : cl 20 e = true) : eqD d e = some (.bool (PyData.eqv d e)) := by
  unfold eqD; rw [if_pos ⟨cl_shaped h, cl_shaped h2⟩]
theorem neD_cl {d e : D} (h : cl 20 d = true) (h2 : cl 20 e = true) : neD d e = some (.bool (!PyData.eqv d e)) := by
  unfold neD; rw [if_pos ⟨cl_shaped h, cl_shaped h2⟩]
theorem inE_t {d : D} {ds : List D} (h : cl 20 d = true) (h2 : cl 20 (.tuple ds) = true) : inE d (.tuple ds) = some (.bool (ds.any fun z => PyData.eqv z d)) := by
  unfold inE inD; simp only [if_pos (And.intro (cl_shaped h) (cl_shaped h2))]; rfl
theorem inE_l {d : D} {ds : List D} (h : cl 20 d = true) (h2 : cl 20 (.list ds) = true) : inE d (.list ds) = some (.bool (ds.any fun z => PyData.eqv z d)) := by
  unfold inE inD; simp only [if_pos (And.intro (cl_shaped h) (cl_shaped h2))]; rfl
theorem ninE_t {d : D} {ds : List D} (h : cl 20 d = true) (h2 : cl 20 (.tuple ds) = true) : notInE d (.tuple ds) = some (.bool (!ds.any fun z => PyData.eqv z d)) := by
  unfold notInE inD; simp only [if_pos (And.intro (cl_shaped h) (cl_shaped h2))]; rfl
theorem ninE_l {d : D} {ds : List D} (h : cl 20 d = true) (h2 : cl 20 (.list ds) = true) : notInE d (.list ds) = some (.bool (!ds.any fun z => PyData.eqv z d)) := by
  unfold notInE inD; simp only [if_pos (And.intro (cl_shaped h) (cl_shaped h2))]; rfl
@[simp] theorem eqD_ii (i j : Int) : eqD (.int i) (.int j) = some (.bool (i == j)) := by rw [eqD_cl (cl_int _ _) (cl_int _ _)]; simp [PyData.eqv]
@[simp] theorem neD_ii (i j : Int) : neD (.int i) (.int j) = some (.bool (!(i == j))) := by rw [neD_cl (cl_int _ _) (cl_int _ _)]; simp [PyData.eqv]
@[simp] theorem eqD_bb (i j : Bool) : eqD (.bool i) (.bool j) = some (.bool (i == j)) := by rw [eqD_cl (cl_bool _ _) (cl_bool _ _)]; simp [PyData.eqv]
@[simp] theorem neD_bb (i j : Bool) : neD (.bool i) (.bool j) = some (.bool (!(i == j))) := by rw [neD_cl (cl_bool _ _) (cl_bool _ _)]; simp [PyData.eqv]
theorem eqv_self {d : D} (h : cl 20 d = true) : PyData.eqv d d = true := SeqAt.eqv_refl d (cl_ok 20 d h).1
theorem eqD_self {d : D} (h : cl 20 d = true) : eqD d d = some (.bool true) := by rw [eqD_cl h h, eqv_self h]
theorem neD_self {d : D} (h : cl 20 d = true) : neD d d = some (.bool false) := by rw [neD_cl h h, eqv_self h]; rfl
theorem eqD_nil {xs : List D} (h : cl 20 (.list xs) = true) : eqD (.list xs) (.list []) = some (.bool xs.isEmpty) := by
  rw [eqD_cl h (by rfl)]
  cases xs <;> simp [PyData.eqv, PyData.eqvAll]
theorem neD_nil {xs : List D} (h : cl 20 (.list xs) = true) : neD (.list xs) (.list []) = some (.bool (!xs.isEmpty)) := by
  rw [neD_cl h (by rfl)]
  cases xs <;> simp [PyData.eqv, PyData.eqvAll]
end DL

set_option maxHeartbeats 1000000
/-! PL1: objects and memos, evaluated. -/
namespace DL
open PySem PySem.Spec L2
@[simp] theorem vqE_z (d : D) (ρ : Env) : vqE 0 (some d :: ρ) = .ok d := nr rfl
@[simp] theorem vqE_s (i : Nat) (x : Option D) (ρ : Env) : vqE (i + 1) (x :: ρ) = vqE i ρ := by unfold vqE; rw [List.getElem?_cons_succ]
@[simp] theorem fldE_ap (cns : List Str) (f : Str) (fe : EF) (ρ : Env) : fldE cns f fe ρ = ((fe ρ).bind fun d => fldO cns f (objOf d)).bind okD := nr rfl
@[simp] theorem fldQ_ap (cns : List Str) (f : Str) (fe : EF) (ρ : Env) : fldQ cns f fe ρ = (fe ρ).bind fun d => fldO cns f (objOf d) := nr rfl
@[simp] theorem methE_ap (cn m : Str) (g : List D → R D) (fe : EF) (fa : AF) (ρ : Env) : methE cn m g fe fa ρ = (fe ρ).bind fun d => if methO cn m (objOf d) = true then (fa ρ).bind fun ds => g (d :: ds) else .bad := by
  unfold methE bE
  congr 1
  funext d
  by_cases h : methO cn m (objOf d) = true
  · simp only [if_pos h]
  · simp only [if_neg h]
section
variable {c : Str} {T G pl k : D}
theorem objOf_ctr : objOf (ctrD c T G pl k) = some (c, ([("tiles", T), ("goal", G), ("places", pl), ("columns", k)] : List (Str × D))) := objOf_obj _ _
theorem ne_s {a b : Str} (h : decide (a = b) = false) : (a == b) = false := by
  rw [beq_eq_false_iff_ne]
  exact of_decide_eq_false h
@[simp] theorem fldO_tiles : fldO [c] "tiles" (objOf (ctrD c T G pl k)) = .ok T := by
  rw [objOf_ctr]
  simp [fldO, List.lookup_cons]
@[simp] theorem fldO_goal : fldO [c] "goal" (objOf (ctrD c T G pl k)) = .ok G := by
  rw [objOf_ctr]
  simp [fldO, List.lookup_cons, ne_s (show decide (("goal" : Str) = "tiles") = false by decide +kernel)]
@[simp] theorem fldO_places : fldO [c] "places" (objOf (ctrD c T G pl k)) = .ok pl := by
  rw [objOf_ctr]
  simp [fldO, List.lookup_cons, ne_s (show decide (("places" : Str) = "tiles") = false by decide +kernel), ne_s (show decide (("places" : Str) = "goal") = false by decide +kernel)]
@[simp] theorem fldO_columns : fldO [c] "columns" (objOf (ctrD c T G pl k)) = .ok k := by
  rw [objOf_ctr]
  simp [fldO, List.lookup_cons, ne_s (show decide (("columns" : Str) = "tiles") = false by decide +kernel), ne_s (show decide (("columns" : Str) = "goal") = false by decide +kernel), ne_s (show decide (("columns" : Str) = "places") = false by decide +kernel)]
theorem methO_ctr {m : Str} (h1 : decide (m = "tiles") = false) (h2 : decide (m = "goal") = false) (h3 : decide (m = "places") = false) (h4 : decide (m = "columns") = false) (h5 : decide (m = "known") = false) : methO c m (objOf (ctrD c T G pl k)) = true := by
  rw [objOf_ctr]
  simp [methO, List.lookup_cons, ne_s h1, ne_s h2, ne_s h3, ne_s h4, of_decide_eq_false h5]
@[simp] theorem methO_ways : methO c "ways" (objOf (ctrD c T G pl k)) = true := methO_ctr (by decide +kernel) (by decide +kernel) (by decide +kernel) (by decide +kernel) (by decide +kernel)
@[simp] theorem methO_fitting : methO c "fitting" (objOf (ctrD c T G pl k)) = true := methO_ctr (by decide +kernel) (by decide +kernel) (by decide +kernel) (by decide +kernel) (by decide +kernel)
@[simp] theorem methO_moved : methO c "moved_on" (objOf (ctrD c T G pl k)) = true := methO_ctr (by decide +kernel) (by decide +kernel) (by decide +kernel) (by decide +kernel) (by decide +kernel)
@[simp] theorem clsIs_ctr : clsIs c (ctrD c T G pl k) = true := by
  unfold clsIs
  rw [objOf_ctr]
  simp
theorem lenP_ctr {l : List D} : lenP "places" (ctrD c T G (.list l) k) = l.length := by
  unfold lenP
  rw [objOf_ctr]
  simp [List.lookup_cons, ne_s (show decide (("places" : Str) = "tiles") = false by decide +kernel), ne_s (show decide (("places" : Str) = "goal") = false by decide +kernel)]
end
theorem keyD_nums {a : Nat} {l : List Nat} (ha : a < 9) (hl : l.length ≤ 4) (hx : ∀ x ∈ l, x < 16) : (keyD (.tuple [.int (a : Nat), .tuple (l.map fun i => .int (i : Nat))])).isSome = true := by
  have h : ∀ m : List Nat, (∀ x ∈ m, x < 16) → natsOf (m.map fun i => .int (i : Nat)) = some m := fun m => by
    induction m with
    | nil => intro _; rfl
    | cons x m ih =>
      intro hm
      have hx : x < 16 := hm x List.mem_cons_self
      show (natOf (.int (x : Nat))).bind _ = _
      rw [show natOf (.int (x : Nat)) = some x by simp only [natOf]; rw [if_pos (by omega)]; rfl, ih fun y hy => hm y (List.mem_cons_of_mem _ hy)]
      rfl
  unfold keyD
  simp only
  rw [if_pos ⟨by omega, by omega, by simpa using hl⟩, h l hx]
  rfl
@[simp] theorem outM_rt (d : D) (ρ : Env) : outM (.rt d ρ) = .ok d := nr rfl
@[simp] theorem memoS_ap (cn : Str) (G : D → D → R D) (cond : D → D → Bool) (m : Nat) (d0 k1 k2 : D) (r : Env) : memoS cn G cond m (some d0 :: some k1 :: some k2 :: r) = memoO (r.length + 3) (clsIs cn d0 && (keyD (.tuple [k1, k2])).isSome && cond d0 (.tuple [k1, k2]) && (r.all (·.isNone) && decide (r.length = m))) (G d0 (.tuple [k1, k2])) := nr rfl
@[simp] theorem memoO_ok (m : Nat) (d : D) (h : noList d = true) : memoO m true (.ok d) = .rt d (List.replicate m none) := by
  unfold memoO
  rw [if_pos rfl]
  simp [h]
@[simp] theorem noList_i (i : Int) : noList (.int i) = true := nr rfl
@[simp] theorem newO_ap (cn : Str) (g : D → R (D × D)) (T G : D) : newO cn g [T, G] = (g G).noErr.bind fun pc => .ok (ctrD cn T G pc.1 pc.2) := nr rfl
@[simp] theorem gIof_ap (f3 f4 : EF) (G : D) : gIof f3 f4 G = (f3 [none, none, some G]).noErr.bind fun pl => (f4 [none, none, some G]).noErr.bind fun c => .ok (pl, c) := nr rfl
theorem plainE_of {ρ : Env} (h : ∀ d, some d ∈ ρ → okD d = .ok d) : plainE ρ = true := by
  unfold plainE
  rw [List.all_eq_true]
  intro o ho
  cases o with
  | none => rfl
  | some d => simp only [h d ho]
@[simp] theorem plainE_nil : plainE [] = true := nr rfl
@[simp] theorem plainE_none (ρ : Env) : plainE (none :: ρ) = plainE ρ := by simp [plainE]
theorem plainE_some {d : D} (ρ : Env) (h : okD d = .ok d) : plainE (some d :: ρ) = plainE ρ := by simp [plainE, h]
@[simp] theorem mkmE_ap (cn m : Str) (gI : D → R (D × D)) (fa fb : AF) (gm : List D → R D) (ρ : Env) : mkmE cn m gI fa fb gm ρ = if plainE ρ = true then ((fa ρ).noErr.bind (newO cn gI)).bind fun d => if m ≠ ("known" : Str) ∧ m ∉ (["tiles", "goal", "places", "columns"] : List Str) then (fb ρ).noErr.bind fun es => gm (d :: es) else .bad else .bad := nr rfl
end DL

set_option maxHeartbeats 1000000
/-! PL2: kept exceptions, evaluated. -/
namespace DL
open PySem PySem.Spec L2
@[simp] theorem ownK_ap (g : List D → R D) (fa : AF) (ρ : Env) : ownK g fa ρ = (fa ρ).noErr.bind g := nr rfl
@[simp] theorem ifK_ap (t : TF) (a b : EF) (ρ : Env) : ifK t a b ρ = (t ρ).noErr.bind fun c => if c = true then a ρ else b ρ := nr rfl
@[simp] theorem lmE_ap (g : D → D → Option D) (fo fe : EF) (ρ : Env) : lmE g fo fe ρ = (fo ρ).bind fun a => if isL a = true then (fe ρ).bind fun b => R.of (g a b) else .bad := by
  unfold lmE bE
  congr 1
  funext a
  by_cases h : isL a = true
  · simp only [if_pos h]; rfl
  · simp only [if_neg h]
@[simp] theorem isL_l (xs : List D) : isL (.list xs) = true := nr rfl
@[simp] theorem exIsE_ap (tbl : List (Str × Bool)) (f : EF) (ρ : Env) : exIsE tbl f ρ = (f ρ).bind fun d => R.of ((excOf d).bind fun c => (tbl.lookup c).map .bool) := nr rfl
@[simp] theorem isNT_ap (f : EF) (ρ : Env) : isNT f ρ = (f ρ).bind fun d => R.of (isNQ d) := nr rfl
@[simp] theorem excOf_exc (c : Str) : excOf (excD c) = some c := by
  unfold excOf excD
  simp
@[simp] theorem isNQ_exc (c : Str) : isNQ (excD c) = some false := by
  unfold isNQ
  rw [excOf_exc]
@[simp] theorem isNQ_none : isNQ .none = some true := by rfl
@[simp] theorem fzAll_nil : fzAll [] = true := nr rfl
@[simp] theorem fzAll_fz (w : List Sh) : fzAll (.fz :: w) = fzAll w := nr rfl
theorem tryS_ok {w : List Sh} {ia ie ik : Nat} {cs : List Str} {f : EF} {ρ : Env} {d : D} (hw : fzAll w = true) (h : f ρ = .ok d) : tryS w ia ie ik cs f ρ = .nx (ρ.set ia (some d)) := by
  unfold tryS
  rw [if_pos hw, h]
theorem tryS_err {w : List Sh} {ia ie ik : Nat} {cs : List Str} {f : EF} {ρ : Env} {c : Str} (hw : fzAll w = true) (h : f ρ = .err c) (hc : c ∈ cs) : tryS w ia ie ik cs f ρ = .nx (((ρ.set ie none).set ik (some (excD c))).set ie none) := by
  unfold tryS
  rw [if_pos hw, h]
  simp only [if_pos hc]
end DL

set_option maxHeartbeats 1000000
/-! PL3: owned lists of lists, evaluated. -/
namespace DL
open PySem PySem.Spec L2
@[simp] theorem mulNA_ap (a b : EF) (ρ : Env) : mulNA a b ρ = (a ρ).bind fun x => (b ρ).bind fun y => R.of (mulLD x y) := nr rfl
@[simp] theorem mulLD_l (ds : List D) (n : Int) : mulLD (.list ds) (.int n) = if 0 ≤ n ∧ n < 1000 ∧ ds.length * n.toNat ≤ 1000000 then some (List.replicate n.toNat ds).flatten else none := nr rfl
theorem mulLD_one (d : D) (n : Nat) (h : n < 1000) : mulLD (.list [d]) (.int (n : Nat)) = some ((List.range n).map fun _ => d) := by
  rw [mulLD_l, if_pos ⟨by omega, by omega, by simp; omega⟩]
  congr 1
  simp only [Int.toNat_natCast]
  clear h
  induction n with
  | zero => rfl
  | succ n ih => rw [List.replicate_succ', List.flatten_append, ih, List.range_succ, List.map_append]; rfl
def newLO (i : Nat) (ρ : Env) : Option (List (List (Option Int))) → Out
  | some xss => .nx (ρ.set i (some (llD xss)))
  | none => .bad
@[simp] theorem newLO_s (i : Nat) (ρ : Env) (xss : List (List (Option Int))) : newLO i ρ (some xss) = .nx (ρ.set i (some (llD xss))) := nr rfl
@[simp] theorem newL_ap (w : List Sh) (i : Nat) (f : AF) (ρ : Env) : newL w i f ρ = runR (f (hidA w ρ)) ρ fun es => newLO i ρ (llOf es) := nr rfl
def setLO2 (i : Nat) (ρ : Env) (xss : List (List (Option Int))) (g : R D) (d : D) : Option (Nat × List (Option Int)) → Out
  | some (j, xs) => runR g ρ fun b => putL ρ i xss j xs b d
  | none => .bad
@[simp] theorem setLO2_s (i : Nat) (ρ : Env) (xss : List (List (Option Int))) (g : R D) (d : D) (j : Nat) (xs : List (Option Int)) : setLO2 i ρ xss g d (some (j, xs)) = runR g ρ fun b => putL ρ i xss j xs b d := nr rfl
def setLO (i : Nat) (ρ : Env) (re ra rb : R D) : D → Out := fun dl => match llDe dl with
  | some xss => runR re ρ fun d => runR ra ρ fun a => setLO2 i ρ xss rb d (rowAt xss a)
  | none => .bad
@[simp] theorem setLO_l (i : Nat) (ρ : Env) (re ra rb : R D) (xss : List (List (Option Int))) : setLO i ρ re ra rb (llD xss) = runR re ρ fun d => runR ra ρ fun a => setLO2 i ρ xss rb d (rowAt xss a) := by
  unfold setLO
  rw [llDe_ll]
@[simp] theorem setLL_ap (w : List Sh) (i : Nat) (fe fa fb : EF) (ρ : Env) : setLL w i fe fa fb ρ = atSlot ρ i (setLO i ρ (fe (hidA w ρ)) (fa (hidA w ρ)) (fb (hidA w ρ))) := nr rfl
@[simp] theorem okD_ll (xss : List (List (Option Int))) : okD (llD xss) = .ok (llD xss) := nr rfl
@[simp] theorem seq_ll (xss : List (List (Option Int))) : seqOf (llD xss) = some (xss.map lsD) := nr rfl
theorem llOf_mapf {α : Type} (g : α → List (Option Int)) (l : List α) : llOf (l.map fun x => lsD (g x)) = some (l.map g) := by
  have := llOf_map (l.map g)
  rw [List.map_map] at this
  exact this
def setO (ρ : Env) (i : Nat) (ds : List D) (d : D) : Option Nat → Out
  | some j => if noList d = true then .nx (ρ.set i (some (.list (ds.set j d)))) else .bad
  | none => .bad
@[simp] theorem setO_s (ρ : Env) (i : Nat) (ds : List D) (d : D) (j : Nat) : setO ρ i ds d (some j) = if noList d = true then .nx (ρ.set i (some (.list (ds.set j d)))) else .bad := nr rfl
def setK (ρ : Env) (i : Nat) (ds : List D) (d x : D) : Out := match intD x with
  | some k => setO ρ i ds d (ixN ds.length k)
  | none => .bad
@[simp] theorem setK_n (ρ : Env) (i : Nat) (ds : List D) (d : D) (k : Nat) (h : k < ds.length) : setK ρ i ds d (.int (k : Nat)) = if noList d = true then .nx (ρ.set i (some (.list (ds.set k d)))) else .bad := by
  unfold setK
  simp only [intD]
  rw [ixN_nat h, setO_s]
@[simp] theorem setS_ap (w : List Sh) (i : Nat) (f fi : EF) (ρ : Env) : setS w i f fi ρ = runR (f (hidO w ρ)) ρ fun d => lsAt ρ i fun ds => runR (fi (hidO w ρ)) ρ fun x => setK ρ i ds d x := nr rfl
theorem cut_neg1 {α : Type} (xs : List α) : cutD xs none (some (-1)) = xs.take (xs.length - 1) := by
  unfold cutD
  rw [HT.sIx_none]
  have e : HT.sIx xs.length xs.length (some (-1)) = xs.length - 1 := by
    show ((-1 : Int) + (xs.length : Int)).toNat = _
    omega
  rw [e]
  simp
theorem cut_snoc {α : Type} (xs : List α) (x : α) : cutD (xs ++ [x]) none (some (-1)) = xs := by
  rw [cut_neg1]
  simp
section
variable {tgf : TGF} {body : SF} {ks : List Nat}
/-- a loop whose state is told by how many turns are done -/
theorem for_seq {α : Type} (E : Nat → Env) (e : α → D) : ∀ (xs : List α) (k : Nat) {ds : List D} {ρ : Env}, ds = xs.map e → ρ = E k → (∀ i x, xs[i]? = some x → turnL tgf body ks (e x) (E (k + i)) = .nx (E (k + i + 1))) → forL tgf body ks ds ρ = .nx (E (k + xs.length))
  | [], k, ds, ρ, hd, hρ, _ => by rw [hd, hρ]; rfl
  | x :: xs, k, ds, ρ, hd, hρ, h => by
    have h0 : turnL tgf body ks (e x) (E k) = .nx (E (k + 1)) := h 0 x rfl
    rw [hd, hρ, List.map_cons, forL_nx h0, for_seq E e xs (k + 1) rfl rfl fun i y hy => ?_]
    · rw [List.length_cons, show k + (xs.length + 1) = k + 1 + xs.length by omega]
    · have := h (i + 1) y (by simpa using hy)
      rw [show k + (i + 1) = k + 1 + i by omega] at this
      exact this
theorem for_rng (E : Nat → Env) (n : Nat) {ds : List D} {ρ : Env} (hd : ds = (List.range n).map fun i => .int (i : Nat)) (hρ : ρ = E 0) (h : ∀ i, i < n → turnL tgf body ks (.int (i : Nat)) (E i) = .nx (E (i + 1))) : forL tgf body ks ds ρ = .nx (E n) := by
  have := for_seq (tgf := tgf) (body := body) (ks := ks) E (fun i : Nat => PyData.int (i : Nat)) (List.range n) 0 hd hρ fun i x hx => by
    have hi : i < n := by simpa using (List.getElem?_eq_some_iff.mp hx).1
    rw [List.getElem?_range hi] at hx
    cases hx
    rw [Nat.zero_add]
    exact h i hi
  rw [Nat.zero_add, List.length_range] at this
  exact this
theorem rng_snoc {α : Type} (n : Nat) (f : Nat → α) : (List.range (n + 1)).map f = (List.range n).map f ++ [f n] := by rw [List.range_succ, List.map_append]; rfl
end
@[simp] theorem lenSetE_ap (f : EF) (ρ : Env) : lenSetE f ρ = (f ρ).bind fun d => R.of (lenSetD d) := nr rfl
@[simp] theorem dspE_ap (f1 g1 f2 g2 fk fz : EF) (ρ : Env) : dspE f1 g1 f2 g2 fk fz ρ = (f1 ρ).bind fun k1 => (g1 ρ).bind fun v1 => (f2 ρ).bind fun k2 => (g2 ρ).bind fun v2 => (R.of (keys2 k1 k2)).bind fun q => (fk ρ).bind fun k => (fz ρ).bind fun z => R.of (dspD q v1 v2 k z) := nr rfl
@[simp] theorem keys2_ii (a b c d : Int) : keys2 (.tuple [.int a, .int b]) (.tuple [.int c, .int d]) = some ((a, b), (c, d)) := nr rfl
@[simp] theorem dspD_ii (q : (Int × Int) × (Int × Int)) (v1 v2 z : D) (a b : Int) : dspD q v1 v2 (.tuple [.int a, .int b]) z = some (if (a, b) = q.2 then v2 else if (a, b) = q.1 then v1 else z) := nr rfl
@[simp] theorem mixS_ap (w : List Sh) (js : List Nat) (f : MF) (ρ : Env) : mixS w js f ρ = runR (f (hidA w ρ)) ρ fun ms => if ms.length ≤ 1000000 then .nx (setMv ρ js ms) else .bad := nr rfl
@[simp] theorem nilM_ap (ρ : Env) : nilM ρ = .ok [] := nr rfl
@[simp] theorem consMd_ap (a : EF) (r : MF) (ρ : Env) : consMd a r ρ = (a ρ).bind fun x => (r ρ).bind fun ms => .ok (.d x :: ms) := nr rfl
@[simp] theorem consMn_ap (a : AF) (r : MF) (ρ : Env) : consMn a r ρ = (a ρ).bind fun x => (r ρ).bind fun ms => .ok (.n x :: ms) := nr rfl
@[simp] theorem setMv_nil (ρ : Env) : setMv ρ [] [] = ρ := nr rfl
@[simp] theorem setMv_d (ρ : Env) (j : Nat) (js : List Nat) (x : D) (ms : List MV) : setMv ρ (j :: js) (.d x :: ms) = setMv (ρ.set j (some x)) js ms := nr rfl
@[simp] theorem setMv_n (ρ : Env) (j : Nat) (js : List Nat) (xs : List D) (ms : List MV) : setMv ρ (j :: js) (.n xs :: ms) = setMv (ρ.set j (some (.list xs))) js ms := nr rfl
@[simp] theorem popApp_ap (w : List Sh) (i j : Nat) (fe : EF) (ρ : Env) : popApp w i j fe ρ = lsAt ρ i fun ds => lsAt ρ j fun es => runR (fe (hidO w ρ)) ρ fun d => popK ρ i j ds es d := nr rfl
theorem popK_n (ρ : Env) (i j : Nat) (ds es : List D) (k : Nat) (h : k < es.length) (h2 : k < 1000000) (h3 : ds.length < 1000000) : popK ρ i j ds es (.int (k : Nat)) = .nx ((ρ.set j (some (.list (es.eraseIdx k)))).set i (some (.list (ds ++ [es[k]])))) := by
  unfold popK
  show (if 0 ≤ (k : Int) ∧ (k : Int) < (es.length : Int) ∧ (k : Int) < 1000000 then popO ρ i j ds es (k : Int).toNat es[(k : Int).toNat]? else .bad) = _
  rw [if_pos (by omega), Int.toNat_natCast, List.getElem?_eq_getElem h]
  unfold popO
  simp only [h3, if_true]
@[simp] theorem whileS_ap (w : List Sh) (n : Nat) (t : TF) (body : SF) (ks : List Nat) (ρ : Env) : whileS w n t body ks ρ = whileL w t body ks n (killE ρ ks) := nr rfl
/-- a while whose state is told by how many turns are done -/
theorem while_n {w : List Sh} {t : TF} {body : SF} {ks : List Nat} (E : Nat → Env) (m : Nat) : ∀ (n k : Nat) {ρ : Env}, ρ = E k → k ≤ m → m < n + k → (∀ i, i < m → t (hidO w (E i)) = .ok true ∧ ∃ ρ', body (E i) = .nx ρ' ∧ killE ρ' ks = E (i + 1)) → t (hidO w (E m)) = .ok false → whileL w t body ks n ρ = .nx (E m)
  | 0, k, ρ, _, h1, h2, _, _ => by omega
  | n + 1, k, ρ, he, h1, h2, h, h0 => by
    subst he
    by_cases hk : k = m
    · subst hk
      unfold whileL
      rw [h0]
      rfl
    · obtain ⟨ht, ρ', hb, hk2⟩ := h k (by omega)
      unfold whileL
      rw [ht]
      simp only [runR, if_true, hb]
      rw [hk2]
      exact while_n E m n (k + 1) rfl (by omega) (by omega) h h0
@[simp] theorem newB_ap (w : List Sh) (i : Nat) (f : AF) (ρ : Env) : newB w i f ρ = runR (f (hidO w ρ)) ρ fun ds => if noListA ds = true then .nx (ρ.set i (some (.list ds))) else .bad := nr rfl
def forOk (ρ : Env) (tgf : TGF) (body : SF) (ks : List Nat) : Option (List D) → Out
  | some xs => forL tgf body ks xs (killE ρ ks)
  | none => .bad
@[simp] theorem forOk_s (ρ : Env) (tgf : TGF) (body : SF) (ks : List Nat) (xs : List D) : forOk ρ tgf body ks (some xs) = forL tgf body ks xs (killE ρ ks) := nr rfl
@[simp] theorem forO_ap (w : List Sh) (fa : AF) (g : List D → R D) (tgf : TGF) (body : SF) (ks : List Nat) (ρ : Env) : forO w fa g tgf body ks ρ = runR (fa (hidO w ρ)) ρ fun ds => if noListA ds = true then runR (g ds) ρ fun d => forOk ρ tgf body ks (seqOf d) else .bad := nr rfl
end DL

set_option maxHeartbeats 1000000
/-! PL4: an object that holds a counter, evaluated. -/
namespace DL
open PySem PySem.Spec L2
section
variable {cn : Str} {c L W : D}
theorem objOf_men : objOf (menD cn c L W) = some (cn, ([("counter", c), ("laid", L), ("weights", W)] : List (Str × D))) := objOf_obj _ _
@[simp] theorem fldO_counter : fldO [cn] "counter" (objOf (menD cn c L W)) = .ok c := by
  rw [objOf_men]
  simp [fldO, List.lookup_cons]
@[simp] theorem fldO_laid : fldO [cn] "laid" (objOf (menD cn c L W)) = .ok L := by
  rw [objOf_men]
  simp [fldO, List.lookup_cons, ne_s (show decide (("laid" : Str) = "counter") = false by decide +kernel)]
@[simp] theorem fldO_weights : fldO [cn] "weights" (objOf (menD cn c L W)) = .ok W := by
  rw [objOf_men]
  simp [fldO, List.lookup_cons, ne_s (show decide (("weights" : Str) = "counter") = false by decide +kernel), ne_s (show decide (("weights" : Str) = "laid") = false by decide +kernel)]
theorem methO_men {m : Str} (h1 : decide (m = "counter") = false) (h2 : decide (m = "laid") = false) (h3 : decide (m = "weights") = false) (h5 : decide (m = "known") = false) : methO cn m (objOf (menD cn c L W)) = true := by
  rw [objOf_men]
  simp [methO, List.lookup_cons, ne_s h1, ne_s h2, ne_s h3, of_decide_eq_false h5]
@[simp] theorem methO_best : methO cn "best" (objOf (menD cn c L W)) = true := methO_men (by decide +kernel) (by decide +kernel) (by decide +kernel) (by decide +kernel)
@[simp] theorem methO_reckoned : methO cn "reckoned" (objOf (menD cn c L W)) = true := methO_men (by decide +kernel) (by decide +kernel) (by decide +kernel) (by decide +kernel)
@[simp] theorem methO_way : methO cn "way" (objOf (menD cn c L W)) = true := methO_men (by decide +kernel) (by decide +kernel) (by decide +kernel) (by decide +kernel)
@[simp] theorem methO_cost_at : methO cn "cost_at" (objOf (menD cn c L W)) = true := methO_men (by decide +kernel) (by decide +kernel) (by decide +kernel) (by decide +kernel)
@[simp] theorem clsIs_men : clsIs cn (menD cn c L W) = true := by
  unfold clsIs
  rw [objOf_men]
  simp
theorem lenM_men : lenM "counter" "places" (menD cn c L W) = lenP "places" c := by
  unfold lenM
  rw [objOf_men]
  simp [List.lookup_cons]
end
@[simp] theorem mkmG_ap (m : Str) (ns : List Str) (new : List D → R D) (fa fb : AF) (gm : List D → R D) (ρ : Env) : mkmG m ns new fa fb gm ρ = if plainE ρ = true then ((fa ρ).noErr.bind fun ds => (new ds).noErr).bind fun d => if m ≠ ("known" : Str) ∧ m ∉ ns then (fb ρ).noErr.bind fun es => gm (d :: es) else .bad else .bad := nr rfl
@[simp] theorem newM_ap (cn cn2 : Str) (fa : AF) (gI : D → R (D × D)) (T L W : D) : newM cn cn2 fa gI [T, L, W] = (fa [none, some T, some L, some W]).noErr.bind fun ds => (newO cn2 gI ds).bind fun c => .ok (menD cn c L W) := nr rfl
theorem pairs_map (ps : List (Int × Int)) : pairsOf' (ps.map pairD) = some ps := by
  induction ps with
  | nil => rfl
  | cons p ps ih =>
    rw [List.map_cons]
    show (pairsOf' (ps.map pairD)).map _ = _
    rw [ih]
    rfl
@[simp] theorem minL_c (p : Int × Int) (ps : List (Int × Int)) : minL [.list ((p :: ps).map pairD)] = some (pairD (minI p ps)) := by
  have h : pairsOf' ((p :: ps).map pairD) = some (p :: ps) := pairs_map _
  unfold minL
  simp only [h]
end DL

set_option maxHeartbeats 1000000
/-! PL5: min of a list of ints, evaluated. -/
namespace DL
open PySem PySem.Spec L2
theorem minLD_map {α : Type} (l : List α) (h : α → Int) (hl : l ≠ []) : ∃ m, minLD [.list (l.map fun x => .int (h x))] = some (.int m) ∧ (∃ x ∈ l, h x = m) ∧ ∀ x ∈ l, m ≤ h x := by
  cases l with
  | nil => exact absurd rfl hl
  | cons a l =>
    obtain ⟨h1, h2, h3⟩ := foldl_min_le (l.map h) (h a)
    refine ⟨(l.map h).foldl min (h a), ?_, ?_, ?_⟩
    · unfold minLD
      simp only [intsOf_mapf]
      rfl
    · rcases h3 with h3 | h3
      · exact ⟨a, List.mem_cons_self, h3.symm⟩
      · obtain ⟨x, hx, e⟩ := List.mem_map.mp h3
        exact ⟨x, List.mem_cons_of_mem _ hx, e⟩
    · intro x hx
      rcases List.mem_cons.mp hx with rfl | hx
      · exact h1
      · exact h2 _ (List.mem_map.mpr ⟨x, hx, rfl⟩)
@[simp] theorem bkS_ap (ρ : Env) : bkS ρ = .bk ρ := nr rfl
@[simp] theorem th_bk (ρ : Env) (g : SF) : (Out.bk ρ).then g = .bk ρ := nr rfl
@[simp] theorem kilO_bk (ks : List Nat) (ρ : Env) : kilO ks (.bk ρ) = .bk ρ := nr rfl
theorem forL_bk {tgf : TGF} {body : SF} {ks : List Nat} {d : D} {ds : List D} {ρ ρ' : Env} (h : turnL tgf body ks d ρ = .bk ρ') : forL tgf body ks (d :: ds) ρ = .nx ρ' := by
  rw [forL]
  unfold turnL turO at h
  cases e : tgf d with
  | none => rw [e] at h; cases h
  | some as =>
    rw [e] at h
    simp only at h ⊢
    cases e2 : body (setE ρ as) <;> rw [e2] at h <;> simp [kilO] at h ⊢
    rw [h]
/-! tuples whose object is known -/
@[simp] theorem ordOf_o (ds : List D) : ordOf (ordD ds) = some ds := ordOf_ord ds
@[simp] theorem ordE_ap (i : Nat) (ρ : Env) : ordE i ρ = (vqE i ρ).bind fun d => R.of ((ordOf d).map .tuple) := nr rfl
def ordIxO (fe : R D) : Option (List D) → R D
  | some ds => fe.bind fun b => R.of (ordIxD ds b)
  | none => .bad
@[simp] theorem ordIxO_s (fe : R D) (ds : List D) : ordIxO fe (some ds) = fe.bind fun b => R.of (ordIxD ds b) := nr rfl
@[simp] theorem ordIxE_ap (i : Nat) (fe : EF) (ρ : Env) : ordIxE i fe ρ = (vqE i ρ).bind fun d => ordIxO (fe ρ) (ordOf d) := by
  unfold ordIxE bE
  congr 1
  funext d
  show (match ordOf d with
    | some ds => bE fe fun b => oE (ordIxD ds b)
    | none => fun _ => R.bad) ρ = _
  cases ordOf d <;> rfl
theorem ordIxD_i (ns : List Int) (k : Int) (h : k ∈ ns) : ordIxD (ns.map .int) (.int k) = some (.int (ns.idxOf k : Nat)) := by
  have e := intsOf_mapf id ns
  simp only [id, List.map_id'] at e
  have e : intsOf (ns.map .int) = some ns := by simpa using intsOf_mapf id ns
  unfold ordIxD
  rw [e]
  simp only [if_pos h]
@[simp] theorem ordB_ap (w : List Sh) (i : Nat) (f : AF) (ρ : Env) : ordB w i f ρ = runR (f (hidO w ρ)) ρ fun ds => if noListA ds = true then .nx (ρ.set i (some (ordD ds))) else .bad := nr rfl
@[simp] theorem ordN1_l (xs : List D) : ordN1 [.list xs] = some xs := nr rfl
theorem sortTD_i (ns : List Int) : sortTD [.tuple (ns.map .int)] = some (.list ((sortN ns).map .int)) := by
  have e : intsOf (ns.map .int) = some ns := by simpa using intsOf_mapf id ns
  unfold sortTD
  simp only [e, Option.map_some]
end DL

set_option maxHeartbeats 1000000
/-! PL6: dicts whose keys are tuples of ints, evaluated. -/
namespace DL
open PySem PySem.Spec L2
@[simp] theorem newT_ap (i : Nat) (ρ : Env) : newT i ρ = .nx (ρ.set i (some (tupDic []))) := nr rfl
@[simp] theorem tupD_d (ρ : Env) (kvs : TKV) (k : TKV → Out) : tupD ρ (tupDic kvs) k = k kvs := by unfold tupD; rw [tupOf_dic]
@[simp] theorem tupOf_d (kvs : TKV) : tupOf (tupDic kvs) = some kvs := tupOf_dic kvs
theorem keyI_t (ns : List Int) : keyI (.tuple (ns.map .int)) = some ns := intsOf_ints ns
@[simp] theorem putTS_ap (w : List Sh) (i : Nat) (fk fe : EF) (ρ : Env) : putTS w i fk fe ρ = atSlot ρ i fun d => tupD ρ d fun kvs => runR (fe (hidA w ρ)) ρ fun v => runR (fk (hidA w ρ)) ρ fun k => putTO ρ i kvs v k := nr rfl
@[simp] theorem talTS_ap (w : List Sh) (i j : Nat) (fe : EF) (ρ : Env) : talTS w i j fe ρ = atSlot ρ i fun d => tupD ρ d fun kvs => runR (vE j (hidA w ρ)) ρ fun k => talTK k fun ns => runR (fe (hidA w ρ)) ρ fun m => talTO ρ i kvs ns m := nr rfl
def getTO (fk fz : R D) : Option TKV → R D
  | some kvs => fk.bind fun k => fz.bind fun z => R.of (getTD kvs k z)
  | none => .bad
@[simp] theorem getTO_s (fk fz : R D) (kvs : TKV) : getTO fk fz (some kvs) = fk.bind fun k => fz.bind fun z => R.of (getTD kvs k z) := nr rfl
@[simp] theorem getTE_ap (i : Nat) (fk fz : EF) (ρ : Env) : getTE i fk fz ρ = (vqE i ρ).bind fun d => getTO (fk ρ) (fz ρ) (tupOf d) := by
  unfold getTE bE
  congr 1
  funext d
  show (match tupOf d with
    | some kvs => bE fk fun k => bE fz fun z => oE (getTD kvs k z)
    | none => fun _ => R.bad) ρ = _
  cases tupOf d <;> rfl
@[simp] theorem lenTE_ap (i : Nat) (ρ : Env) : lenTE i ρ = (vqE i ρ).bind fun d => R.of ((tupOf d).map fun kvs => .int (kvs.length : Nat)) := nr rfl
theorem putT_len (kvs : TKV) (k : List Int) (v : D) : (putT kvs k v).length ≤ kvs.length + 1 := by
  unfold putT
  split <;> simp
theorem getT_put (kvs : TKV) (k : List Int) (v : D) (j : List Int) : getT (putT kvs k v) j = if j = k then some v else getT kvs j := by
  unfold putT
  by_cases ha : (kvs.any fun p => decide (p.1 = k)) = true
  · rw [if_pos ha]
    induction kvs with
    | nil => cases ha
    | cons p r ih =>
      unfold getT at ih ⊢
      by_cases hp : p.1 = k
      · by_cases hj : j = k
        · rw [if_pos hj, List.map_cons, if_pos hp, List.find?_cons_of_pos (by simp [hp, hj])]
          rfl
        · rw [if_neg hj, List.map_cons, if_pos hp, List.find?_cons_of_neg (by simp [hp, Ne.symm hj]), List.find?_cons_of_neg (by simp [hp, Ne.symm hj])]
          clear ih ha
          induction r with
          | nil => rfl
          | cons q r ih2 =>
            rw [List.map_cons]
            by_cases hq : q.1 = k
            · rw [if_pos hq, List.find?_cons_of_neg (by simp [hq, Ne.symm hj]), List.find?_cons_of_neg (by simp [hq, Ne.symm hj])]
              exact ih2
            · rw [if_neg hq]
              by_cases hqj : q.1 = j
              · rw [List.find?_cons_of_pos (by simpa using hqj), List.find?_cons_of_pos (by simpa using hqj)]
              · rw [List.find?_cons_of_neg (by simpa using hqj), List.find?_cons_of_neg (by simpa using hqj)]
                exact ih2
      · have ha2 : (r.any fun p => decide (p.1 = k)) = true := by simpa [hp] using ha
        rw [List.map_cons, if_neg hp]
        by_cases hpj : p.1 = j
        · rw [List.find?_cons_of_pos (by simpa using hpj), List.find?_cons_of_pos (by simpa using hpj), if_neg (fun z => hp (hpj.trans z))]
        · rw [List.find?_cons_of_neg (by simpa using hpj), List.find?_cons_of_neg (by simpa using hpj)]
          exact ih ha2
  · rw [if_neg ha]
    unfold getT
    rw [List.find?_append]
    by_cases hj : j = k
    · have hn : kvs.find? (fun p => decide (p.1 = j)) = none := by
        rw [List.find?_eq_none]
        intro x hx z
        exact ha (List.any_eq_true.mpr ⟨x, hx, by rw [← hj]; exact z⟩)
      rw [if_pos hj, hn]
      simp [hj]
    · rw [if_neg hj]
      cases e : kvs.find? (fun p => decide (p.1 = j)) with
      | some q => rfl
      | none => simp [Ne.symm hj]
end DL

set_option maxHeartbeats 1000000
/-! PL7: zip of three, read. -/
namespace DL
theorem zip3D_t (xs ys zs : List D) : zip3D [.tuple xs, .tuple ys, .tuple zs] = some (zip3L xs ys zs) := rfl
theorem zip3_range (n : Nat) (f g h : Nat → D) : zip3L ((List.range n).map f) ((List.range n).map g) ((List.range n).map h) = (List.range n).map fun i => .tuple [f i, g i, h i] := by
  unfold zip3L
  apply List.ext_getElem
  · simp
  · intro i h1 h2
    simp
end DL

set_option maxHeartbeats 4000000
namespace LW
open PySem PySem.Spec L2 DL
open PyProof.Rows hiding St
def top (i : Nat) : Stmt := PySem.Challenge.pw_floorfits_k30_whole_mended.main.body.getD i (.Pass ⟨0, 0, 0, 0⟩)
abbrev s_l_cell : Stmt := top 24
abbrev s_l_pick : Stmt := top 25
abbrev s_l_tiles : Stmt := top 26
abbrev s_l_sides : Stmt := top 28
abbrev s_l_floor : Stmt := top 27
abbrev s_l_word : Stmt := top 31
abbrev s_Counter_fitting : Stmt := inClass (top 15) 1
abbrev s_Counter_moved_on : Stmt := inClass (top 15) 2
abbrev s_places_of : Stmt := top 11
abbrev s_look_place : Stmt := top 12
abbrev s_tile_at : Stmt := top 13
abbrev s_Mender_cost_at : Stmt := inClass (top 20) 1
abbrev s_Mender_reckoned : Stmt := inClass (top 20) 3
abbrev s_Mender_best : Stmt := inClass (top 20) 2
abbrev s_size_of : Stmt := top 10
abbrev s_Counter___init__ : Stmt := inClass (top 15) 0
abbrev s_empty : Stmt := top 9
abbrev s_Mender___init__ : Stmt := inClass (top 20) 0
abbrev s_look_weights : Stmt := top 18
abbrev s_least_cost : Stmt := top 21
abbrev s_Mender_way : Stmt := inClass (top 20) 4
abbrev s_as_floor : Stmt := top 16
abbrev s_mended : Stmt := top 22
abbrev s_cost_of : Stmt := top 19
abbrev s_l_do : Stmt := top 32
abbrev s_l_as_floor : Stmt := top 30
abbrev s_l_cost : Stmt := top 33
abbrev s_l_fills : Stmt := top 29
abbrev s_law : Stmt := top 34
structure Txt (P : Program) (w : World) (K : PySem.W.Frag) (mg : Str → Option Value) where
  k_Counter : KlI K mg "Counter" ["tiles", "goal", "places", "columns", "known"]
  k_Mender : KlI K mg "Mender" ["counter", "laid", "weights", "known"]
  l_cell : FnI K mg "_law_cell" s_l_cell ["_law_script", "_law_k"]
  l_pick : FnI K mg "_law_pick" s_l_pick ["_law_script", "_law_k", "_law_many"]
  l_tiles : FnI K mg "_law_tiles" s_l_tiles ["_law_script", "_law_at", "_law_most"]
  l_sides : FnI K mg "_law_sides" s_l_sides ["_law_script", "_law_at"]
  l_floor : FnI K mg "_law_floor" s_l_floor ["_law_script", "_law_at", "_law_tiles_here", "_law_rows", "_law_columns", "_law_many"]
  l_word : FnI K mg "_law_word" s_l_word ["_law_kept"]
  Counter_fitting : MeI K k_Counter.C "fitting" "Counter.fitting" s_Counter_fitting ["self", "at", "last"]
  Counter_moved_on : MeI K k_Counter.C "moved_on" "Counter.moved_on" s_Counter_moved_on ["self", "last", "number"]
  places_of : FnI K mg "places_of" s_places_of ["floor"]
  look_place : FnI K mg "look_place" s_look_place ["floor", "place"]
  tile_at : FnI K mg "tile_at" s_tile_at ["floor", "place"]
  Mender_cost_at : MeI K k_Mender.C "cost_at" "Mender.cost_at" s_Mender_cost_at ["self", "at", "number"]
  Mender_reckoned : MeI K k_Mender.C "reckoned" "Mender.reckoned" s_Mender_reckoned ["self", "at", "last"]
  Mender_best : MeI K k_Mender.C "best" "Mender.best" s_Mender_best ["self", "at", "last"]
  size_of : FnI K mg "size_of" s_size_of ["floor"]
  Counter___init__ : MeI K k_Counter.C "__init__" "Counter.__init__" s_Counter___init__ ["self", "tiles", "floor"]
  empty : FnI K mg "empty" s_empty ["rows", "columns"]
  Mender___init__ : MeI K k_Mender.C "__init__" "Mender.__init__" s_Mender___init__ ["self", "tiles", "floor", "weights"]
  look_weights : FnI K mg "look_weights" s_look_weights ["floor", "weights"]
  least_cost : FnI K mg "least_cost" s_least_cost ["tiles", "floor", "weights"]
  Mender_way : MeI K k_Mender.C "way" "Mender.way" s_Mender_way ["self"]
  as_floor : FnI K mg "as_floor" s_as_floor ["numbers", "columns"]
  mended : FnI K mg "mended" s_mended ["tiles", "floor", "weights"]
  cost_of : FnI K mg "cost_of" s_cost_of ["floor", "weights", "whole"]
  l_do : FnI K mg "_law_do" s_l_do ["_law_what", "_law_tiles_here", "_law_floor_here", "_law_weights", "_law_whole"]
  l_as_floor : FnI K mg "_law_as_floor" s_l_as_floor ["_law_numbers", "_law_columns"]
  l_cost : FnI K mg "_law_cost" s_l_cost ["_law_floor_here", "_law_weights", "_law_whole"]
  l_fills : FnI K mg "_law_fills" s_l_fills ["_law_tiles_here", "_law_floor_here"]
  law : FnI K mg "law" s_law ["_law_script"]
  b_ValueError : mg "ValueError" = none
  b_enumerate : mg "enumerate" = none
  b_isinstance : mg "isinstance" = none
  b_len : mg "len" = none
  b_list : mg "list" = none
  b_min : mg "min" = none
  b_range : mg "range" = none
  b_sum : mg "sum" = none
  b_tuple : mg "tuple" = none
  b_zip : mg "zip" = none
  x_NoFill : ExI K mg "NoFill"
  x_NoPlace : ExI K mg "NoPlace"
  x_Unlike : ExI K mg "Unlike"
  q_NoFill : CqI K mg "NoFill"
  q_NoPlace : CqI K mg "NoPlace"
  q_NoText : CqI K mg "NoText"
  q_NoTile : CqI K mg "NoTile"
  q_Nothing : CqI K mg "Nothing"
  q_Unlike : CqI K mg "Unlike"
  p_FloorError : CbI K mg "FloorError"
  w_NoFill : XcI K mg "NoFill"
  w_NoPlace : XcI K mg "NoPlace"
  w_Unlike : XcI K mg "Unlike"
  s_NoFill_FloorError : PySem.W.subIn K (.ref w_NoFill.C) (.ref p_FloorError.C) = some true
  s_NoFill_NoFill : PySem.W.subIn K (.ref w_NoFill.C) (.ref q_NoFill.C) = some true
  s_NoFill_NoPlace : PySem.W.subIn K (.ref w_NoFill.C) (.ref q_NoPlace.C) = some false
  s_NoFill_NoText : PySem.W.subIn K (.ref w_NoFill.C) (.ref q_NoText.C) = some false
  s_NoFill_NoTile : PySem.W.subIn K (.ref w_NoFill.C) (.ref q_NoTile.C) = some false
  s_NoFill_Nothing : PySem.W.subIn K (.ref w_NoFill.C) (.ref q_Nothing.C) = some false
  s_NoFill_Unlike : PySem.W.subIn K (.ref w_NoFill.C) (.ref q_Unlike.C) = some false
  s_NoPlace_FloorError : PySem.W.subIn K (.ref w_NoPlace.C) (.ref p_FloorError.C) = some true
  s_NoPlace_NoFill : PySem.W.subIn K (.ref w_NoPlace.C) (.ref q_NoFill.C) = some false
  s_NoPlace_NoPlace : PySem.W.subIn K (.ref w_NoPlace.C) (.ref q_NoPlace.C) = some true
  s_NoPlace_NoText : PySem.W.subIn K (.ref w_NoPlace.C) (.ref q_NoText.C) = some false
  s_NoPlace_NoTile : PySem.W.subIn K (.ref w_NoPlace.C) (.ref q_NoTile.C) = some false
  s_NoPlace_Nothing : PySem.W.subIn K (.ref w_NoPlace.C) (.ref q_Nothing.C) = some false
  s_NoPlace_Unlike : PySem.W.subIn K (.ref w_NoPlace.C) (.ref q_Unlike.C) = some false
  s_Unlike_FloorError : PySem.W.subIn K (.ref w_Unlike.C) (.ref p_FloorError.C) = some true
  s_Unlike_NoFill : PySem.W.subIn K (.ref w_Unlike.C) (.ref q_NoFill.C) = some false
  s_Unlike_NoPlace : PySem.W.subIn K (.ref w_Unlike.C) (.ref q_NoPlace.C) = some false
  s_Unlike_NoText : PySem.W.subIn K (.ref w_Unlike.C) (.ref q_NoText.C) = some false
  s_Unlike_NoTile : PySem.W.subIn K (.ref w_Unlike.C) (.ref q_NoTile.C) = some false
  s_Unlike_Nothing : PySem.W.subIn K (.ref w_Unlike.C) (.ref q_Nothing.C) = some false
  s_Unlike_Unlike : PySem.W.subIn K (.ref w_Unlike.C) (.ref q_Unlike.C) = some true
  v_NoFill : PySem.W.subIn K (.ref w_NoFill.C) (.type "ValueError") = some true
  v_NoPlace : PySem.W.subIn K (.ref w_NoPlace.C) (.type "ValueError") = some true
  v_Unlike : PySem.W.subIn K (.ref w_Unlike.C) (.type "ValueError") = some true

def b_l_cell : SF :=
 seqS (ifS [.fz, .fz] (testE (op2E (ltD) (vE 1) (callE lenD (consA (vE 0) (nilA)))))
  (retS [.fz, .fz] (op2E ixD (vE 0) (vE 1)))
  (nxS))
 (seqS (ifS [.fz, .fz] (testE (op2E (eqD) (vE 0) (lstE (smallA (nilA)))))
  (retS [.fz, .fz] (cE (.int 0)))
  (nxS))
 (retS [.fz, .fz] (op2E addD (op2E mulD (op2E ixD (vE 0) (op2E modD (vE 1) (callE lenD (consA (vE 0) (nilA))))) (cE (.int 31))) (vE 1))))
def m_l_cell : List D → R D := runD 2 b_l_cell

def b_l_pick : SF :=
 seqS (asgS [.fz, .fz, .fz, .fz] 3 (op2E modD (op2E mulD (op2E addD (ownE m_l_cell (consA (vE 0) (consA (vE 1) (nilA)))) (op2E mulD (cE (.int 6151)) (op2E addD (vE 1) (cE (.int 1))))) (cE (.int 40692))) (cE (.int 2147483399))))
 (retS [.fz, .fz, .fz, .fz] (op2E modD (op2E modD (op2E addD (op2E mulD (vE 3) (vE 3)) (op2E fdivD (vE 3) (cE (.int 31)))) (cE (.int 2147483629))) (vE 2)))
def m_l_pick : List D → R D := runD 4 b_l_pick

def b_l_tiles : SF :=
 seqS (asgS [.fz, .fz, .fz, .fz, .fz, .fz, .fz, .fz] 3 (op2E addD (cE (.int 2)) (ownE m_l_pick (consA (vE 0) (consA (vE 1) (consA (cE (.int 2)) (nilA)))))))
 (seqS (newS [.fz, .fz, .fz, .fz, .fz, .fz, .fz, .fz] 4 (smallA (nilA)))
 (seqS (forS [.fz, .fz, .fz, .fz, .ls, .fz, .fz, .fz] (rangeI range1D (consA (op2E addD (cE (.int 1)) (ownE m_l_pick (consA (vE 0) (consA (op2E addD (vE 1) (cE (.int 1))) (consA (vE 2) (nilA)))))) (nilA))) (tgN 5) (
  seqS (asgS [.fz, .fz, .fz, .fz, .ls, .fz, .fz, .fz] 6 (callE tupleD (consA (lstE (compE (rangeI range1D (consA (cE (.int 4)) (nilA))) (tgN 7) (cE true) (ownE m_l_pick (consA (vE 0) (consA (op2E addD (op2E addD (op2E addD (vE 1) (op2E mulD (cE (.int 4)) (vE 5))) (cE (.int 2))) (vE 7)) (consA (vE 3) (nilA))))) [7])) (nilA))))
 (seqS (ifS [.fz, .fz, .fz, .fz, .ls, .fz, .fz, .fz] (testE (op2E (eqD) (ownE m_l_pick (consA (vE 0) (consA (op2E addD (op2E addD (vE 1) (cE (.int 60))) (vE 5)) (consA (cE (.int 3)) (nilA))))) (cE (.int 0))))
  (seqS (asgS [.fz, .fz, .fz, .fz, .ls, .fz, .fz, .fz] 6 (tupE (consA (op2E ixD (vE 6) (cE (.int 0))) (consA (op2E ixD (vE 6) (cE (.int 1))) (consA (op2E ixD (vE 6) (cE (.int 0))) (consA (op2E ixD (vE 6) (cE (.int 1))) (nilA)))))))
 (nxS))
  (nxS))
 (seqS (ifS [.fz, .fz, .fz, .fz, .ls, .fz, .fz, .fz] (testE (op2E (notInE) (vE 6) (vE 4)))
  (seqS (appS [.fz, .fz, .fz, .fz, .ls, .fz, .fz, .fz] 4 (vE 6))
 (nxS))
  (nxS))
 (nxS)))) [5, 6])
 (retS [.fz, .fz, .fz, .fz, .fz, .fz, .fz, .fz] (callE tupleD (consA (vE 4) (nilA))))))
def m_l_tiles : List D → R D := runD 8 b_l_tiles

def b_l_sides : SF :=
 retS [.fz, .fz] (op2E ixD (lstE (smallA (consA (tupE (consA (cE (.int 1)) (consA (cE (.int 1)) (nilA)))) (consA (tupE (consA (cE (.int 1)) (consA (cE (.int 2)) (nilA)))) (consA (tupE (consA (cE (.int 2)) (consA (cE (.int 1)) (nilA)))) (consA (tupE (consA (cE (.int 2)) (consA (cE (.int 2)) (nilA)))) (consA (tupE (consA (cE (.int 2)) (consA (cE (.int 2)) (nilA)))) (consA (tupE (consA (cE (.int 1)) (consA (cE (.int 4)) (nilA)))) (consA (tupE (consA (cE (.int 2)) (consA (cE (.int 3)) (nilA)))) (consA (tupE (consA (cE (.int 3)) (consA (cE (.int 2)) (nilA)))) (consA (tupE (consA (cE (.int 3)) (consA (cE (.int 1)) (nilA)))) (consA (tupE (consA (cE (.int 2)) (consA (cE (.int 3)) (nilA)))) (nilA))))))))))))) (ownE m_l_pick (consA (vE 0) (consA (vE 1) (consA (cE (.int 10)) (nilA))))))
def m_l_sides : List D → R D := runD 2 b_l_sides

def b_l_floor : SF :=
 seqS (newS [.fz, .fz, .fz, .fz, .fz, .fz, .fz, .fz, .fz, .fz, .fz] 6 (smallA (nilA)))
 (seqS (forS [.fz, .fz, .fz, .fz, .fz, .fz, .ls, .fz, .fz, .fz, .fz] (rangeI range1D (consA (vE 3) (nilA))) (tgN 7) (
  seqS (newS [.fz, .fz, .fz, .fz, .fz, .fz, .ls, .fz, .fz, .fz, .fz] 8 (smallA (nilA)))
 (seqS (forS [.fz, .fz, .fz, .fz, .fz, .fz, .ls, .fz, .ls, .fz, .fz] (rangeI range1D (consA (vE 4) (nilA))) (tgN 9) (
  seqS (asgS [.fz, .fz, .fz, .fz, .fz, .fz, .ls, .fz, .ls, .fz, .fz] 10 (ownE m_l_pick (consA (vE 0) (consA (op2E addD (op2E addD (vE 1) (op2E mulD (cE (.int 7)) (vE 7))) (vE 9)) (consA (op2E mulD (callE lenD (consA (vE 2) (nilA))) (vE 5)) (nilA))))))
 (seqS (appS [.fz, .fz, .fz, .fz, .fz, .fz, .ls, .fz, .ls, .fz, .fz] 8 (ifE (testE (op2E (ltD) (vE 10) (callE lenD (consA (vE 2) (nilA))))) (vE 10) (cE .none)))
 (nxS))) [9, 10])
 (seqS (appS [.fz, .fz, .fz, .fz, .fz, .fz, .ls, .fz, .fz, .fz, .fz] 6 (callE tupleD (consA (vE 8) (nilA))))
 (nxS)))) [7, 8, 9, 10])
 (retS [.fz, .fz, .fz, .fz, .fz, .fz, .fz, .fz, .fz, .fz, .fz] (callE tupleD (consA (vE 6) (nilA)))))
def m_l_floor : List D → R D := runD 11 b_l_floor

def b_l_word : SF :=
 seqS (newS [.fz, .fz] 1 (smallA (consA (exIsE [("NoFill", true), ("NoPlace", false), ("Unlike", false)] (vqE 0)) (consA (exIsE [("NoFill", false), ("NoPlace", true), ("Unlike", false)] (vqE 0)) (consA (exIsE [("NoFill", false), ("NoPlace", false), ("Unlike", false)] (vqE 0)) (consA (exIsE [("NoFill", false), ("NoPlace", false), ("Unlike", false)] (vqE 0)) (nilA)))))))
 (seqS (extS [.fz, .ls] 1 (smallA (consA (exIsE [("NoFill", false), ("NoPlace", false), ("Unlike", false)] (vqE 0)) (consA (exIsE [("NoFill", false), ("NoPlace", false), ("Unlike", true)] (vqE 0)) (nilA)))))
 (seqS (ifS [.fz, .ls] (orT (testE (op2E (neD) (lmE countD (vE 1) (cE (.bool true))) (cE (.int 1)))) (notT (testE (exIsE [("NoFill", true), ("NoPlace", true), ("Unlike", true)] (vqE 0)))))
  (retS [.fz, .ls] (cE (.str "wrong")))
  (nxS))
 (retS [.fz, .fz] (op2E ixD (lstE (smallA (consA (cE (.str "no fill")) (consA (cE (.str "no place")) (consA (cE (.str "no text")) (consA (cE (.str "no tile")) (consA (cE (.str "nothing")) (consA (cE (.str "unlike")) (nilA))))))))) (lmE indexD (vE 1) (cE (.bool true)))))))
def m_l_word : List D → R D := runD 2 b_l_word

def b_Counter_fitting : SF :=
 seqS (tupS [.fz, .fz, .fz, .fz, .fz, .fz, .fz, .fz, .fz, .fz] (op2E ixD (fldE ["Counter"] "places" (vqE 0)) (vE 1)) (tgT [3, 4]))
 (seqS (asgS [.fz, .fz, .fz, .fz, .fz, .fz, .fz, .fz, .fz, .fz] 5 (op2E ixD (op2E ixD (fldE ["Counter"] "goal" (vqE 0)) (vE 3)) (vE 4)))
 (seqS (newS [.fz, .fz, .fz, .fz, .fz, .fz, .fz, .fz, .fz, .fz] 6 (smallA (nilA)))
 (seqS (forS [.fz, .fz, .fz, .fz, .fz, .fz, .ls, .fz, .fz, .fz] (rangeI enumD (consA (fldE ["Counter"] "tiles" (vqE 0)) (nilA))) (tgT [7, 8]) (
  seqS (asgS [.fz, .fz, .fz, .fz, .fz, .fz, .ls, .fz, .fz, .fz] 9 (orE (op2E (isD) (vE 5) (cE .none)) (op2E (eqD) (vE 5) (vE 7))))
 (seqS (ifS [.fz, .fz, .fz, .fz, .fz, .fz, .ls, .fz, .fz, .fz] (andT (testE (op2E (gtD) (vE 4) (cE (.int 0)))) (testE (op2E (neD) (op2E ixD (op2E ixD (fldE ["Counter"] "tiles" (vqE 0)) (op2E ixD (vE 2) (op1E negD (cE (.int 1))))) (cE (.int 1))) (op2E ixD (vE 8) (cE (.int 3))))))
  (seqS (asgS [.fz, .fz, .fz, .fz, .fz, .fz, .ls, .fz, .fz, .fz] 9 (cE (.bool false)))
 (nxS))
  (nxS))
 (seqS (ifS [.fz, .fz, .fz, .fz, .fz, .fz, .ls, .fz, .fz, .fz] (andT (testE (op2E (gtD) (vE 3) (cE (.int 0)))) (testE (op2E (neD) (op2E ixD (op2E ixD (fldE ["Counter"] "tiles" (vqE 0)) (op2E ixD (vE 2) (cE (.int 0)))) (cE (.int 2))) (op2E ixD (vE 8) (cE (.int 0))))))
  (seqS (asgS [.fz, .fz, .fz, .fz, .fz, .fz, .ls, .fz, .fz, .fz] 9 (cE (.bool false)))
 (nxS))
  (nxS))
 (seqS (ifS [.fz, .fz, .fz, .fz, .fz, .fz, .ls, .fz, .fz, .fz] (testE (vE 9))
  (seqS (appS [.fz, .fz, .fz, .fz, .fz, .fz, .ls, .fz, .fz, .fz] 6 (vE 7))
 (nxS))
  (nxS))
 (nxS))))) [7, 8, 9])
 (retO 6))))
def m_Counter_fitting : List D → R D := runD 10 b_Counter_fitting

def b_Counter_moved_on : SF :=
 retS [.fz, .fz, .fz] (sliceE (op2E addD (vE 1) (tupE (consA (vE 2) (nilA)))) (partO (op2E subD (cE (.int 0)) (fldE ["Counter"] "columns" (vqE 0)))) (noO))
def m_Counter_moved_on : List D → R D := runD 3 b_Counter_moved_on

def b_places_of : SF :=
 seqS (newS [.fz, .fz, .fz, .fz] 1 (smallA (nilA)))
 (seqS (forS [.fz, .ls, .fz, .fz] (rangeI range1D (consA (callE lenD (consA (vE 0) (nilA))) (nilA))) (tgN 2) (
  seqS (extS [.fz, .ls, .fz, .fz] 1 (compE (rangeI range1D (consA (callE lenD (consA (op2E ixD (vE 0) (cE (.int 0))) (nilA))) (nilA))) (tgN 3) (cE true) (tupE (consA (vE 2) (consA (vE 3) (nilA)))) [3]))
 (nxS)) [2])
 (retO 1))
def m_places_of : List D → R D := runD 4 b_places_of

def b_look_place : SF :=
 seqS (ifS [.fz, .fz] (testE (op2E (notInE) (vE 1) (ownE m_places_of (consA (vE 0) (nilA)))))
  (raiseS "NoPlace")
  (nxS))
 (nxS)
def m_look_place : List D → R D := runD 2 b_look_place

def b_tile_at : SF :=
 seqS (dropS [.fz, .fz] (ownE m_look_place (consA (vE 0) (consA (vE 1) (nilA)))))
 (retS [.fz, .fz] (op2E ixD (op2E ixD (vE 0) (op2E ixD (vE 1) (cE (.int 0)))) (op2E ixD (vE 1) (cE (.int 1)))))
def m_tile_at : List D → R D := runD 2 b_tile_at

def b_Mender_cost_at : SF :=
 seqS (asgS [.fz, .fz, .fz, .fz] 3 (op2E ixD (fldE ["Counter"] "places" (fldQ ["Mender"] "counter" (vqE 0))) (vE 1)))
 (retS [.fz, .fz, .fz, .fz] (ifE (testE (op2E (inE) (ownE m_tile_at (consA (fldE ["Mender"] "laid" (vqE 0)) (consA (vE 3) (nilA)))) (tupE (consA (cE .none) (consA (vE 2) (nilA)))))) (cE (.int 0)) (ownE m_tile_at (consA (fldE ["Mender"] "weights" (vqE 0)) (consA (vE 3) (nilA))))))
def m_Mender_cost_at : List D → R D := runD 4 b_Mender_cost_at

def b_Mender_reckoned (rec : List D → R D) : SF :=
 seqS (newS [.fz, .fz, .fz, .fz, .fz, .fz, .fz, .fz, .fz] 3 (smallA (nilA)))
 (seqS (forS [.fz, .fz, .fz, .ls, .fz, .fz, .fz, .fz, .fz] (seqI (methE "Counter" "fitting" m_Counter_fitting (fldQ ["Mender"] "counter" (vqE 0)) (consA (vE 1) (consA (vE 2) (nilA))))) (tgN 4) (
  seqS (asgS [.fz, .fz, .fz, .ls, .fz, .fz, .fz, .fz, .fz] 5 (methE "Mender" "best" rec (vqE 0) (consA (op2E addD (vE 1) (cE (.int 1))) (consA (methE "Counter" "moved_on" m_Counter_moved_on (fldQ ["Mender"] "counter" (vqE 0)) (consA (vE 2) (consA (vE 4) (nilA)))) (nilA)))))
 (seqS (ifS [.fz, .fz, .fz, .ls, .fz, .fz, .fz, .fz, .fz] (testE (op2E (notIsD) (vE 5) (cE .none)))
  (seqS (appS [.fz, .fz, .fz, .ls, .fz, .fz, .fz, .fz, .fz] 3 (tupE (consA (op2E addD (op2E ixD (vE 5) (cE (.int 0))) (methE "Mender" "cost_at" m_Mender_cost_at (vqE 0) (consA (vE 1) (consA (vE 4) (nilA))))) (consA (op2E ixD (vE 5) (cE (.int 1))) (nilA)))))
 (nxS))
  (nxS))
 (nxS))) [4, 5])
 (seqS (ifS [.fz, .fz, .fz, .ls, .fz, .fz, .fz, .fz, .fz] (testE (op2E (eqD) (vE 3) (lstE (smallA (nilA)))))
  (retS [.fz, .fz, .fz, .ls, .fz, .fz, .fz, .fz, .fz] (cE .none))
  (nxS))
 (seqS (asgS [.fz, .fz, .fz, .fz, .fz, .fz, .fz, .fz, .fz] 6 (op2E ixD (callE minL (consA (vE 3) (nilA))) (cE (.int 0))))
 (retS [.fz, .fz, .fz, .fz, .fz, .fz, .fz, .fz, .fz] (tupE (consA (vE 6) (consA (callE sumD (consA (lstE (compE (seqI (vE 3)) (tgT [7, 8]) (testE (op2E (eqD) (vE 7) (vE 6))) (vE 8) [7, 8])) (nilA))) (nilA))))))))
def m_Mender_reckoned (rec : List D → R D) : List D → R D := runD 9 (b_Mender_reckoned rec)

def bE_Mender (rec : List D → R D) : EF := methE "Mender" "reckoned" (m_Mender_reckoned rec) (vqE 0) (consA (vE 1) (consA (vE 2) (nilA)))
def b_Mender_best (gw : D → D → R D) (j : Nat) : SF := seqS (ifS [.fz, .fz, .fz] (testE (op2E (eqD) (vE 1) (callE lenD (consA (fldE ["Counter"] "places" (fldQ ["Mender"] "counter" (vqE 0))) (nilA)))))
  (retS [.fz, .fz, .fz] (tupE (consA (cE (.int 0)) (consA (cE (.int 1)) (nilA)))))
  (nxS)) (memoS "Mender" gw (condM "counter" "places" j) 0)
def wF_Mender (gw : D → D → R D) (j : Nat) : List D → R D := runD 3 (b_Mender_best gw j)
def gwB_Mender (rec : List D → R D) (d0 kd : D) : R D := match kd with
  | .tuple [k1, k2] => outM (seqS nxS (retS [.fz, .fz, .fz] (bE_Mender rec)) (some d0 :: some k1 :: some k2 :: List.replicate 0 none))
  | _ => .bad
def gwJ_Mender : Nat → D → D → R D
  | 0 => gwB_Mender fun _ => .bad
  | j + 1 => gwB_Mender (wF_Mender (gwJ_Mender j) j)
def gw_Mender : D → D → R D := gwAllM "counter" "places" gwJ_Mender
def m_Mender_best : List D → R D := fun ds => match ds with
  | [d0, k1, k2] => if fuelM "counter" "places" d0 k1 ≤ 9 then wF_Mender gw_Mender (fuelM "counter" "places" d0 k1) [d0, k1, k2] else .bad
  | _ => .bad

def b_size_of : SF :=
 retS [.fz] (tupE (consA (callE lenD (consA (vE 0) (nilA))) (consA (callE lenD (consA (op2E ixD (vE 0) (cE (.int 0))) (nilA))) (nilA))))
def m_size_of : List D → R D := runD 1 b_size_of

def gI_Counter : D → R (D × D) := gIof (ownE m_places_of (consA (vE 2) (nilA))) (op2E ixD (ownE m_size_of (consA (vE 2) (nilA))) (cE (.int 1)))

def b_empty : SF :=
 retS [.fz, .fz] (op2E mulD (tupE (consA (op2E mulD (tupE (consA (cE .none) (nilA))) (vE 1)) (nilA))) (vE 0))
def m_empty : List D → R D := runD 2 b_empty

def fa_Mender : AF := consA (vE 1) (consA (ownE m_empty (consA (callE lenD (consA (vE 2) (nilA))) (consA (callE lenD (consA (op2E ixD (vE 2) (cE (.int 0))) (nilA))) (nilA)))) (nilA))
def new_Mender : List D → R D := newM "Mender" "Counter" fa_Mender gI_Counter

def b_look_weights : SF :=
 seqS (ifS [.fz, .fz] (testE (op2E (neD) (ownE m_size_of (consA (vE 1) (nilA))) (ownE m_size_of (consA (vE 0) (nilA)))))
  (raiseS "Unlike")
  (nxS))
 (nxS)
def m_look_weights : List D → R D := runD 2 b_look_weights

def b_least_cost : SF :=
 seqS (dropS [.fz, .fz, .fz] (ownE m_look_weights (consA (vE 1) (consA (vE 2) (nilA)))))
 (retS [.fz, .fz, .fz] (mkmG "best" ["counter", "laid", "weights"] new_Mender (consA (vE 0) (consA (vE 1) (consA (vE 2) (nilA)))) (consA (cE (.int 0)) (consA (tupE (nilA)) (nilA))) m_Mender_best))
def m_least_cost : List D → R D := runD 3 b_least_cost

def b_Mender_way : SF :=
 seqS (newS [.fz, .fz, .fz, .fz, .fz, .fz, .fz] 1 (smallA (nilA)))
 (seqS (asgS [.fz, .ls, .fz, .fz, .fz, .fz, .fz] 2 (tupE (nilA)))
 (seqS (forS [.fz, .ls, .fz, .fz, .fz, .fz, .fz] (rangeI range1D (consA (callE lenD (consA (fldE ["Counter"] "places" (fldQ ["Mender"] "counter" (vqE 0))) (nilA))) (nilA))) (tgN 3) (
  seqS (asgS [.fz, .ls, .fz, .fz, .fz, .fz, .fz] 4 (op2E ixD (methE "Mender" "best" m_Mender_best (vqE 0) (consA (vE 3) (consA (vE 2) (nilA)))) (cE (.int 0))))
 (seqS (forS [.fz, .ls, .fz, .fz, .fz, .fz, .fz] (seqI (methE "Counter" "fitting" m_Counter_fitting (fldQ ["Mender"] "counter" (vqE 0)) (consA (vE 3) (consA (vE 2) (nilA))))) (tgN 5) (
  seqS (asgS [.fz, .ls, .fz, .fz, .fz, .fz, .fz] 6 (methE "Mender" "best" m_Mender_best (vqE 0) (consA (op2E addD (vE 3) (cE (.int 1))) (consA (methE "Counter" "moved_on" m_Counter_moved_on (fldQ ["Mender"] "counter" (vqE 0)) (consA (vE 2) (consA (vE 5) (nilA)))) (nilA)))))
 (seqS (ifS [.fz, .ls, .fz, .fz, .fz, .fz, .fz] (andT (testE (op2E (eqD) (callE lenD (consA (vE 1) (nilA))) (vE 3))) (andT (testE (op2E (notIsD) (vE 6) (cE .none))) (testE (op2E (eqD) (op2E addD (op2E ixD (vE 6) (cE (.int 0))) (methE "Mender" "cost_at" m_Mender_cost_at (vqE 0) (consA (vE 3) (consA (vE 5) (nilA))))) (vE 4)))))
  (seqS (appS [.fz, .ls, .fz, .fz, .fz, .fz, .fz] 1 (vE 5))
 (nxS))
  (nxS))
 (nxS))) [5, 6])
 (seqS (asgB [.fz, .ls, .fz, .fz, .fz, .fz, .fz] 2 (methE "Counter" "moved_on" m_Counter_moved_on (fldQ ["Mender"] "counter" (vqE 0)) (consA (vE 2) (consA (op2E ixD (vE 1) (op1E negD (cE (.int 1)))) (nilA)))))
 (nxS)))) [3, 4, 5, 6])
 (retO 1)))
def m_Mender_way : List D → R D := runD 7 b_Mender_way

def b_as_floor : SF :=
 retS [.fz, .fz, .fz] (callE tupleD (consA (lstE (compE (rangeI range3D (consA (cE (.int 0)) (consA (callE lenD (consA (vE 0) (nilA))) (consA (vE 1) (nilA))))) (tgN 2) (cE true) (callE tupleD (consA (sliceE (vE 0) (partO (vE 2)) (partO (op2E addD (vE 2) (vE 1)))) (nilA))) [2])) (nilA)))
def m_as_floor : List D → R D := runD 3 b_as_floor

def b_mended : SF :=
 seqS (dropS [.fz, .fz, .fz, .fz] (ownE m_look_weights (consA (vE 1) (consA (vE 2) (nilA)))))
 (seqS (mkG [.fz, .fz, .fz, .fz] 3 new_Mender (consA (vE 0) (consA (vE 1) (consA (vE 2) (nilA)))))
 (endS (seqS (ifS [.fz, .fz, .fz, .fz] (testE (op2E (isD) (methE "Mender" "best" m_Mender_best (vqE 3) (consA (cE (.int 0)) (consA (tupE (nilA)) (nilA)))) (cE .none)))
  (raiseS "NoFill")
  (nxS))
 (retS [.fz, .fz, .fz, .fz] (ownE m_as_floor (consA (methE "Mender" "way" m_Mender_way (vqE 3) (nilA)) (consA (callE lenD (consA (op2E ixD (vE 1) (cE (.int 0))) (nilA))) (nilA))))))))
def m_mended : List D → R D := runD 4 b_mended

def b_cost_of : SF :=
 seqS (dropS [.fz, .fz, .fz, .fz, .fz] (ownE m_look_weights (consA (vE 0) (consA (vE 1) (nilA)))))
 (seqS (ifS [.fz, .fz, .fz, .fz, .fz] (testE (op2E (neD) (ownE m_size_of (consA (vE 2) (nilA))) (ownE m_size_of (consA (vE 0) (nilA)))))
  (raiseS "Unlike")
  (nxS))
 (seqS (asgS [.fz, .fz, .fz, .fz, .fz] 3 (lstE (compE (seqI (ownE m_places_of (consA (vE 0) (nilA)))) (tgN 4) (testE (op2E (notInE) (ownE m_tile_at (consA (vE 0) (consA (vE 4) (nilA)))) (tupE (consA (cE .none) (consA (ownE m_tile_at (consA (vE 2) (consA (vE 4) (nilA)))) (nilA)))))) (vE 4) [4])))
 (retS [.fz, .fz, .fz, .fz, .fz] (callE sumD (consA (lstE (compE (seqI (vE 3)) (tgN 4) (cE true) (ownE m_tile_at (consA (vE 1) (consA (vE 4) (nilA)))) [4])) (nilA))))))
def m_cost_of : List D → R D := runD 5 b_cost_of

def b_l_do : SF :=
 seqS (asgS [.fz, .fz, .fz, .fz, .fz, .fz, .fz, .fz] 5 (cE .none))
 (seqS (asgS [.fz, .fz, .fz, .fz, .fz, .fz, .fz, .fz] 6 (cE .none))
 (seqS (tryS [.fz, .fz, .fz, .fz, .fz, .fz, .fz, .fz] 6 7 5 ["NoFill", "NoPlace", "Unlike"] (ifK (testE (op2E (eqD) (vE 0) (cE (.int 0)))) (ownK m_least_cost (consA (vE 1) (consA (vE 2) (consA (vE 3) (nilA))))) (ifK (testE (op2E (eqD) (vE 0) (cE (.int 1)))) (ownK m_mended (consA (vE 1) (consA (vE 2) (consA (vE 3) (nilA))))) (ownK m_cost_of (consA (vE 2) (consA (vE 3) (consA (vE 4) (nilA))))))))
 (seqS (ifS [.fz, .fz, .fz, .fz, .fz, .fz, .fz, .fz] (isNT (vqE 5))
  (retS [.fz, .fz, .fz, .fz, .fz, .fz, .fz, .fz] (vE 6))
  (nxS))
 (retS [.fz, .fz, .fz, .fz, .fz, .fz, .fz, .fz] (ownE m_l_word (consA (vqE 5) (nilA)))))))
def m_l_do : List D → R D := runD 8 b_l_do

def b_l_as_floor : SF :=
 retS [.fz, .fz, .fz] (callE tupleD (consA (lstE (compE (rangeI range3D (consA (cE (.int 0)) (consA (callE lenD (consA (vE 0) (nilA))) (consA (vE 1) (nilA))))) (tgN 2) (cE true) (callE tupleD (consA (sliceE (vE 0) (partO (vE 2)) (partO (op2E addD (vE 2) (vE 1)))) (nilA))) [2])) (nilA)))
def m_l_as_floor : List D → R D := runD 3 b_l_as_floor

def b_l_cost : SF :=
 seqS (asgS [.fz, .fz, .fz, .fz, .fz, .fz, .fz, .fz, .fz, .fz] 3 (cE (.int 0)))
 (seqS (forS [.fz, .fz, .fz, .fz, .fz, .fz, .fz, .fz, .fz, .fz] (rangeI zip3D (consA (vE 0) (consA (vE 1) (consA (vE 2) (nilA))))) (tgT [4, 5, 6]) (
  seqS (asgS [.fz, .fz, .fz, .fz, .fz, .fz, .fz, .fz, .fz, .fz] 3 (op2E addD (vE 3) (callE sumD (consA (lstE (compE (rangeI zip3D (consA (vE 4) (consA (vE 5) (consA (vE 6) (nilA))))) (tgT [7, 8, 9]) (andT (testE (op2E (notIsD) (vE 7) (cE .none))) (testE (op2E (neD) (vE 7) (vE 9)))) (vE 8) [7, 8, 9])) (nilA)))))
 (nxS)) [4, 5, 6])
 (retS [.fz, .fz, .fz, .fz, .fz, .fz, .fz, .fz, .fz, .fz] (vE 3)))
def m_l_cost : List D → R D := runD 10 b_l_cost

def b_l_fills : SF :=
 seqS (asgS [.fz, .fz, .fz, .fz, .fz, .fz, .fz, .fz, .fz, .fz, .fz, .fz, .fz] 2 (callE lenD (consA (op2E ixD (vE 1) (cE (.int 0))) (nilA))))
 (seqS (newS [.fz, .fz, .fz, .fz, .fz, .fz, .fz, .fz, .fz, .fz, .fz, .fz, .fz] 3 (smallA (nilA)))
 (seqS (forS [.fz, .fz, .fz, .ls, .fz, .fz, .fz, .fz, .fz, .fz, .fz, .fz, .fz] (seqI (vE 1)) (tgN 4) (
  seqS (extS [.fz, .fz, .fz, .ls, .fz, .fz, .fz, .fz, .fz, .fz, .fz, .fz, .fz] 3 (callN listN (consA (vE 4) (nilA))))
 (nxS)) [4])
 (seqS (asgS [.fz, .fz, .fz, .ls, .fz, .fz, .fz, .fz, .fz, .fz, .fz, .fz, .fz] 5 (lstE (smallA (consA (tupE (nilA)) (nilA)))))
 (seqS (forS [.fz, .fz, .fz, .fz, .fz, .fz, .fz, .fz, .fz, .fz, .fz, .fz, .fz] (rangeI enumD (consA (vE 3) (nilA))) (tgT [6, 7]) (
  seqS (newS [.fz, .fz, .fz, .fz, .fz, .fz, .fz, .fz, .fz, .fz, .fz, .fz, .fz] 8 (smallA (nilA)))
 (seqS (forS [.fz, .fz, .fz, .fz, .fz, .fz, .fz, .fz, .ls, .fz, .fz, .fz, .fz] (seqI (vE 5)) (tgN 9) (
  seqS (forS [.fz, .fz, .fz, .fz, .fz, .fz, .fz, .fz, .ls, .fz, .fz, .fz, .fz] (rangeI enumD (consA (vE 0) (nilA))) (tgT [10, 11]) (
  seqS (asgS [.fz, .fz, .fz, .fz, .fz, .fz, .fz, .fz, .ls, .fz, .fz, .fz, .fz] 12 (op2E (inE) (vE 7) (tupE (consA (cE .none) (consA (vE 10) (nilA))))))
 (seqS (ifS [.fz, .fz, .fz, .fz, .fz, .fz, .fz, .fz, .ls, .fz, .fz, .fz, .fz] (andT (testE (op2E (gtD) (op2E modD (vE 6) (vE 2)) (cE (.int 0)))) (testE (op2E (neD) (op2E ixD (op2E ixD (vE 0) (op2E ixD (vE 9) (op1E negD (cE (.int 1))))) (cE (.int 1))) (op2E ixD (vE 11) (cE (.int 3))))))
  (seqS (asgS [.fz, .fz, .fz, .fz, .fz, .fz, .fz, .fz, .ls, .fz, .fz, .fz, .fz] 12 (cE (.bool false)))
 (nxS))
  (nxS))
 (seqS (ifS [.fz, .fz, .fz, .fz, .fz, .fz, .fz, .fz, .ls, .fz, .fz, .fz, .fz] (andT (testE (op2E (geD) (vE 6) (vE 2))) (testE (op2E (neD) (op2E ixD (op2E ixD (vE 0) (op2E ixD (vE 9) (op2E subD (vE 6) (vE 2)))) (cE (.int 2))) (op2E ixD (vE 11) (cE (.int 0))))))
  (seqS (asgS [.fz, .fz, .fz, .fz, .fz, .fz, .fz, .fz, .ls, .fz, .fz, .fz, .fz] 12 (cE (.bool false)))
 (nxS))
  (nxS))
 (seqS (ifS [.fz, .fz, .fz, .fz, .fz, .fz, .fz, .fz, .ls, .fz, .fz, .fz, .fz] (testE (vE 12))
  (seqS (appS [.fz, .fz, .fz, .fz, .fz, .fz, .fz, .fz, .ls, .fz, .fz, .fz, .fz] 8 (op2E addD (vE 9) (tupE (consA (vE 10) (nilA)))))
 (nxS))
  (nxS))
 (nxS))))) [10, 11, 12])
 (nxS)) [9, 10, 11, 12])
 (seqS (asgS [.fz, .fz, .fz, .fz, .fz, .fz, .fz, .fz, .fz, .fz, .fz, .fz, .fz] 5 (vE 8))
 (nxS)))) [6, 7, 8, 9, 10, 11, 12])
 (retS [.fz, .fz, .fz, .fz, .fz, .fz, .fz, .fz, .fz, .fz, .fz, .fz, .fz] (vE 5))))))
def m_l_fills : List D → R D := runD 13 b_l_fills

def b_law_14 : SF :=
 seqS (ifS [.fz, .fz, .fz, .fz, .fz, .fz, .fz, .fz, .fz, .fz, .fz, .fz, .fz, .fz, .fz, .fz, .fz] (testE (op2E (neD) (lstE (compE (rangeI range1D (consA (cE (.int 3)) (nilA))) (tgN 16) (cE true) (ownE m_l_do (consA (vE 16) (consA (vE 1) (consA (vE 4) (consA (vE 15) (consA (vE 14) (nilA))))))) [16])) (op2E mulD (lstE (smallA (consA (cE (.str "unlike")) (nilA)))) (cE (.int 3)))))
  (retS [.fz, .fz, .fz, .fz, .fz, .fz, .fz, .fz, .fz, .fz, .fz, .fz, .fz, .fz, .fz, .fz, .fz] (cE (.bool false)))
  (nxS))
 (retS [.fz, .fz, .fz, .fz, .fz, .fz, .fz, .fz, .fz, .fz, .fz, .fz, .fz, .fz, .fz, .fz, .fz] (op2E (eqD) (ownE m_l_do (consA (cE (.int 2)) (consA (vE 1) (consA (vE 4) (consA (vE 5) (consA (op2E addD (vE 14) (sliceE (vE 14) (noO) (partO (cE (.int 1))))) (nilA))))))) (cE (.str "unlike"))))
def b_law_13 : SF :=
 seqS (asgS [.fz, .fz, .fz, .fz, .fz, .fz, .fz, .fz, .fz, .fz, .fz, .fz, .fz, .fz, .fz, .fz, .fz] 15 (op2E addD (vE 5) (sliceE (vE 5) (noO) (partO (cE (.int 1))))))
 (b_law_14)
def b_law_12 : SF :=
 seqS (ifS [.fz, .fz, .fz, .fz, .fz, .fz, .fz, .fz, .fz, .fz, .fz, .fz, .fz, .fz, .fz, .fz, .fz] (testE (op2E (neD) (ownE m_l_do (consA (cE (.int 2)) (consA (vE 1) (consA (vE 4) (consA (vE 5) (consA (vE 14) (nilA))))))) (ownE m_l_cost (consA (vE 4) (consA (vE 5) (consA (vE 14) (nilA)))))))
  (retS [.fz, .fz, .fz, .fz, .fz, .fz, .fz, .fz, .fz, .fz, .fz, .fz, .fz, .fz, .fz, .fz, .fz] (cE (.bool false)))
  (nxS))
 (b_law_13)
def b_law_11 : SF :=
 seqS (asgS [.fz, .fz, .fz, .fz, .fz, .fz, .fz, .fz, .fz, .fz, .fz, .fz, .fz, .fz, .fz, .fz, .fz] 14 (ownE m_l_floor (consA (vE 0) (consA (cE (.int 300)) (consA (vE 1) (consA (vE 2) (consA (vE 3) (consA (cE (.int 1)) (nilA)))))))))
 (b_law_12)
def b_law_10 : SF :=
 seqS (ifS [.fz, .fz, .fz, .fz, .fz, .fz, .fz, .fz, .fz, .fz, .fz, .fz, .fz, .fz, .fz, .fz, .fz] (andT (testE (op2E (notIsD) (vE 12) (cE .none))) (orT (testE (op2E (notInE) (vE 13) (vE 8))) (testE (op2E (neD) (ownE m_l_cost (consA (vE 4) (consA (vE 5) (consA (vE 13) (nilA))))) (op2E ixD (vE 12) (cE (.int 0)))))))
  (retS [.fz, .fz, .fz, .fz, .fz, .fz, .fz, .fz, .fz, .fz, .fz, .fz, .fz, .fz, .fz, .fz, .fz] (cE (.bool false)))
  (nxS))
 (b_law_11)
def b_law_9 : SF :=
 seqS (ifS [.fz, .fz, .fz, .fz, .fz, .fz, .fz, .fz, .fz, .fz, .fz, .fz, .fz, .fz, .fz, .fz, .fz] (andT (testE (op2E (isD) (vE 12) (cE .none))) (testE (op2E (neD) (vE 13) (cE (.str "no fill")))))
  (retS [.fz, .fz, .fz, .fz, .fz, .fz, .fz, .fz, .fz, .fz, .fz, .fz, .fz, .fz, .fz, .fz, .fz] (cE (.bool false)))
  (nxS))
 (b_law_10)
def b_law_8 : SF :=
 seqS (asgS [.fz, .fz, .fz, .fz, .fz, .fz, .fz, .fz, .fz, .fz, .fz, .fz, .fz, .fz, .fz, .fz, .fz] 13 (ownE m_l_do (consA (cE (.int 1)) (consA (vE 1) (consA (vE 4) (consA (vE 5) (consA (cE .none) (nilA))))))))
 (b_law_9)
def b_law_7 : SF :=
 seqS (ifS [.fz, .fz, .fz, .fz, .fz, .fz, .fz, .fz, .fz, .fz, .fz, .fz, .fz, .fz, .fz, .fz, .fz] (testE (op2E (neD) (ownE m_l_do (consA (cE (.int 0)) (consA (vE 1) (consA (vE 4) (consA (vE 5) (consA (cE .none) (nilA))))))) (vE 12)))
  (retS [.fz, .fz, .fz, .fz, .fz, .fz, .fz, .fz, .fz, .fz, .fz, .fz, .fz, .fz, .fz, .fz, .fz] (cE (.bool false)))
  (nxS))
 (b_law_8)
def b_law_6 : SF :=
 seqS (asgS [.fz, .fz, .fz, .fz, .fz, .fz, .fz, .fz, .fz, .fz, .fz, .fz, .fz, .fz, .fz, .fz, .fz] 12 (ifE (testE (op2E (eqD) (vE 10) (lstE (smallA (nilA))))) (cE .none) (tupE (consA (callE minLD (consA (vE 10) (nilA))) (consA (lmE countD (vE 10) (callE minLD (consA (vE 10) (nilA)))) (nilA))))))
 (b_law_7)
def b_law_5 : SF :=
 seqS (asgS [.fz, .fz, .fz, .fz, .fz, .fz, .fz, .fz, .fz, .fz, .fz, .fz, .fz, .fz, .fz, .fz, .fz] 10 (lstE (compE (seqI (vE 8)) (tgN 11) (cE true) (ownE m_l_cost (consA (vE 4) (consA (vE 5) (consA (vE 11) (nilA))))) [11])))
 (b_law_6)
def b_law_4 : SF :=
 seqS (asgS [.fz, .fz, .fz, .fz, .fz, .fz, .fz, .fz, .fz, .fz, .fz, .fz, .fz, .fz, .fz, .fz, .fz] 8 (lstE (compE (seqI (ownE m_l_fills (consA (vE 1) (consA (op2E mulD (tupE (consA (op2E mulD (tupE (consA (cE .none) (nilA))) (vE 3)) (nilA))) (vE 2)) (nilA))))) (tgN 9) (cE true) (ownE m_l_as_floor (consA (vE 9) (consA (vE 3) (nilA)))) [9])))
 (b_law_5)
def b_law_3 : SF :=
 seqS (asgS [.fz, .fz, .fz, .fz, .fz, .fz, .fz, .fz, .fz, .fz, .fz, .fz, .fz, .fz, .fz, .fz, .fz] 5 (callE tupleD (consA (lstE (compE (rangeI range1D (consA (vE 2) (nilA))) (tgN 6) (cE true) (callE tupleD (consA (lstE (compE (rangeI range1D (consA (vE 3) (nilA))) (tgN 7) (cE true) (ownE m_l_pick (consA (vE 0) (consA (op2E addD (op2E addD (cE (.int 200)) (op2E mulD (cE (.int 7)) (vE 6))) (vE 7)) (consA (cE (.int 5)) (nilA))))) [7])) (nilA))) [6])) (nilA))))
 (b_law_4)
def b_law_2 : SF :=
 seqS (asgS [.fz, .fz, .fz, .fz, .fz, .fz, .fz, .fz, .fz, .fz, .fz, .fz, .fz, .fz, .fz, .fz, .fz] 4 (ownE m_l_floor (consA (vE 0) (consA (cE (.int 100)) (consA (vE 1) (consA (vE 2) (consA (vE 3) (consA (op2E addD (cE (.int 1)) (ownE m_l_pick (consA (vE 0) (consA (cE (.int 91)) (consA (cE (.int 2)) (nilA)))))) (nilA)))))))))
 (b_law_3)
def b_law_1 : SF :=
 seqS (tupS [.fz, .fz, .fz, .fz, .fz, .fz, .fz, .fz, .fz, .fz, .fz, .fz, .fz, .fz, .fz, .fz, .fz] (ownE m_l_sides (consA (vE 0) (consA (cE (.int 90)) (nilA)))) (tgT [2, 3]))
 (b_law_2)
def b_law_0 : SF :=
 seqS (asgS [.fz, .fz, .fz, .fz, .fz, .fz, .fz, .fz, .fz, .fz, .fz, .fz, .fz, .fz, .fz, .fz, .fz] 1 (ownE m_l_tiles (consA (vE 0) (consA (cE (.int 0)) (consA (cE (.int 4)) (nilA))))))
 (b_law_1)
def b_law : SF :=
 b_law_0
def m_law : List D → R D := runD 17 b_law

section
variable {P : Program} {w : World} {K : PySem.W.Frag} {mg : Str → Option Value} {base : Heap}
abbrev n_l_cell : List Str := ["_law_script", "_law_k"]
theorem sc_l_cell : FnScope n_l_cell ["_law_script", "_law_k"] (defScope s_l_cell) := ⟨rfl, rfl, rfl, by decide +kernel, rfl, by decide +kernel, by decide +kernel⟩
theorem ok_l_cell (T : Txt P w K mg) : FnOk P w K mg base (L2.CX P w) 1 T.l_cell.f T.l_cell.fd ["_law_script", "_law_k"] (spD K mg 2 m_l_cell) := by
  refine fn_ok (N := n_l_cell) (fb := b_l_cell) (ws := [.fz, .fz]) T.l_cell.F sc_l_cell rfl rfl fun cdv A outer s H E hr => ⟨_, [.fz, .fz], (ds_cons (d_if (dt_cmp op_lt og_ints (dv 1) (de_callB (klen K) cg_len (by rfl) T.b_len (by decide +kernel) (da_cons (dv 0) da_nil)) (nomark _))
  (ds_one (d_ret (de_ix (kix K) og_ix (dv 0) (dv 1) (fun _ _ => rfl))))
  ds_nil)
 (ds_cons (d_if (dt_cmp (keq K (r64 hr)) og_eq (dv 0) (de_new (dn_lst da_nil)) (nomark _))
  (ds_one (d_ret de_int))
  ds_nil)
 (ds_one (d_ret (de_op (kadd K) og_add (de_op (kmul K) og_mul (de_ix (kix K) og_ix (dv 0) (de_op op_mod og_mod (dv 1) (de_callB (klen K) cg_len (by rfl) T.b_len (by decide +kernel) (da_cons (dv 0) da_nil))) (fun _ _ => rfl)) de_int) (dv 1))))))⟩

abbrev n_l_pick : List Str := ["_law_script", "_law_k", "_law_many", "_law_drawn"]
theorem sc_l_pick : FnScope n_l_pick ["_law_script", "_law_k", "_law_many"] (defScope s_l_pick) := ⟨rfl, rfl, rfl, by decide +kernel, rfl, by decide +kernel, by decide +kernel⟩
theorem ok_l_pick (T : Txt P w K mg) : FnOk P w K mg base (L2.CX P w) 2 T.l_pick.f T.l_pick.fd ["_law_script", "_law_k", "_law_many"] (spD K mg 3 m_l_pick) := by
  refine fn_ok (N := n_l_pick) (fb := b_l_pick) (ws := [.fz, .fz, .fz, .fz]) T.l_pick.F sc_l_pick rfl rfl fun cdv A outer s H E hr => ⟨_, [.fz, .fz, .fz, .fz], (ds_cons (s_asg 3 sc_l_pick.nd (de_op op_mod og_mod (de_op (kmul K) og_mul (de_op (kadd K) og_add (kown K mg (ok_l_cell T) (hr.mono (by decide)) (by rfl) T.l_cell.m T.l_cell.F.kp T.l_cell.b (passes_call (takes_of rfl rfl rfl rfl) (fun _ _ _ _ h => h)) (fun _ _ h => h) (da_cons (dv 0) (da_cons (dv 1) da_nil)) (args_lenS (args_lenS args_len0))) (de_op (kmul K) og_mul de_int (de_op (kadd K) og_add (dv 1) de_int))) de_int) de_int))
 (ds_one (d_ret (de_op op_mod og_mod (de_op op_mod og_mod (de_op (kadd K) og_add (de_op (kmul K) og_mul (dv 3) (dv 3)) (de_op op_fdiv og_fdiv (dv 3) de_int)) de_int) (dv 2)))))⟩

abbrev n_l_tiles : List Str := ["_law_script", "_law_at", "_law_most", "_law_colours", "_law_made", "_law_k", "_law_tile", "_law_j"]
theorem sc_l_tiles : FnScope n_l_tiles ["_law_script", "_law_at", "_law_most"] (defScope s_l_tiles) := ⟨rfl, rfl, rfl, by decide +kernel, rfl, by decide +kernel, by decide +kernel⟩
theorem ok_l_tiles (T : Txt P w K mg) : FnOk P w K mg base (L2.CX P w) 3 T.l_tiles.f T.l_tiles.fd ["_law_script", "_law_at", "_law_most"] (spD K mg 3 m_l_tiles) := by
  refine fn_ok (N := n_l_tiles) (fb := b_l_tiles) (ws := [.fz, .fz, .fz, .fz, .fz, .fz, .fz, .fz]) T.l_tiles.F sc_l_tiles rfl rfl fun cdv A outer s H E hr => ⟨_, [.fz, .fz, .fz, .fz, .fz, .fz, .fz, .fz], (ds_cons (s_asg 3 sc_l_tiles.nd (de_op (kadd K) og_add de_int (kown K mg (ok_l_pick T) (hr.mono (by decide)) (by rfl) T.l_pick.m T.l_pick.F.kp T.l_pick.b (passes_call (takes_of rfl rfl rfl rfl) (fun _ _ _ _ h => h)) (fun _ _ h => h) (da_cons (dv 0) (da_cons (dv 1) (da_cons de_int da_nil))) (args_lenS (args_lenS (args_lenS args_len0))))))
 (ds_cons (s_new 4 sc_l_tiles.nd (dn_lst da_nil))
 (ds_cons (d_for (ks := [5, 6]) (passes_of rfl) rfl (di_range1 (by rfl) T.b_range (da_cons (de_op (kadd K) og_add de_int (kown K mg (ok_l_pick T) (hr.mono (by decide)) (by rfl) T.l_pick.m T.l_pick.F.kp T.l_pick.b (passes_call (takes_of rfl rfl rfl rfl) (fun _ _ _ _ h => h)) (fun _ _ h => h) (da_cons (dv 0) (da_cons (de_op (kadd K) og_add (dv 1) de_int) (da_cons (dv 2) da_nil))) (args_lenS (args_lenS (args_lenS args_len0))))) da_nil)) (tgn 5 sc_l_tiles.nd) (allFz_ok rfl)
  (ds_cons (s_asg 6 sc_l_tiles.nd (de_callTy (ktup K) cg_tuple (by rfl) T.b_tuple (by decide +kernel) (da_cons (de_new (dn_lc (own := [("_law_j", 7)]) rfl sc_l_tiles.nd (di_range1 (by rfl) T.b_range (da_cons de_int da_nil)) (blkOk_by (own := [("_law_j", 7)]) (N := n_l_tiles) (sc := defScope s_l_tiles) (by decide +kernel)) (fun _ _ _ _ _ => (tgn 7 sc_l_tiles.nd)) (fun _ _ _ _ _ => dts_nil) (fun _ _ _ _ _ => (kown K mg (ok_l_pick T) (hr.mono (by decide)) (by rfl) T.l_pick.m T.l_pick.F.kp T.l_pick.b pass_no (fun _ _ h => False.elim h) (da_cons (dv 0) (da_cons (de_op (kadd K) og_add (de_op (kadd K) og_add (de_op (kadd K) og_add (dv 1) (de_op (kmul K) og_mul de_int (dv 5))) de_int) (dv 7)) (da_cons (dv 3) da_nil))) (args_lenS (args_lenS (args_lenS args_len0))))))) da_nil)))
 (ds_cons (d_if (dt_cmp (keq K (r64 hr)) og_eq (kown K mg (ok_l_pick T) (hr.mono (by decide)) (by rfl) T.l_pick.m T.l_pick.F.kp T.l_pick.b (passes_call (takes_of rfl rfl rfl rfl) (fun _ _ _ _ h => h)) (fun _ _ h => h) (da_cons (dv 0) (da_cons (de_op (kadd K) og_add (de_op (kadd K) og_add (dv 1) de_int) (dv 5)) (da_cons de_int da_nil))) (args_lenS (args_lenS (args_lenS args_len0)))) de_int (nomark _))
  (ds_cons (s_asg 6 sc_l_tiles.nd (de_tup (da_cons (de_ix (kix K) og_ix (dv 6) de_int (fun _ _ => rfl)) (da_cons (de_ix (kix K) og_ix (dv 6) de_int (fun _ _ => rfl)) (da_cons (de_ix (kix K) og_ix (dv 6) de_int (fun _ _ => rfl)) (da_cons (de_ix (kix K) og_ix (dv 6) de_int (fun _ _ => rfl)) da_nil))))))
 ds_nil)
  ds_nil)
 (ds_cons (d_if (dt_cmp (knin K (r65 hr)) og_notIn (dv 6) (dv 4) (by rfl))
  (ds_cons (s_app 4 (dv 6))
 ds_nil)
  ds_nil)
 ds_nil))))
 (ds_frz 4 rfl (ds_one (d_ret (de_callTy (ktup K) cg_tuple (by rfl) T.b_tuple (by decide +kernel) (da_cons (dv 4) da_nil))))))))⟩

abbrev n_l_sides : List Str := ["_law_script", "_law_at"]
theorem sc_l_sides : FnScope n_l_sides ["_law_script", "_law_at"] (defScope s_l_sides) := ⟨rfl, rfl, rfl, by decide +kernel, rfl, by decide +kernel, by decide +kernel⟩
theorem ok_l_sides (T : Txt P w K mg) : FnOk P w K mg base (L2.CX P w) 3 T.l_sides.f T.l_sides.fd ["_law_script", "_law_at"] (spD K mg 2 m_l_sides) := by
  refine fn_ok (N := n_l_sides) (fb := b_l_sides) (ws := [.fz, .fz]) T.l_sides.F sc_l_sides rfl rfl fun cdv A outer s H E hr => ⟨_, [.fz, .fz], (ds_one (d_ret (de_ix (kix K) og_ix (de_new (dn_lst (da_cons (de_tup (da_cons de_int (da_cons de_int da_nil))) (da_cons (de_tup (da_cons de_int (da_cons de_int da_nil))) (da_cons (de_tup (da_cons de_int (da_cons de_int da_nil))) (da_cons (de_tup (da_cons de_int (da_cons de_int da_nil))) (da_cons (de_tup (da_cons de_int (da_cons de_int da_nil))) (da_cons (de_tup (da_cons de_int (da_cons de_int da_nil))) (da_cons (de_tup (da_cons de_int (da_cons de_int da_nil))) (da_cons (de_tup (da_cons de_int (da_cons de_int da_nil))) (da_cons (de_tup (da_cons de_int (da_cons de_int da_nil))) (da_cons (de_tup (da_cons de_int (da_cons de_int da_nil))) da_nil)))))))))))) (kown K mg (ok_l_pick T) (hr.mono (by decide)) (by rfl) T.l_pick.m T.l_pick.F.kp T.l_pick.b (passes_call (takes_of rfl rfl rfl rfl) (fun _ _ _ _ h => h)) (fun _ _ h => h) (da_cons (dv 0) (da_cons (dv 1) (da_cons de_int da_nil))) (args_lenS (args_lenS (args_lenS args_len0)))) (fun _ _ => rfl))))⟩

abbrev n_l_floor : List Str := ["_law_script", "_law_at", "_law_tiles_here", "_law_rows", "_law_columns", "_law_many", "_law_made", "_law_row", "_law_line", "_law_column", "_law_here"]
theorem sc_l_floor : FnScope n_l_floor ["_law_script", "_law_at", "_law_tiles_here", "_law_rows", "_law_columns", "_law_many"] (defScope s_l_floor) := ⟨rfl, rfl, rfl, by decide +kernel, rfl, by decide +kernel, by decide +kernel⟩
theorem ok_l_floor (T : Txt P w K mg) : FnOk P w K mg base (L2.CX P w) 3 T.l_floor.f T.l_floor.fd ["_law_script", "_law_at", "_law_tiles_here", "_law_rows", "_law_columns", "_law_many"] (spD K mg 6 m_l_floor) := by
  refine fn_ok (N := n_l_floor) (fb := b_l_floor) (ws := [.fz, .fz, .fz, .fz, .fz, .fz, .fz, .fz, .fz, .fz, .fz]) T.l_floor.F sc_l_floor rfl rfl fun cdv A outer s H E hr => ⟨_, [.fz, .fz, .fz, .fz, .fz, .fz, .fz, .fz, .fz, .fz, .fz], (ds_cons (s_new 6 sc_l_floor.nd (dn_lst da_nil))
 (ds_cons (d_for (ks := [7, 8, 9, 10]) (passes_of rfl) rfl (di_range1 (by rfl) T.b_range (da_cons (dv 3) da_nil)) (tgn 7 sc_l_floor.nd) (allFz_ok rfl)
  (ds_cons (s_new 8 sc_l_floor.nd (dn_lst da_nil))
 (ds_cons (d_for (ks := [9, 10]) (passes_of rfl) rfl (di_range1 (by rfl) T.b_range (da_cons (dv 4) da_nil)) (tgn 9 sc_l_floor.nd) (allFz_ok rfl)
  (ds_cons (s_asg 10 sc_l_floor.nd (kown K mg (ok_l_pick T) (hr.mono (by decide)) (by rfl) T.l_pick.m T.l_pick.F.kp T.l_pick.b (passes_call (takes_of rfl rfl rfl rfl) (fun _ _ _ _ h => h)) (fun _ _ h => h) (da_cons (dv 0) (da_cons (de_op (kadd K) og_add (de_op (kadd K) og_add (dv 1) (de_op (kmul K) og_mul de_int (dv 7))) (dv 9)) (da_cons (de_op (kmul K) og_mul (de_callB (klen K) cg_len (by rfl) T.b_len (by decide +kernel) (da_cons (dv 2) da_nil)) (dv 5)) da_nil))) (args_lenS (args_lenS (args_lenS args_len0)))))
 (ds_cons (s_app 8 (de_if (dt_cmp op_lt og_ints (dv 10) (de_callB (klen K) cg_len (by rfl) T.b_len (by decide +kernel) (da_cons (dv 2) da_nil)) (nomark _)) (dv 10) de_non))
 ds_nil)))
 (ds_frz 8 rfl (ds_cons (s_app 6 (de_callTy (ktup K) cg_tuple (by rfl) T.b_tuple (by decide +kernel) (da_cons (dv 8) da_nil)))
 ds_nil)))))
 (ds_frz 6 rfl (ds_one (d_ret (de_callTy (ktup K) cg_tuple (by rfl) T.b_tuple (by decide +kernel) (da_cons (dv 6) da_nil)))))))⟩

abbrev n_l_word : List Str := ["_law_kept", "_law_kinds"]
theorem sc_l_word : FnScope n_l_word ["_law_kept"] (defScope s_l_word) := ⟨rfl, rfl, rfl, by decide +kernel, rfl, by decide +kernel, by decide +kernel⟩
theorem ok_l_word (T : Txt P w K mg) : FnOk P w K mg base (L2.CX P w) 1 T.l_word.f T.l_word.fd ["_law_kept"] (spD K mg 1 m_l_word) := by
  refine fn_ok (N := n_l_word) (fb := b_l_word) (ws := [.fz, .fz]) T.l_word.F sc_l_word rfl rfl fun cdv A outer s H E hr => ⟨_, [.fz, .fz], (ds_cons (s_new 1 sc_l_word.nd (dn_lst (da_cons (kisX K mg T.q_NoFill (tbl_cons T.w_NoFill (kit_two T.w_NoFill T.q_NoFill T.s_NoFill_NoFill) (tbl_cons T.w_NoPlace (kit_two T.w_NoPlace T.q_NoFill T.s_NoPlace_NoFill) (tbl_cons T.w_Unlike (kit_two T.w_Unlike T.q_NoFill T.s_Unlike_NoFill) tbl_nil))) (by rfl) T.b_isinstance (by rfl) (dvq 0)) (da_cons (kisX K mg T.q_NoPlace (tbl_cons T.w_NoFill (kit_two T.w_NoFill T.q_NoPlace T.s_NoFill_NoPlace) (tbl_cons T.w_NoPlace (kit_two T.w_NoPlace T.q_NoPlace T.s_NoPlace_NoPlace) (tbl_cons T.w_Unlike (kit_two T.w_Unlike T.q_NoPlace T.s_Unlike_NoPlace) tbl_nil))) (by rfl) T.b_isinstance (by rfl) (dvq 0)) (da_cons (kisX K mg T.q_NoText (tbl_cons T.w_NoFill (kit_two T.w_NoFill T.q_NoText T.s_NoFill_NoText) (tbl_cons T.w_NoPlace (kit_two T.w_NoPlace T.q_NoText T.s_NoPlace_NoText) (tbl_cons T.w_Unlike (kit_two T.w_Unlike T.q_NoText T.s_Unlike_NoText) tbl_nil))) (by rfl) T.b_isinstance (by rfl) (dvq 0)) (da_cons (kisX K mg T.q_NoTile (tbl_cons T.w_NoFill (kit_two T.w_NoFill T.q_NoTile T.s_NoFill_NoTile) (tbl_cons T.w_NoPlace (kit_two T.w_NoPlace T.q_NoTile T.s_NoPlace_NoTile) (tbl_cons T.w_Unlike (kit_two T.w_Unlike T.q_NoTile T.s_Unlike_NoTile) tbl_nil))) (by rfl) T.b_isinstance (by rfl) (dvq 0)) da_nil))))))
 (ds_cons (s_ext 1 (dn_lst (da_cons (kisX K mg T.q_Nothing (tbl_cons T.w_NoFill (kit_two T.w_NoFill T.q_Nothing T.s_NoFill_Nothing) (tbl_cons T.w_NoPlace (kit_two T.w_NoPlace T.q_Nothing T.s_NoPlace_Nothing) (tbl_cons T.w_Unlike (kit_two T.w_Unlike T.q_Nothing T.s_Unlike_Nothing) tbl_nil))) (by rfl) T.b_isinstance (by rfl) (dvq 0)) (da_cons (kisX K mg T.q_Unlike (tbl_cons T.w_NoFill (kit_two T.w_NoFill T.q_Unlike T.s_NoFill_Unlike) (tbl_cons T.w_NoPlace (kit_two T.w_NoPlace T.q_Unlike T.s_NoPlace_Unlike) (tbl_cons T.w_Unlike (kit_two T.w_Unlike T.q_Unlike T.s_Unlike_Unlike) tbl_nil))) (by rfl) T.b_isinstance (by rfl) (dvq 0)) da_nil))))
 (ds_cons (d_if (dw_pt (dw_or (dt_cmp (kne K (r64 hr)) og_ne (kcount K (r65 hr) (dv 1) de_bl) de_int (nomark _)) (dw_or1 (dt_not (dt_val (kisV K mg (tbl_cons T.w_NoFill (kit_val T.w_NoFill T.v_NoFill) (tbl_cons T.w_NoPlace (kit_val T.w_NoPlace T.v_NoPlace) (tbl_cons T.w_Unlike (kit_val T.w_Unlike T.v_Unlike) tbl_nil))) (by rfl) T.b_isinstance (by rfl) T.b_ValueError (dvq 0)))))))
  (ds_one (d_ret de_str))
  ds_nil)
 (ds_frz 1 rfl (ds_one (d_ret (de_ix (kix K) og_ix (de_new (dn_lst (da_cons de_str (da_cons de_str (da_cons de_str (da_cons de_str (da_cons de_str (da_cons de_str da_nil)))))))) (kindex K (r65 hr) (dv 1) de_bl) (fun _ _ => rfl))))))))⟩

abbrev n_Counter_fitting : List Str := ["self", "at", "last", "row", "column", "wanted", "made", "number", "tile", "is_fit"]
theorem sc_Counter_fitting : FnScope n_Counter_fitting ["self", "at", "last"] (defScope s_Counter_fitting) := ⟨rfl, rfl, rfl, by decide +kernel, rfl, by decide +kernel, by decide +kernel⟩
theorem ok_Counter_fitting (T : Txt P w K mg) : FnOk P w K mg base (L2.CX P w) 1 T.Counter_fitting.f T.Counter_fitting.fd ["self", "at", "last"] (spD K mg 3 m_Counter_fitting) := by
  refine fn_ok (N := n_Counter_fitting) (fb := b_Counter_fitting) (ws := [.fz, .fz, .fz, .fz, .fz, .fz, .fz, .fz, .fz, .fz]) T.Counter_fitting.F sc_Counter_fitting rfl rfl fun cdv A outer s H E hr => ⟨_, [.fz, .fz, .fz, .fz, .fz, .fz, .ls, .fz, .fz, .fz], (ds_cons (s_tup [3, 4] (de_ix (kix K) og_ix (kfld K T.k_Counter (dvq 0)) (dv 1) (fun _ _ => rfl)) (ktg K [3, 4] rfl (pgs_cons (pgn 3 sc_Counter_fitting.nd) (pgs_cons (pgn 4 sc_Counter_fitting.nd) pgs_nil))))
 (ds_cons (s_asg 5 sc_Counter_fitting.nd (de_ix (kix K) og_ix (de_ix (kix K) og_ix (kfld K T.k_Counter (dvq 0)) (dv 3) (fun _ _ => rfl)) (dv 4) (fun _ _ => rfl)))
 (ds_cons (s_new 6 sc_Counter_fitting.nd (dn_lst da_nil))
 (ds_cons (d_for (ks := [7, 8, 9]) (passes_of rfl) rfl (kenum K (by rfl) T.b_enumerate (da_cons (kfld K T.k_Counter (dvq 0)) da_nil)) (ktg K [7, 8] rfl (pgs_cons (pgn 7 sc_Counter_fitting.nd) (pgs_cons (pgn 8 sc_Counter_fitting.nd) pgs_nil))) (allFz_ok rfl)
  (ds_cons (s_asg 9 sc_Counter_fitting.nd (de_or (de_cmp op_isA og_is (dv 5) de_non (nomark _)) (de_one (de_cmp (keq K (r64 hr)) og_eq (dv 5) (dv 7) (nomark _)))))
 (ds_cons (d_if (dw_pt (dw_and (dt_cmp op_gt og_ints (dv 4) de_int (nomark _)) (dw_and1 (dt_cmp (kne K (r64 hr)) og_ne (de_ix (kix K) og_ix (de_ix (kix K) og_ix (kfld K T.k_Counter (dvq 0)) (de_ix (kix K) og_ix (dv 2) (de_neg de_int) (fun _ _ => rfl)) (fun _ _ => rfl)) de_int (fun _ _ => rfl)) (de_ix (kix K) og_ix (dv 8) de_int (fun _ _ => rfl)) (nomark _)))))
  (ds_cons (s_asg 9 sc_Counter_fitting.nd de_bl)
 ds_nil)
  ds_nil)
 (ds_cons (d_if (dw_pt (dw_and (dt_cmp op_gt og_ints (dv 3) de_int (nomark _)) (dw_and1 (dt_cmp (kne K (r64 hr)) og_ne (de_ix (kix K) og_ix (de_ix (kix K) og_ix (kfld K T.k_Counter (dvq 0)) (de_ix (kix K) og_ix (dv 2) de_int (fun _ _ => rfl)) (fun _ _ => rfl)) de_int (fun _ _ => rfl)) (de_ix (kix K) og_ix (dv 8) de_int (fun _ _ => rfl)) (nomark _)))))
  (ds_cons (s_asg 9 sc_Counter_fitting.nd de_bl)
 ds_nil)
  ds_nil)
 (ds_cons (d_if (dt_val (dv 9))
  (ds_cons (s_app 6 (dv 7))
 ds_nil)
  ds_nil)
 ds_nil)))))
 (ds_one (s_retO 6))))))⟩

abbrev n_Counter_moved_on : List Str := ["self", "last", "number"]
theorem sc_Counter_moved_on : FnScope n_Counter_moved_on ["self", "last", "number"] (defScope s_Counter_moved_on) := ⟨rfl, rfl, rfl, by decide +kernel, rfl, by decide +kernel, by decide +kernel⟩
theorem ok_Counter_moved_on (T : Txt P w K mg) : FnOk P w K mg base (L2.CX P w) 1 T.Counter_moved_on.f T.Counter_moved_on.fd ["self", "last", "number"] (spD K mg 3 m_Counter_moved_on) := by
  refine fn_ok (N := n_Counter_moved_on) (fb := b_Counter_moved_on) (ws := [.fz, .fz, .fz]) T.Counter_moved_on.F sc_Counter_moved_on rfl rfl fun cdv A outer s H E hr => ⟨_, [.fz, .fz, .fz], (ds_one (d_ret (ksl K (de_op (kadd K) og_add (dv 1) (de_tup (da_cons (dv 2) da_nil))) (do_some (de_op op_sub og_sub de_int (kfld K T.k_Counter (dvq 0)))) do_none)))⟩

abbrev n_places_of : List Str := ["floor", "made", "row", "column"]
theorem sc_places_of : FnScope n_places_of ["floor"] (defScope s_places_of) := ⟨rfl, rfl, rfl, by decide +kernel, rfl, by decide +kernel, by decide +kernel⟩
theorem ok_places_of (T : Txt P w K mg) : FnOk P w K mg base (L2.CX P w) 1 T.places_of.f T.places_of.fd ["floor"] (spD K mg 1 m_places_of) := by
  refine fn_ok (N := n_places_of) (fb := b_places_of) (ws := [.fz, .fz, .fz, .fz]) T.places_of.F sc_places_of rfl rfl fun cdv A outer s H E hr => ⟨_, [.fz, .ls, .fz, .fz], (ds_cons (s_new 1 sc_places_of.nd (dn_lst da_nil))
 (ds_cons (d_for (ks := [2]) (passes_of rfl) rfl (di_range1 (by rfl) T.b_range (da_cons (de_callB (klen K) cg_len (by rfl) T.b_len (by decide +kernel) (da_cons (dv 0) da_nil)) da_nil)) (tgn 2 sc_places_of.nd) (allFz_ok rfl)
  (ds_cons (s_ext 1 (dn_lc (own := [("column", 3)]) rfl sc_places_of.nd (di_range1 (by rfl) T.b_range (da_cons (de_callB (klen K) cg_len (by rfl) T.b_len (by decide +kernel) (da_cons (de_ix (kix K) og_ix (dv 0) de_int (fun _ _ => rfl)) da_nil)) da_nil)) (blkOk_by (own := [("column", 3)]) (N := n_places_of) (sc := defScope s_places_of) (by decide +kernel)) (fun _ _ _ _ _ => (tgn 3 sc_places_of.nd)) (fun _ _ _ _ _ => dts_nil) (fun _ _ _ _ _ => (de_tup (da_cons (dv 2) (da_cons (dv 3) da_nil))))))
 ds_nil))
 (ds_one (s_retO 1))))⟩

abbrev n_look_place : List Str := ["floor", "place"]
theorem sc_look_place : FnScope n_look_place ["floor", "place"] (defScope s_look_place) := ⟨rfl, rfl, rfl, by decide +kernel, rfl, by decide +kernel, by decide +kernel⟩
theorem ok_look_place (T : Txt P w K mg) : FnOk P w K mg base (L2.CX P w) 2 T.look_place.f T.look_place.fd ["floor", "place"] (spD K mg 2 m_look_place) := by
  refine fn_ok (N := n_look_place) (fb := b_look_place) (ws := [.fz, .fz]) T.look_place.F sc_look_place rfl rfl fun cdv A outer s H E hr => ⟨_, [.fz, .fz], (ds_cons (d_if (dt_cmp (knin K (r65 hr)) og_notIn (dv 1) (kown K mg (ok_places_of T) (hr.mono (by decide)) (by rfl) T.places_of.m T.places_of.F.kp T.places_of.b (passes_call (takes_of rfl rfl rfl rfl) (fun _ _ _ _ h => h)) (fun _ _ h => h) (da_cons (dv 0) da_nil) (args_lenS args_len0)) (by rfl))
  (ds_one (d_raise rfl (takes_of rfl rfl rfl rfl) (T.x_NoPlace.mk' (by rfl)) (fun _ _ h => h _ T.x_NoPlace.g)))
  ds_nil)
 ds_nil)⟩

abbrev n_tile_at : List Str := ["floor", "place"]
theorem sc_tile_at : FnScope n_tile_at ["floor", "place"] (defScope s_tile_at) := ⟨rfl, rfl, rfl, by decide +kernel, rfl, by decide +kernel, by decide +kernel⟩
theorem ok_tile_at (T : Txt P w K mg) : FnOk P w K mg base (L2.CX P w) 3 T.tile_at.f T.tile_at.fd ["floor", "place"] (spD K mg 2 m_tile_at) := by
  refine fn_ok (N := n_tile_at) (fb := b_tile_at) (ws := [.fz, .fz]) T.tile_at.F sc_tile_at rfl rfl fun cdv A outer s H E hr => ⟨_, [.fz, .fz], (ds_cons (d_drop (kown K mg (ok_look_place T) (hr.mono (by decide)) (by rfl) T.look_place.m T.look_place.F.kp T.look_place.b (passes_call (takes_of rfl rfl rfl rfl) (fun _ _ _ _ h => h)) (fun _ _ h => h) (da_cons (dv 0) (da_cons (dv 1) da_nil)) (args_lenS (args_lenS args_len0))))
 (ds_one (d_ret (de_ix (kix K) og_ix (de_ix (kix K) og_ix (dv 0) (de_ix (kix K) og_ix (dv 1) de_int (fun _ _ => rfl)) (fun _ _ => rfl)) (de_ix (kix K) og_ix (dv 1) de_int (fun _ _ => rfl)) (fun _ _ => rfl)))))⟩

abbrev n_Mender_cost_at : List Str := ["self", "at", "number", "place"]
theorem sc_Mender_cost_at : FnScope n_Mender_cost_at ["self", "at", "number"] (defScope s_Mender_cost_at) := ⟨rfl, rfl, rfl, by decide +kernel, rfl, by decide +kernel, by decide +kernel⟩
theorem ok_Mender_cost_at (T : Txt P w K mg) : FnOk P w K mg base (L2.CX P w) 4 T.Mender_cost_at.f T.Mender_cost_at.fd ["self", "at", "number"] (spD K mg 3 m_Mender_cost_at) := by
  refine fn_ok (N := n_Mender_cost_at) (fb := b_Mender_cost_at) (ws := [.fz, .fz, .fz, .fz]) T.Mender_cost_at.F sc_Mender_cost_at rfl rfl fun cdv A outer s H E hr => ⟨_, [.fz, .fz, .fz, .fz], (ds_cons (s_asg 3 sc_Mender_cost_at.nd (de_ix (kix K) og_ix (kfld K T.k_Counter (kfldq K T.k_Mender (dvq 0))) (dv 1) (fun _ _ => rfl)))
 (ds_one (d_ret (de_if (dt_cmp (kin K (r65 hr)) og_in (kown K mg (ok_tile_at T) (hr.mono (by decide)) (by rfl) T.tile_at.m T.tile_at.F.kp T.tile_at.b (passes_call (takes_of rfl rfl rfl rfl) (fun _ _ _ _ h => h)) (fun _ _ h => h) (da_cons (kfld K T.k_Mender (dvq 0)) (da_cons (dv 3) da_nil)) (args_lenS (args_lenS args_len0))) (de_tup (da_cons de_non (da_cons (dv 2) da_nil))) (by rfl)) de_int (kown K mg (ok_tile_at T) (hr.mono (by decide)) (by rfl) T.tile_at.m T.tile_at.F.kp T.tile_at.b (passes_call (takes_of rfl rfl rfl rfl) (fun _ _ _ _ h => h)) (fun _ _ h => h) (da_cons (kfld K T.k_Mender (dvq 0)) (da_cons (dv 3) da_nil)) (args_lenS (args_lenS args_len0)))))))⟩

abbrev n_Mender_reckoned : List Str := ["self", "at", "last", "rows", "number", "later", "least", "cost", "many"]
theorem sc_Mender_reckoned : FnScope n_Mender_reckoned ["self", "at", "last"] (defScope s_Mender_reckoned) := ⟨rfl, rfl, rfl, by decide +kernel, rfl, by decide +kernel, by decide +kernel⟩
theorem okS_Mender_reckoned (T : Txt P w K mg) {k kr : Nat} {rec : List D → R D} (Fr : FnOk P w K mg base (L2.CX P w) kr T.Mender_best.f T.Mender_best.fd ["self", "at", "last"] (spW P w K mg "Mender" gw_Mender 3 rec)) (hk : kr ≤ k) (hk2 : 4 ≤ k) : FnOk P w K mg base (L2.CX P w) (k + 1) T.Mender_reckoned.f T.Mender_reckoned.fd ["self", "at", "last"] (spW P w K mg "Mender" gw_Mender 3 (m_Mender_reckoned rec)) :=
  fn_okW (N := n_Mender_reckoned) (fb := b_Mender_reckoned rec) (ws := [.fz, .fz, .fz, .fz, .fz, .fz, .fz, .fz, .fz]) T.Mender_reckoned.F sc_Mender_reckoned rfl rfl fun hv cdv A outer s H E hr => ⟨_, [.fz, .fz, .fz, .fz, .fz, .fz, .fz, .fz, .fz], (ds_cons (s_new 3 sc_Mender_reckoned.nd (dn_lst da_nil))
 (ds_cons (d_for (ks := [4, 5]) (passes_of rfl) rfl (kseq K (kmeth K mg T.k_Counter (kfldq K T.k_Mender (dvq 0)) T.Counter_fitting.me (ok_Counter_fitting T) (hr.mono (Nat.le_trans (by decide) hk2)) T.Counter_fitting.b (passes_call (takes_of rfl rfl rfl rfl) (fun _ _ _ _ h => h)) (fun _ _ h => h) (daq_cons (deq_of (dv 1)) (daq_cons (deq_of (dv 2)) daq_nil)) (methA_len (args_lenS args_len0)))) (tgn 4 sc_Mender_reckoned.nd) (allFz_ok rfl)
  (ds_cons (s_asg 5 sc_Mender_reckoned.nd (kmethW K mg T.k_Mender hv (dvq 0) T.Mender_best.me Fr (hr.mono hk) T.Mender_best.b (passes_call (takes_of rfl rfl rfl rfl) (fun _ _ _ _ h => h)) (fun _ _ h => h) (daq_cons (deq_of (de_op (kadd K) og_add (dv 1) de_int)) (daq_cons (deq_of (kmeth K mg T.k_Counter (kfldq K T.k_Mender (dvq 0)) T.Counter_moved_on.me (ok_Counter_moved_on T) (hr.mono (Nat.le_trans (by decide) hk2)) T.Counter_moved_on.b (passes_call (takes_of rfl rfl rfl rfl) (fun _ _ _ _ h => h)) (fun _ _ h => h) (daq_cons (deq_of (dv 2)) (daq_cons (deq_of (dv 4)) daq_nil)) (methA_len (args_lenS args_len0)))) daq_nil)) (methA_len (args_lenS args_len0))))
 (ds_cons (d_if (dt_cmp op_notA og_notIs (dv 5) de_non (nomark _))
  (ds_cons (s_app 3 (de_tup (da_cons (de_op (kadd K) og_add (de_ix (kix K) og_ix (dv 5) de_int (fun _ _ => rfl)) (kmeth K mg T.k_Mender (dvq 0) T.Mender_cost_at.me (ok_Mender_cost_at T) (hr.mono (Nat.le_trans (by decide) hk2)) T.Mender_cost_at.b (passes_call (takes_of rfl rfl rfl rfl) (fun _ _ _ _ h => h)) (fun _ _ h => h) (daq_cons (deq_of (dv 1)) (daq_cons (deq_of (dv 4)) daq_nil)) (methA_len (args_lenS args_len0)))) (da_cons (de_ix (kix K) og_ix (dv 5) de_int (fun _ _ => rfl)) da_nil))))
 ds_nil)
  ds_nil)
 ds_nil)))
 (ds_cons (d_if (dt_cmp (keq K (r64 hr)) og_eq (dv 3) (de_new (dn_lst da_nil)) (nomark _))
  (ds_one (d_ret de_non))
  ds_nil)
 (ds_frz 3 rfl (ds_cons (s_asg 6 sc_Mender_reckoned.nd (de_ix (kix K) og_ix (de_callB (kminP K (r16 hr)) (cg_minP K) (by rfl) T.b_min (by decide +kernel) (da_cons (dv 3) da_nil)) de_int (fun _ _ => rfl)))
 (ds_one (d_ret (de_tup (da_cons (dv 6) (da_cons (de_callB (ksum K) cg_sum (by rfl) T.b_sum (by decide +kernel) (da_cons (de_new (dn_lc (own := [("cost", 7), ("many", 8)]) rfl sc_Mender_reckoned.nd (kseq K (dv 3)) (blkOk_by (own := [("cost", 7), ("many", 8)]) (N := n_Mender_reckoned) (sc := defScope s_Mender_reckoned) (by decide +kernel)) (fun _ _ _ _ _ => (ktg K [7, 8] rfl (pgs_cons (pgn 7 sc_Mender_reckoned.nd) (pgs_cons (pgn 8 sc_Mender_reckoned.nd) pgs_nil)))) (fun _ _ _ _ _ => (dts_one (dt_cmp (keq K (r64 hr)) og_eq (dv 7) (dv 6) (nomark _)))) (fun _ _ _ _ _ => (dv 8)))) da_nil)) da_nil))))))))))⟩

abbrev n_Mender_best : List Str := ["self", "at", "last"]
theorem sc_Mender_best : FnScope n_Mender_best ["self", "at", "last"] (defScope s_Mender_best) := ⟨rfl, rfl, rfl, by decide +kernel, rfl, by decide +kernel, by decide +kernel⟩
theorem okS_Mender (T : Txt P w K mg) {k kr : Nat} {rec : List D → R D} (Fr : FnOk P w K mg base (L2.CX P w) kr T.Mender_best.f T.Mender_best.fd ["self", "at", "last"] (spW P w K mg "Mender" gw_Mender 3 rec)) (hk : kr ≤ k) (hk2 : 4 ≤ k) (j : Nat) (hg : ∀ d0 k1 k2, condM "counter" "places" j d0 (.tuple [k1, k2]) = true → gwB_Mender rec d0 (.tuple [k1, k2]) = gw_Mender d0 (.tuple [k1, k2])) :
    FnOk P w K mg base (L2.CX P w) (k + 2) T.Mender_best.f T.Mender_best.fd ["self", "at", "last"] (spW P w K mg "Mender" gw_Mender 3 (wF_Mender gw_Mender j)) := by
  refine fn_okW (N := n_Mender_best) (fb := b_Mender_best gw_Mender j) (ws := [.fz, .fz, .fz]) T.Mender_best.F sc_Mender_best rfl rfl fun hv cdv A outer s H E hr => ⟨_, [.fz, .fz, .fz], (ds_cons (d_if (dt_cmp (keq K (r64 hr)) og_eq (dv 1) (de_callB (klen K) cg_len (by rfl) T.b_len (by decide +kernel) (da_cons (kfld K T.k_Counter (kfldq K T.k_Mender (dvq 0))) da_nil)) (nomark _))
  (ds_one (d_ret (de_tup (da_cons de_int (da_cons de_int da_nil)))))
  ds_nil)
 (ds_memo1 hv (T.k_Mender.fld (by decide +kernel)) hr.units (fun _ => pv 0) (fun _ => pv 1) (fun _ => pv 2)
 (kmethW K mg T.k_Mender hv (dvq 0) T.Mender_reckoned.me (okS_Mender_reckoned T Fr hk hk2) (hr.mono (Nat.le_refl _)) T.Mender_reckoned.b (passes_call (takes_of rfl rfl rfl rfl) (fun _ _ _ _ h => h)) (fun _ _ h => h) (daq_cons (deq_of (dv 1)) (daq_cons (deq_of (dv 2)) daq_nil)) (methA_len (args_lenS args_len0)))
 hg))⟩
theorem okJ_Mender (T : Txt P w K mg) : ∀ j, FnOk P w K mg base (L2.CX P w) (4 + 2 + 2 * j) T.Mender_best.f T.Mender_best.fd ["self", "at", "last"] (spW P w K mg "Mender" gw_Mender 3 (wF_Mender gw_Mender j))
  | 0 => okS_Mender T (k := 4) (kr := 0) FnOk.never (Nat.zero_le _) (Nat.le_refl _) 0 fun d0 k1 k2 h => by
    have e : fuelM "counter" "places" d0 k1 = 0 := by simpa [condM] using h
    simp only [gw_Mender, gwAllM, e]
    rfl
  | j + 1 => okS_Mender T (k := 4 + 2 + 2 * j) (okJ_Mender T j) (Nat.le_refl _) (by omega) (j + 1) fun d0 k1 k2 h => by
    have e : fuelM "counter" "places" d0 k1 = j + 1 := by simpa [condM] using h
    have e2 : wF_Mender gw_Mender j = wF_Mender (gwJ_Mender j) j := by
      unfold wF_Mender b_Mender_best gw_Mender
      rw [memo_fuelM]
    rw [e2]
    simp only [gw_Mender, gwAllM, e]
    rfl
theorem ok_Mender_best (T : Txt P w K mg) : FnOk P w K mg base (L2.CX P w) 24 T.Mender_best.f T.Mender_best.fd ["self", "at", "last"] (spW P w K mg "Mender" gw_Mender 3 m_Mender_best) :=
  FnOk.any (n := 9) (sp := fun j => spW P w K mg "Mender" gw_Mender 3 (wF_Mender gw_Mender j)) (fun j hj => (okJ_Mender T j).mono (by omega)) fun vs H Q E h => by
    obtain ⟨hl, M, F, ds, hv, wf, dq, p⟩ := h
    unfold m_Mender_best at p
    split at p
    · rename_i d0 k1 k2
      by_cases hf : fuelM "counter" "places" d0 k1 ≤ 9
      · rw [if_pos hf] at p
        exact ⟨_, hf, hl, M, F, _, hv, wf, dq, p⟩
      · rw [if_neg hf] at p
        exact p.elim
    · exact p.elim

abbrev n_size_of : List Str := ["floor"]
theorem sc_size_of : FnScope n_size_of ["floor"] (defScope s_size_of) := ⟨rfl, rfl, rfl, by decide +kernel, rfl, by decide +kernel, by decide +kernel⟩
theorem ok_size_of (T : Txt P w K mg) : FnOk P w K mg base (L2.CX P w) 1 T.size_of.f T.size_of.fd ["floor"] (spD K mg 1 m_size_of) := by
  refine fn_ok (N := n_size_of) (fb := b_size_of) (ws := [.fz]) T.size_of.F sc_size_of rfl rfl fun cdv A outer s H E hr => ⟨_, [.fz], (ds_one (d_ret (de_tup (da_cons (de_callB (klen K) cg_len (by rfl) T.b_len (by decide +kernel) (da_cons (dv 0) da_nil)) (da_cons (de_callB (klen K) cg_len (by rfl) T.b_len (by decide +kernel) (da_cons (de_ix (kix K) og_ix (dv 0) de_int (fun _ _ => rfl)) da_nil)) da_nil)))))⟩

abbrev n_Counter___init__ : List Str := ["self", "tiles", "floor"]
theorem sc_Counter___init__ : FnScope n_Counter___init__ ["self", "tiles", "floor"] (defScope s_Counter___init__) := ⟨rfl, rfl, rfl, by decide +kernel, rfl, by decide +kernel, by decide +kernel⟩
theorem ok_Counter___init__ (T : Txt P w K mg) : FnOk P w K mg base (L2.CX P w) 2 T.Counter___init__.f T.Counter___init__.fd ["self", "tiles", "floor"] (spI P w K T.k_Counter.C gI_Counter) :=
  init_ok (N := n_Counter___init__) T.Counter___init__.F sc_Counter___init__ rfl T.k_Counter.cl (fun f hf => T.k_Counter.na f hf) fun cdv A outer s H E hr => ⟨_, _, ps_init5 (kown K mg (ok_places_of T) (hr.mono (by decide)) (by rfl) T.places_of.m T.places_of.F.kp T.places_of.b pass_no (fun _ _ h => False.elim h) (da_cons (dv 2) da_nil) (args_lenS args_len0)) (de_ix (kix K) og_ix (kown K mg (ok_size_of T) (hr.mono (by decide)) (by rfl) T.size_of.m T.size_of.F.kp T.size_of.b pass_no (fun _ _ h => False.elim h) (da_cons (dv 2) da_nil) (args_lenS args_len0)) de_int (fun _ _ => rfl)) (fun _ => pv 0) (fun _ => pv 1) (fun _ => pv 2)⟩

abbrev n_empty : List Str := ["rows", "columns"]
theorem sc_empty : FnScope n_empty ["rows", "columns"] (defScope s_empty) := ⟨rfl, rfl, rfl, by decide +kernel, rfl, by decide +kernel, by decide +kernel⟩
theorem ok_empty (T : Txt P w K mg) : FnOk P w K mg base (L2.CX P w) 1 T.empty.f T.empty.fd ["rows", "columns"] (spD K mg 2 m_empty) := by
  refine fn_ok (N := n_empty) (fb := b_empty) (ws := [.fz, .fz]) T.empty.F sc_empty rfl rfl fun cdv A outer s H E hr => ⟨_, [.fz, .fz], (ds_one (d_ret (de_op (kmul K) og_mul (de_tup (da_cons (de_op (kmul K) og_mul (de_tup (da_cons de_non da_nil)) (dv 1)) da_nil)) (dv 0))))⟩

abbrev n_Mender___init__ : List Str := ["self", "tiles", "floor", "weights"]
theorem sc_Mender___init__ : FnScope n_Mender___init__ ["self", "tiles", "floor", "weights"] (defScope s_Mender___init__) := ⟨rfl, rfl, rfl, by decide +kernel, rfl, by decide +kernel, by decide +kernel⟩
theorem ok_Mender___init__ (T : Txt P w K mg) : FnOk P w K mg base (L2.CX P w) 4 T.Mender___init__.f T.Mender___init__.fd ["self", "tiles", "floor", "weights"] (spMk P w K "Mender" gw_Mender ["counter", "laid", "weights"] T.k_Mender.C new_Mender) :=
  init_okM (N := n_Mender___init__) (C2 := T.k_Counter.C) T.Mender___init__.F sc_Mender___init__ rfl T.k_Mender.cl (fun f hf => T.k_Mender.na f hf) (by decide +kernel) T.k_Mender.n T.k_Counter.n fun cdv A outer s H E hr => ⟨_, ps_initMk K mg T.k_Counter (MeI.mk0 T.k_Counter T.Counter___init__) (ok_Counter___init__ T) (hr.mono (by decide)) (by rfl) T.Counter___init__.b pass_no ((da_cons (dv 1) (da_cons (kown K mg (ok_empty T) (hr.mono (by decide)) (by rfl) T.empty.m T.empty.F.kp T.empty.b pass_no (fun _ _ h => False.elim h) (da_cons (de_callB (klen K) cg_len (by rfl) T.b_len (by decide +kernel) (da_cons (dv 2) da_nil)) (da_cons (de_callB (klen K) cg_len (by rfl) T.b_len (by decide +kernel) (da_cons (de_ix (kix K) og_ix (dv 2) de_int (fun _ _ => rfl)) da_nil)) da_nil)) (args_lenS (args_lenS args_len0))) da_nil))) (fun _ => pv 0) (fun _ => pv 2) (fun _ => pv 3)⟩

abbrev n_look_weights : List Str := ["floor", "weights"]
theorem sc_look_weights : FnScope n_look_weights ["floor", "weights"] (defScope s_look_weights) := ⟨rfl, rfl, rfl, by decide +kernel, rfl, by decide +kernel, by decide +kernel⟩
theorem ok_look_weights (T : Txt P w K mg) : FnOk P w K mg base (L2.CX P w) 2 T.look_weights.f T.look_weights.fd ["floor", "weights"] (spD K mg 2 m_look_weights) := by
  refine fn_ok (N := n_look_weights) (fb := b_look_weights) (ws := [.fz, .fz]) T.look_weights.F sc_look_weights rfl rfl fun cdv A outer s H E hr => ⟨_, [.fz, .fz], (ds_cons (d_if (dt_cmp (kne K (r64 hr)) og_ne (kown K mg (ok_size_of T) (hr.mono (by decide)) (by rfl) T.size_of.m T.size_of.F.kp T.size_of.b (passes_call (takes_of rfl rfl rfl rfl) (fun _ _ _ _ h => h)) (fun _ _ h => h) (da_cons (dv 1) da_nil) (args_lenS args_len0)) (kown K mg (ok_size_of T) (hr.mono (by decide)) (by rfl) T.size_of.m T.size_of.F.kp T.size_of.b (passes_call (takes_of rfl rfl rfl rfl) (fun _ _ _ _ h => h)) (fun _ _ h => h) (da_cons (dv 0) da_nil) (args_lenS args_len0)) (nomark _))
  (ds_one (d_raise rfl (takes_of rfl rfl rfl rfl) (T.x_Unlike.mk' (by rfl)) (fun _ _ h => h _ T.x_Unlike.g)))
  ds_nil)
 ds_nil)⟩

abbrev n_least_cost : List Str := ["tiles", "floor", "weights"]
theorem sc_least_cost : FnScope n_least_cost ["tiles", "floor", "weights"] (defScope s_least_cost) := ⟨rfl, rfl, rfl, by decide +kernel, rfl, by decide +kernel, by decide +kernel⟩
theorem ok_least_cost (T : Txt P w K mg) : FnOk P w K mg base (L2.CX P w) 25 T.least_cost.f T.least_cost.fd ["tiles", "floor", "weights"] (spD K mg 3 m_least_cost) := by
  refine fn_ok (N := n_least_cost) (fb := b_least_cost) (ws := [.fz, .fz, .fz]) T.least_cost.F sc_least_cost rfl rfl fun cdv A outer s H E hr => ⟨_, [.fz, .fz, .fz], (ds_cons (d_drop (kown K mg (ok_look_weights T) (hr.mono (by decide)) (by rfl) T.look_weights.m T.look_weights.F.kp T.look_weights.b (passes_call (takes_of rfl rfl rfl rfl) (fun _ _ _ _ h => h)) (fun _ _ h => h) (da_cons (dv 1) (da_cons (dv 2) da_nil)) (args_lenS (args_lenS args_len0))))
 (ds_one (d_ret (kmkmG K mg T.k_Mender (MeI.mk0 T.k_Mender T.Mender___init__) (ok_Mender___init__ T) (hr.mono (by decide)) (by rfl) T.Mender___init__.b pass_no (da_cons (dv 0) (da_cons (dv 1) (da_cons (dv 2) da_nil))) T.Mender_best.me (ok_Mender_best T) (hr.mono (by decide)) T.Mender_best.b (passes_call (takes_of rfl rfl rfl rfl) (fun _ _ _ _ h => h)) (fun _ _ h => h) (daq_cons (deq_of de_int) (daq_cons (deq_of (de_tup da_nil)) daq_nil)) (methA_len (args_lenS args_len0))))))⟩

abbrev n_Mender_way : List Str := ["self", "made", "last", "at", "least", "number", "later"]
theorem sc_Mender_way : FnScope n_Mender_way ["self"] (defScope s_Mender_way) := ⟨rfl, rfl, rfl, by decide +kernel, rfl, by decide +kernel, by decide +kernel⟩
theorem ok_Mender_way (T : Txt P w K mg) : FnOk P w K mg base (L2.CX P w) 25 T.Mender_way.f T.Mender_way.fd ["self"] (spW P w K mg "Mender" gw_Mender 1 m_Mender_way) := by
  refine fn_okW (N := n_Mender_way) (fb := b_Mender_way) (ws := [.fz, .fz, .fz, .fz, .fz, .fz, .fz]) T.Mender_way.F sc_Mender_way rfl rfl fun hv cdv A outer s H E hr => ⟨_, [.fz, .ls, .fz, .fz, .fz, .fz, .fz], (ds_cons (s_new 1 sc_Mender_way.nd (dn_lst da_nil))
 (ds_cons (s_asg 2 sc_Mender_way.nd (de_tup da_nil))
 (ds_cons (d_for (ks := [3, 4, 5, 6]) (passes_of rfl) rfl (di_range1 (by rfl) T.b_range (da_cons (de_callB (klen K) cg_len (by rfl) T.b_len (by decide +kernel) (da_cons (kfld K T.k_Counter (kfldq K T.k_Mender (dvq 0))) da_nil)) da_nil)) (tgn 3 sc_Mender_way.nd) (allFz_ok rfl)
  (ds_cons (s_asg 4 sc_Mender_way.nd (de_ix (kix K) og_ix (kmethW K mg T.k_Mender hv (dvq 0) T.Mender_best.me (ok_Mender_best T) (hr.mono (by decide)) T.Mender_best.b (passes_call (takes_of rfl rfl rfl rfl) (fun _ _ _ _ h => h)) (fun _ _ h => h) (daq_cons (deq_of (dv 3)) (daq_cons (deq_of (dv 2)) daq_nil)) (methA_len (args_lenS args_len0))) de_int (fun _ _ => rfl)))
 (ds_cons (d_for (ks := [5, 6]) (passes_of rfl) rfl (kseq K (kmeth K mg T.k_Counter (kfldq K T.k_Mender (dvq 0)) T.Counter_fitting.me (ok_Counter_fitting T) (hr.mono (by decide)) T.Counter_fitting.b (passes_call (takes_of rfl rfl rfl rfl) (fun _ _ _ _ h => h)) (fun _ _ h => h) (daq_cons (deq_of (dv 3)) (daq_cons (deq_of (dv 2)) daq_nil)) (methA_len (args_lenS args_len0)))) (tgn 5 sc_Mender_way.nd) (allFz_ok rfl)
  (ds_cons (s_asg 6 sc_Mender_way.nd (kmethW K mg T.k_Mender hv (dvq 0) T.Mender_best.me (ok_Mender_best T) (hr.mono (by decide)) T.Mender_best.b (passes_call (takes_of rfl rfl rfl rfl) (fun _ _ _ _ h => h)) (fun _ _ h => h) (daq_cons (deq_of (de_op (kadd K) og_add (dv 3) de_int)) (daq_cons (deq_of (kmeth K mg T.k_Counter (kfldq K T.k_Mender (dvq 0)) T.Counter_moved_on.me (ok_Counter_moved_on T) (hr.mono (by decide)) T.Counter_moved_on.b (passes_call (takes_of rfl rfl rfl rfl) (fun _ _ _ _ h => h)) (fun _ _ h => h) (daq_cons (deq_of (dv 2)) (daq_cons (deq_of (dv 5)) daq_nil)) (methA_len (args_lenS args_len0)))) daq_nil)) (methA_len (args_lenS args_len0))))
 (ds_cons (d_if (dw_pt (dw_and (dt_cmp (keq K (r64 hr)) og_eq (de_callB (klen K) cg_len (by rfl) T.b_len (by decide +kernel) (da_cons (dv 1) da_nil)) (dv 3) (nomark _)) (dw_and (dt_cmp op_notA og_notIs (dv 6) de_non (nomark _)) (dw_and1 (dt_cmp (keq K (r64 hr)) og_eq (de_op (kadd K) og_add (de_ix (kix K) og_ix (dv 6) de_int (fun _ _ => rfl)) (kmeth K mg T.k_Mender (dvq 0) T.Mender_cost_at.me (ok_Mender_cost_at T) (hr.mono (by decide)) T.Mender_cost_at.b (passes_call (takes_of rfl rfl rfl rfl) (fun _ _ _ _ h => h)) (fun _ _ h => h) (daq_cons (deq_of (dv 3)) (daq_cons (deq_of (dv 5)) daq_nil)) (methA_len (args_lenS args_len0)))) (dv 4) (nomark _))))))
  (ds_cons (s_app 1 (dv 5))
 ds_nil)
  ds_nil)
 ds_nil)))
 (ds_cons (s_asgB 2 sc_Mender_way.nd (kmeth K mg T.k_Counter (kfldq K T.k_Mender (dvq 0)) T.Counter_moved_on.me (ok_Counter_moved_on T) (hr.mono (by decide)) T.Counter_moved_on.b (passes_call (takes_of rfl rfl rfl rfl) (fun _ _ _ _ h => h)) (fun _ _ h => h) (daq_cons (deq_of (dv 2)) (daq_cons (deq_of (de_ix (kix K) og_ix (dv 1) (de_neg de_int) (fun _ _ => rfl))) daq_nil)) (methA_len (args_lenS args_len0))))
 ds_nil))))
 (ds_one (s_retO 1)))))⟩

abbrev n_as_floor : List Str := ["numbers", "columns", "begin"]
theorem sc_as_floor : FnScope n_as_floor ["numbers", "columns"] (defScope s_as_floor) := ⟨rfl, rfl, rfl, by decide +kernel, rfl, by decide +kernel, by decide +kernel⟩
theorem ok_as_floor (T : Txt P w K mg) : FnOk P w K mg base (L2.CX P w) 1 T.as_floor.f T.as_floor.fd ["numbers", "columns"] (spD K mg 2 m_as_floor) := by
  refine fn_ok (N := n_as_floor) (fb := b_as_floor) (ws := [.fz, .fz, .fz]) T.as_floor.F sc_as_floor rfl rfl fun cdv A outer s H E hr => ⟨_, [.fz, .fz, .fz], (ds_one (d_ret (de_callTy (ktup K) cg_tuple (by rfl) T.b_tuple (by decide +kernel) (da_cons (de_new (dn_lc (own := [("begin", 2)]) rfl sc_as_floor.nd (di_range3 (by rfl) T.b_range (da_cons de_int (da_cons (de_callB (klen K) cg_len (by rfl) T.b_len (by decide +kernel) (da_cons (dv 0) da_nil)) (da_cons (dv 1) da_nil)))) (blkOk_by (own := [("begin", 2)]) (N := n_as_floor) (sc := defScope s_as_floor) (by decide +kernel)) (fun _ _ _ _ _ => (tgn 2 sc_as_floor.nd)) (fun _ _ _ _ _ => dts_nil) (fun _ _ _ _ _ => (de_callTy (ktup K) cg_tuple (by rfl) T.b_tuple (by decide +kernel) (da_cons (ksl K (dv 0) (do_some (dv 2)) (do_some (de_op (kadd K) og_add (dv 2) (dv 1)))) da_nil))))) da_nil))))⟩

abbrev n_mended : List Str := ["tiles", "floor", "weights", "mender"]
theorem sc_mended : FnScope n_mended ["tiles", "floor", "weights"] (defScope s_mended) := ⟨rfl, rfl, rfl, by decide +kernel, rfl, by decide +kernel, by decide +kernel⟩
theorem ok_mended (T : Txt P w K mg) : FnOk P w K mg base (L2.CX P w) 26 T.mended.f T.mended.fd ["tiles", "floor", "weights"] (spD K mg 3 m_mended) := by
  refine fn_ok (N := n_mended) (fb := b_mended) (ws := [.fz, .fz, .fz, .fz]) T.mended.F sc_mended rfl rfl fun cdv A outer s H E hr => ⟨_, [.fz, .fz, .fz, .fz], (ds_cons (d_drop (kown K mg (ok_look_weights T) (hr.mono (by decide)) (by rfl) T.look_weights.m T.look_weights.F.kp T.look_weights.b (passes_call (takes_of rfl rfl rfl rfl) (fun _ _ _ _ h => h)) (fun _ _ h => h) (da_cons (dv 1) (da_cons (dv 2) da_nil)) (args_lenS (args_lenS args_len0))))
 (kds_mkG K mg 3 (G := gw_Mender) T.k_Mender (MeI.mk0 T.k_Mender T.Mender___init__) (ok_Mender___init__ T) (hr.mono (by decide)) (by rfl) T.Mender___init__.b pass_no sc_mended.nd (da_cons (dv 0) (da_cons (dv 1) (da_cons (dv 2) da_nil))) (fun hv =>
 (ds_cons (d_if (dt_cmp op_isA og_is (kmethW K mg T.k_Mender hv (dvq 3) T.Mender_best.me (ok_Mender_best T) (hr.mono (by decide)) T.Mender_best.b (passes_call (takes_of rfl rfl rfl rfl) (fun _ _ _ _ h => h)) (fun _ _ h => h) (daq_cons (deq_of de_int) (daq_cons (deq_of (de_tup da_nil)) daq_nil)) (methA_len (args_lenS args_len0))) de_non (nomark _))
  (ds_one (d_raise rfl (takes_of rfl rfl rfl rfl) (T.x_NoFill.mk' (by rfl)) (fun _ _ h => h _ T.x_NoFill.g)))
  ds_nil)
 (ds_one (d_ret (kown K mg (ok_as_floor T) (hr.mono (by decide)) (by rfl) T.as_floor.m T.as_floor.F.kp T.as_floor.b (passes_call (takes_of rfl rfl rfl rfl) (fun _ _ _ _ h => h)) (fun _ _ h => h) (da_cons (kmethW0 K mg T.k_Mender hv (dvq 3) T.Mender_way.me (ok_Mender_way T) (hr.mono (by decide)) T.Mender_way.b (passes_call (takes_of rfl rfl rfl rfl) (fun _ _ _ _ h => h)) (fun _ _ h => h)) (da_cons (de_callB (klen K) cg_len (by rfl) T.b_len (by decide +kernel) (da_cons (de_ix (kix K) og_ix (dv 1) de_int (fun _ _ => rfl)) da_nil)) da_nil)) (args_lenS (args_lenS args_len0)))))))))⟩

abbrev n_cost_of : List Str := ["floor", "weights", "whole", "changed", "place"]
theorem sc_cost_of : FnScope n_cost_of ["floor", "weights", "whole"] (defScope s_cost_of) := ⟨rfl, rfl, rfl, by decide +kernel, rfl, by decide +kernel, by decide +kernel⟩
theorem ok_cost_of (T : Txt P w K mg) : FnOk P w K mg base (L2.CX P w) 4 T.cost_of.f T.cost_of.fd ["floor", "weights", "whole"] (spD K mg 3 m_cost_of) := by
  refine fn_ok (N := n_cost_of) (fb := b_cost_of) (ws := [.fz, .fz, .fz, .fz, .fz]) T.cost_of.F sc_cost_of rfl rfl fun cdv A outer s H E hr => ⟨_, [.fz, .fz, .fz, .fz, .fz], (ds_cons (d_drop (kown K mg (ok_look_weights T) (hr.mono (by decide)) (by rfl) T.look_weights.m T.look_weights.F.kp T.look_weights.b (passes_call (takes_of rfl rfl rfl rfl) (fun _ _ _ _ h => h)) (fun _ _ h => h) (da_cons (dv 0) (da_cons (dv 1) da_nil)) (args_lenS (args_lenS args_len0))))
 (ds_cons (d_if (dt_cmp (kne K (r64 hr)) og_ne (kown K mg (ok_size_of T) (hr.mono (by decide)) (by rfl) T.size_of.m T.size_of.F.kp T.size_of.b (passes_call (takes_of rfl rfl rfl rfl) (fun _ _ _ _ h => h)) (fun _ _ h => h) (da_cons (dv 2) da_nil) (args_lenS args_len0)) (kown K mg (ok_size_of T) (hr.mono (by decide)) (by rfl) T.size_of.m T.size_of.F.kp T.size_of.b (passes_call (takes_of rfl rfl rfl rfl) (fun _ _ _ _ h => h)) (fun _ _ h => h) (da_cons (dv 0) da_nil) (args_lenS args_len0)) (nomark _))
  (ds_one (d_raise rfl (takes_of rfl rfl rfl rfl) (T.x_Unlike.mk' (by rfl)) (fun _ _ h => h _ T.x_Unlike.g)))
  ds_nil)
 (ds_cons (d_asgLc (i := 3) (ps_lc (i := 3) (own := [("place", 4)]) rfl sc_cost_of.nd rfl rfl (sw_true rfl rfl rfl (by decide +kernel)) (kseq K (kown K mg (ok_places_of T) (hr.mono (by decide)) (by rfl) T.places_of.m T.places_of.F.kp T.places_of.b (passes_call (takes_of rfl rfl rfl rfl) (fun _ _ _ _ h => h)) (fun _ _ h => h) (da_cons (dv 0) da_nil) (args_lenS args_len0))) (blkOk_by (own := [("place", 4)]) (N := n_cost_of) (sc := defScope s_cost_of) (by decide +kernel)) (fun _ _ _ _ _ => (tgn 4 sc_cost_of.nd)) (fun _ _ _ _ _ => (dts_one (dt_cmp (knin K (r65 hr)) og_notIn (kown K mg (ok_tile_at T) (hr.mono (by decide)) (by rfl) T.tile_at.m T.tile_at.F.kp T.tile_at.b pass_no (fun _ _ h => False.elim h) (da_cons (dv 0) (da_cons (dv 4) da_nil)) (args_lenS (args_lenS args_len0))) (de_tup (da_cons de_non (da_cons (kown K mg (ok_tile_at T) (hr.mono (by decide)) (by rfl) T.tile_at.m T.tile_at.F.kp T.tile_at.b pass_no (fun _ _ h => False.elim h) (da_cons (dv 2) (da_cons (dv 4) da_nil)) (args_lenS (args_lenS args_len0))) da_nil))) (by rfl)))) (fun _ _ _ _ _ => (dv 4))))
 (ds_one (d_ret (de_callB (ksum K) cg_sum (by rfl) T.b_sum (by decide +kernel) (da_cons (de_new (dn_lc (own := [("place", 4)]) rfl sc_cost_of.nd (kseq K (dv 3)) (blkOk_by (own := [("place", 4)]) (N := n_cost_of) (sc := defScope s_cost_of) (by decide +kernel)) (fun _ _ _ _ _ => (tgn 4 sc_cost_of.nd)) (fun _ _ _ _ _ => dts_nil) (fun _ _ _ _ _ => (kown K mg (ok_tile_at T) (hr.mono (by decide)) (by rfl) T.tile_at.m T.tile_at.F.kp T.tile_at.b pass_no (fun _ _ h => False.elim h) (da_cons (dv 1) (da_cons (dv 4) da_nil)) (args_lenS (args_lenS args_len0)))))) da_nil)))))))⟩

abbrev n_l_do : List Str := ["_law_what", "_law_tiles_here", "_law_floor_here", "_law_weights", "_law_whole", "_law_kept", "_law_answer", "e"]
theorem sc_l_do : FnScope n_l_do ["_law_what", "_law_tiles_here", "_law_floor_here", "_law_weights", "_law_whole"] (defScope s_l_do) := ⟨rfl, rfl, rfl, by decide +kernel, rfl, by decide +kernel, by decide +kernel⟩
theorem ok_l_do (T : Txt P w K mg) : FnOk P w K mg base (L2.CX P w) 27 T.l_do.f T.l_do.fd ["_law_what", "_law_tiles_here", "_law_floor_here", "_law_weights", "_law_whole"] (spD K mg 5 m_l_do) := by
  refine fn_ok (N := n_l_do) (fb := b_l_do) (ws := [.fz, .fz, .fz, .fz, .fz, .fz, .fz, .fz]) T.l_do.F sc_l_do rfl rfl fun cdv A outer s H E hr => ⟨_, [.fz, .fz, .fz, .fz, .fz, .fz, .fz, .fz], (ds_cons (s_asg 5 sc_l_do.nd de_non)
 (ds_cons (s_asg 6 sc_l_do.nd de_non)
 (ds_cons (d_tryB (ia := 6) (ie := 7) (ik := 5) rfl rfl rfl sc_l_do.nd (T.p_FloorError.names (by rfl)) (cau_cons T.p_FloorError T.w_NoFill T.s_NoFill_FloorError (cau_cons T.p_FloorError T.w_NoPlace T.s_NoPlace_FloorError (cau_cons T.p_FloorError T.w_Unlike T.s_Unlike_FloorError cau_nil))) (dkb_if (fun pn xe => (dt_cmp (keq K (r64 hr)) og_eq (dv 0) de_int (nomark _))) (dkb_asg sc_l_do.nd rfl (.inl rfl) (kdk K mg (ok_least_cost T) (hr.mono (by decide)) (by rfl) T.least_cost.m T.least_cost.F.kp T.least_cost.b (fun pn xe => (daq_cons (deq_of (dv 1)) (daq_cons (deq_of (dv 2)) (daq_cons (deq_of (dv 3)) daq_nil)))) (args_lenS (args_lenS (args_lenS args_len0))))) (dkb_if (fun pn xe => (dt_cmp (keq K (r64 hr)) og_eq (dv 0) de_int (nomark _))) (dkb_asg sc_l_do.nd rfl (.inl rfl) (kdk K mg (ok_mended T) (hr.mono (by decide)) (by rfl) T.mended.m T.mended.F.kp T.mended.b (fun pn xe => (daq_cons (deq_of (dv 1)) (daq_cons (deq_of (dv 2)) (daq_cons (deq_of (dv 3)) daq_nil)))) (args_lenS (args_lenS (args_lenS args_len0))))) (dkb_asg sc_l_do.nd rfl (.inl rfl) (kdk K mg (ok_cost_of T) (hr.mono (by decide)) (by rfl) T.cost_of.m T.cost_of.F.kp T.cost_of.b (fun pn xe => (daq_cons (deq_of (dv 2)) (daq_cons (deq_of (dv 3)) (daq_cons (deq_of (dv 4)) daq_nil)))) (args_lenS (args_lenS (args_lenS args_len0))))))) rfl rfl rfl (.inl rfl) (.inl rfl) (fun i => fzAll_ok (by rfl) i) (by decide))
 (ds_cons (d_if (dt_isN (dvq 5))
  (ds_one (d_ret (dv 6)))
  ds_nil)
 (ds_one (d_ret (kownq K mg (ok_l_word T) (hr.mono (by decide)) (by rfl) T.l_word.m T.l_word.F.kp T.l_word.b (passes_call (takes_of rfl rfl rfl rfl) (fun _ _ _ _ h => h)) (fun _ _ h => h) (daq_cons (dvq 5) daq_nil) (args_lenS args_len0))))))))⟩

abbrev n_l_as_floor : List Str := ["_law_numbers", "_law_columns", "_law_begin"]
theorem sc_l_as_floor : FnScope n_l_as_floor ["_law_numbers", "_law_columns"] (defScope s_l_as_floor) := ⟨rfl, rfl, rfl, by decide +kernel, rfl, by decide +kernel, by decide +kernel⟩
theorem ok_l_as_floor (T : Txt P w K mg) : FnOk P w K mg base (L2.CX P w) 1 T.l_as_floor.f T.l_as_floor.fd ["_law_numbers", "_law_columns"] (spD K mg 2 m_l_as_floor) := by
  refine fn_ok (N := n_l_as_floor) (fb := b_l_as_floor) (ws := [.fz, .fz, .fz]) T.l_as_floor.F sc_l_as_floor rfl rfl fun cdv A outer s H E hr => ⟨_, [.fz, .fz, .fz], (ds_one (d_ret (de_callTy (ktup K) cg_tuple (by rfl) T.b_tuple (by decide +kernel) (da_cons (de_new (dn_lc (own := [("_law_begin", 2)]) rfl sc_l_as_floor.nd (di_range3 (by rfl) T.b_range (da_cons de_int (da_cons (de_callB (klen K) cg_len (by rfl) T.b_len (by decide +kernel) (da_cons (dv 0) da_nil)) (da_cons (dv 1) da_nil)))) (blkOk_by (own := [("_law_begin", 2)]) (N := n_l_as_floor) (sc := defScope s_l_as_floor) (by decide +kernel)) (fun _ _ _ _ _ => (tgn 2 sc_l_as_floor.nd)) (fun _ _ _ _ _ => dts_nil) (fun _ _ _ _ _ => (de_callTy (ktup K) cg_tuple (by rfl) T.b_tuple (by decide +kernel) (da_cons (ksl K (dv 0) (do_some (dv 2)) (do_some (de_op (kadd K) og_add (dv 2) (dv 1)))) da_nil))))) da_nil))))⟩

abbrev n_l_cost : List Str := ["_law_floor_here", "_law_weights", "_law_whole", "_law_cost_here", "_law_mine", "_law_heavy", "_law_yours", "_law_a", "_law_w", "_law_b"]
theorem sc_l_cost : FnScope n_l_cost ["_law_floor_here", "_law_weights", "_law_whole"] (defScope s_l_cost) := ⟨rfl, rfl, rfl, by decide +kernel, rfl, by decide +kernel, by decide +kernel⟩
theorem ok_l_cost (T : Txt P w K mg) : FnOk P w K mg base (L2.CX P w) 1 T.l_cost.f T.l_cost.fd ["_law_floor_here", "_law_weights", "_law_whole"] (spD K mg 3 m_l_cost) := by
  refine fn_ok (N := n_l_cost) (fb := b_l_cost) (ws := [.fz, .fz, .fz, .fz, .fz, .fz, .fz, .fz, .fz, .fz]) T.l_cost.F sc_l_cost rfl rfl fun cdv A outer s H E hr => ⟨_, [.fz, .fz, .fz, .fz, .fz, .fz, .fz, .fz, .fz, .fz], (ds_cons (s_asg 3 sc_l_cost.nd de_int)
 (ds_cons (d_for (ks := [4, 5, 6]) (passes_of rfl) rfl (kzip3 K (by rfl) T.b_zip (da_cons (dv 0) (da_cons (dv 1) (da_cons (dv 2) da_nil)))) (ktg K [4, 5, 6] rfl (pgs_cons (pgn 4 sc_l_cost.nd) (pgs_cons (pgn 5 sc_l_cost.nd) (pgs_cons (pgn 6 sc_l_cost.nd) pgs_nil)))) (allFz_ok rfl)
  (ds_cons (s_asg 3 sc_l_cost.nd (de_op (kadd K) og_add (dv 3) (de_callB (ksum K) cg_sum (by rfl) T.b_sum (by decide +kernel) (da_cons (de_new (dn_lc (own := [("_law_a", 7), ("_law_w", 8), ("_law_b", 9)]) rfl sc_l_cost.nd (kzip3 K (by rfl) T.b_zip (da_cons (dv 4) (da_cons (dv 5) (da_cons (dv 6) da_nil)))) (blkOk_by (own := [("_law_a", 7), ("_law_w", 8), ("_law_b", 9)]) (N := n_l_cost) (sc := defScope s_l_cost) (by decide +kernel)) (fun _ _ _ _ _ => (ktg K [7, 8, 9] rfl (pgs_cons (pgn 7 sc_l_cost.nd) (pgs_cons (pgn 8 sc_l_cost.nd) (pgs_cons (pgn 9 sc_l_cost.nd) pgs_nil))))) (fun _ _ _ _ _ => (dts_one (dw_pt (dw_and (dt_cmp op_notA og_notIs (dv 7) de_non (nomark _)) (dw_and1 (dt_cmp (kne K (r64 hr)) og_ne (dv 7) (dv 9) (nomark _))))))) (fun _ _ _ _ _ => (dv 8)))) da_nil))))
 ds_nil))
 (ds_one (d_ret (dv 3)))))⟩

abbrev n_l_fills : List Str := ["_law_tiles_here", "_law_floor_here", "_law_columns", "_law_wanted", "_law_row", "_law_made", "_law_at", "_law_want", "_law_longer", "_law_some", "_law_number", "_law_tile", "_law_is_fit"]
theorem sc_l_fills : FnScope n_l_fills ["_law_tiles_here", "_law_floor_here"] (defScope s_l_fills) := ⟨rfl, rfl, rfl, by decide +kernel, rfl, by decide +kernel, by decide +kernel⟩
theorem ok_l_fills (T : Txt P w K mg) : FnOk P w K mg base (L2.CX P w) 1 T.l_fills.f T.l_fills.fd ["_law_tiles_here", "_law_floor_here"] (spD K mg 2 m_l_fills) := by
  refine fn_ok (N := n_l_fills) (fb := b_l_fills) (ws := [.fz, .fz, .fz, .fz, .fz, .fz, .fz, .fz, .fz, .fz, .fz, .fz, .fz]) T.l_fills.F sc_l_fills rfl rfl fun cdv A outer s H E hr => ⟨_, [.fz, .fz, .fz, .fz, .fz, .fz, .fz, .fz, .fz, .fz, .fz, .fz, .fz], (ds_cons (s_asg 2 sc_l_fills.nd (de_callB (klen K) cg_len (by rfl) T.b_len (by decide +kernel) (da_cons (de_ix (kix K) og_ix (dv 1) de_int (fun _ _ => rfl)) da_nil)))
 (ds_cons (s_new 3 sc_l_fills.nd (dn_lst da_nil))
 (ds_cons (d_for (ks := [4]) (passes_of rfl) rfl (kseq K (dv 1)) (tgn 4 sc_l_fills.nd) (allFz_ok rfl)
  (ds_cons (s_ext 3 (klist K (by rfl) T.b_list (by decide +kernel) (da_cons (dv 4) da_nil)))
 ds_nil))
 (ds_cons (s_asg 5 sc_l_fills.nd (de_new (dn_lst (da_cons (de_tup da_nil) da_nil))))
 (ds_frz 3 rfl (ds_cons (d_for (ks := [6, 7, 8, 9, 10, 11, 12]) (passes_of rfl) rfl (kenum K (by rfl) T.b_enumerate (da_cons (dv 3) da_nil)) (ktg K [6, 7] rfl (pgs_cons (pgn 6 sc_l_fills.nd) (pgs_cons (pgn 7 sc_l_fills.nd) pgs_nil))) (allFz_ok rfl)
  (ds_cons (s_new 8 sc_l_fills.nd (dn_lst da_nil))
 (ds_cons (d_for (ks := [9, 10, 11, 12]) (passes_of rfl) rfl (kseq K (dv 5)) (tgn 9 sc_l_fills.nd) (allFz_ok rfl)
  (ds_cons (d_for (ks := [10, 11, 12]) (passes_of rfl) rfl (kenum K (by rfl) T.b_enumerate (da_cons (dv 0) da_nil)) (ktg K [10, 11] rfl (pgs_cons (pgn 10 sc_l_fills.nd) (pgs_cons (pgn 11 sc_l_fills.nd) pgs_nil))) (allFz_ok rfl)
  (ds_cons (s_asg 12 sc_l_fills.nd (de_cmp (kin K (r65 hr)) og_in (dv 7) (de_tup (da_cons de_non (da_cons (dv 10) da_nil))) (by rfl)))
 (ds_cons (d_if (dw_pt (dw_and (dt_cmp op_gt og_ints (de_op op_mod og_mod (dv 6) (dv 2)) de_int (nomark _)) (dw_and1 (dt_cmp (kne K (r64 hr)) og_ne (de_ix (kix K) og_ix (de_ix (kix K) og_ix (dv 0) (de_ix (kix K) og_ix (dv 9) (de_neg de_int) (fun _ _ => rfl)) (fun _ _ => rfl)) de_int (fun _ _ => rfl)) (de_ix (kix K) og_ix (dv 11) de_int (fun _ _ => rfl)) (nomark _)))))
  (ds_cons (s_asg 12 sc_l_fills.nd de_bl)
 ds_nil)
  ds_nil)
 (ds_cons (d_if (dw_pt (dw_and (dt_cmp op_ge og_ints (dv 6) (dv 2) (nomark _)) (dw_and1 (dt_cmp (kne K (r64 hr)) og_ne (de_ix (kix K) og_ix (de_ix (kix K) og_ix (dv 0) (de_ix (kix K) og_ix (dv 9) (de_op op_sub og_sub (dv 6) (dv 2)) (fun _ _ => rfl)) (fun _ _ => rfl)) de_int (fun _ _ => rfl)) (de_ix (kix K) og_ix (dv 11) de_int (fun _ _ => rfl)) (nomark _)))))
  (ds_cons (s_asg 12 sc_l_fills.nd de_bl)
 ds_nil)
  ds_nil)
 (ds_cons (d_if (dt_val (dv 12))
  (ds_cons (s_app 8 (de_op (kadd K) og_add (dv 9) (de_tup (da_cons (dv 10) da_nil))))
 ds_nil)
  ds_nil)
 ds_nil)))))
 ds_nil))
 (ds_frz 8 rfl (ds_cons (s_asg 5 sc_l_fills.nd (dv 8))
 ds_nil)))))
 (ds_one (d_ret (dv 5)))))))))⟩

def bf_law : SF :=
 seqS (asgS [.fz, .fz, .fz, .fz, .fz, .fz, .fz, .fz, .fz, .fz, .fz, .fz, .fz, .fz, .fz, .fz, .fz] 1 (ownE m_l_tiles (consA (vE 0) (consA (cE (.int 0)) (consA (cE (.int 4)) (nilA))))))
 (seqS (tupS [.fz, .fz, .fz, .fz, .fz, .fz, .fz, .fz, .fz, .fz, .fz, .fz, .fz, .fz, .fz, .fz, .fz] (ownE m_l_sides (consA (vE 0) (consA (cE (.int 90)) (nilA)))) (tgT [2, 3]))
 (seqS (asgS [.fz, .fz, .fz, .fz, .fz, .fz, .fz, .fz, .fz, .fz, .fz, .fz, .fz, .fz, .fz, .fz, .fz] 4 (ownE m_l_floor (consA (vE 0) (consA (cE (.int 100)) (consA (vE 1) (consA (vE 2) (consA (vE 3) (consA (op2E addD (cE (.int 1)) (ownE m_l_pick (consA (vE 0) (consA (cE (.int 91)) (consA (cE (.int 2)) (nilA)))))) (nilA)))))))))
 (seqS (asgS [.fz, .fz, .fz, .fz, .fz, .fz, .fz, .fz, .fz, .fz, .fz, .fz, .fz, .fz, .fz, .fz, .fz] 5 (callE tupleD (consA (lstE (compE (rangeI range1D (consA (vE 2) (nilA))) (tgN 6) (cE true) (callE tupleD (consA (lstE (compE (rangeI range1D (consA (vE 3) (nilA))) (tgN 7) (cE true) (ownE m_l_pick (consA (vE 0) (consA (op2E addD (op2E addD (cE (.int 200)) (op2E mulD (cE (.int 7)) (vE 6))) (vE 7)) (consA (cE (.int 5)) (nilA))))) [7])) (nilA))) [6])) (nilA))))
 (seqS (asgS [.fz, .fz, .fz, .fz, .fz, .fz, .fz, .fz, .fz, .fz, .fz, .fz, .fz, .fz, .fz, .fz, .fz] 8 (lstE (compE (seqI (ownE m_l_fills (consA (vE 1) (consA (op2E mulD (tupE (consA (op2E mulD (tupE (consA (cE .none) (nilA))) (vE 3)) (nilA))) (vE 2)) (nilA))))) (tgN 9) (cE true) (ownE m_l_as_floor (consA (vE 9) (consA (vE 3) (nilA)))) [9])))
 (seqS (asgS [.fz, .fz, .fz, .fz, .fz, .fz, .fz, .fz, .fz, .fz, .fz, .fz, .fz, .fz, .fz, .fz, .fz] 10 (lstE (compE (seqI (vE 8)) (tgN 11) (cE true) (ownE m_l_cost (consA (vE 4) (consA (vE 5) (consA (vE 11) (nilA))))) [11])))
 (seqS (asgS [.fz, .fz, .fz, .fz, .fz, .fz, .fz, .fz, .fz, .fz, .fz, .fz, .fz, .fz, .fz, .fz, .fz] 12 (ifE (testE (op2E (eqD) (vE 10) (lstE (smallA (nilA))))) (cE .none) (tupE (consA (callE minLD (consA (vE 10) (nilA))) (consA (lmE countD (vE 10) (callE minLD (consA (vE 10) (nilA)))) (nilA))))))
 (seqS (ifS [.fz, .fz, .fz, .fz, .fz, .fz, .fz, .fz, .fz, .fz, .fz, .fz, .fz, .fz, .fz, .fz, .fz] (testE (op2E (neD) (ownE m_l_do (consA (cE (.int 0)) (consA (vE 1) (consA (vE 4) (consA (vE 5) (consA (cE .none) (nilA))))))) (vE 12)))
  (retS [.fz, .fz, .fz, .fz, .fz, .fz, .fz, .fz, .fz, .fz, .fz, .fz, .fz, .fz, .fz, .fz, .fz] (cE (.bool false)))
  (nxS))
 (seqS (asgS [.fz, .fz, .fz, .fz, .fz, .fz, .fz, .fz, .fz, .fz, .fz, .fz, .fz, .fz, .fz, .fz, .fz] 13 (ownE m_l_do (consA (cE (.int 1)) (consA (vE 1) (consA (vE 4) (consA (vE 5) (consA (cE .none) (nilA))))))))
 (seqS (ifS [.fz, .fz, .fz, .fz, .fz, .fz, .fz, .fz, .fz, .fz, .fz, .fz, .fz, .fz, .fz, .fz, .fz] (andT (testE (op2E (isD) (vE 12) (cE .none))) (testE (op2E (neD) (vE 13) (cE (.str "no fill")))))
  (retS [.fz, .fz, .fz, .fz, .fz, .fz, .fz, .fz, .fz, .fz, .fz, .fz, .fz, .fz, .fz, .fz, .fz] (cE (.bool false)))
  (nxS))
 (seqS (ifS [.fz, .fz, .fz, .fz, .fz, .fz, .fz, .fz, .fz, .fz, .fz, .fz, .fz, .fz, .fz, .fz, .fz] (andT (testE (op2E (notIsD) (vE 12) (cE .none))) (orT (testE (op2E (notInE) (vE 13) (vE 8))) (testE (op2E (neD) (ownE m_l_cost (consA (vE 4) (consA (vE 5) (consA (vE 13) (nilA))))) (op2E ixD (vE 12) (cE (.int 0)))))))
  (retS [.fz, .fz, .fz, .fz, .fz, .fz, .fz, .fz, .fz, .fz, .fz, .fz, .fz, .fz, .fz, .fz, .fz] (cE (.bool false)))
  (nxS))
 (seqS (asgS [.fz, .fz, .fz, .fz, .fz, .fz, .fz, .fz, .fz, .fz, .fz, .fz, .fz, .fz, .fz, .fz, .fz] 14 (ownE m_l_floor (consA (vE 0) (consA (cE (.int 300)) (consA (vE 1) (consA (vE 2) (consA (vE 3) (consA (cE (.int 1)) (nilA)))))))))
 (seqS (ifS [.fz, .fz, .fz, .fz, .fz, .fz, .fz, .fz, .fz, .fz, .fz, .fz, .fz, .fz, .fz, .fz, .fz] (testE (op2E (neD) (ownE m_l_do (consA (cE (.int 2)) (consA (vE 1) (consA (vE 4) (consA (vE 5) (consA (vE 14) (nilA))))))) (ownE m_l_cost (consA (vE 4) (consA (vE 5) (consA (vE 14) (nilA)))))))
  (retS [.fz, .fz, .fz, .fz, .fz, .fz, .fz, .fz, .fz, .fz, .fz, .fz, .fz, .fz, .fz, .fz, .fz] (cE (.bool false)))
  (nxS))
 (seqS (asgS [.fz, .fz, .fz, .fz, .fz, .fz, .fz, .fz, .fz, .fz, .fz, .fz, .fz, .fz, .fz, .fz, .fz] 15 (op2E addD (vE 5) (sliceE (vE 5) (noO) (partO (cE (.int 1))))))
 (seqS (ifS [.fz, .fz, .fz, .fz, .fz, .fz, .fz, .fz, .fz, .fz, .fz, .fz, .fz, .fz, .fz, .fz, .fz] (testE (op2E (neD) (lstE (compE (rangeI range1D (consA (cE (.int 3)) (nilA))) (tgN 16) (cE true) (ownE m_l_do (consA (vE 16) (consA (vE 1) (consA (vE 4) (consA (vE 15) (consA (vE 14) (nilA))))))) [16])) (op2E mulD (lstE (smallA (consA (cE (.str "unlike")) (nilA)))) (cE (.int 3)))))
  (retS [.fz, .fz, .fz, .fz, .fz, .fz, .fz, .fz, .fz, .fz, .fz, .fz, .fz, .fz, .fz, .fz, .fz] (cE (.bool false)))
  (nxS))
 (retS [.fz, .fz, .fz, .fz, .fz, .fz, .fz, .fz, .fz, .fz, .fz, .fz, .fz, .fz, .fz, .fz, .fz] (op2E (eqD) (ownE m_l_do (consA (cE (.int 2)) (consA (vE 1) (consA (vE 4) (consA (vE 5) (consA (op2E addD (vE 14) (sliceE (vE 14) (noO) (partO (cE (.int 1))))) (nilA))))))) (cE (.str "unlike"))))))))))))))))))
theorem bf_eq : b_law = bf_law := by
  unfold b_law
  unfold b_law_0
  unfold b_law_1
  unfold b_law_2
  unfold b_law_3
  unfold b_law_4
  unfold b_law_5
  unfold b_law_6
  unfold b_law_7
  unfold b_law_8
  unfold b_law_9
  unfold b_law_10
  unfold b_law_11
  unfold b_law_12
  unfold b_law_13
  unfold b_law_14
  rfl
abbrev n_law : List Str := ["_law_script", "_law_tiles_here", "_law_rows", "_law_columns", "_law_floor_here", "_law_weights", "_law_r", "_law_c", "_law_some", "_law_one", "_law_costs", "_law_whole", "_law_due", "_law_told", "_law_other", "_law_bad", "_law_what"]
theorem sc_law : FnScope n_law ["_law_script"] (defScope s_law) := ⟨rfl, rfl, rfl, by decide +kernel, rfl, by decide +kernel, by decide +kernel⟩
theorem ok_law (T : Txt P w K mg) : FnOk P w K mg base (L2.CX P w) 28 T.law.f T.law.fd ["_law_script"] (spD K mg 1 m_law) := by
  unfold m_law
  rw [bf_eq]
  refine fn_ok (N := n_law) (fb := bf_law) (ws := [.fz, .fz, .fz, .fz, .fz, .fz, .fz, .fz, .fz, .fz, .fz, .fz, .fz, .fz, .fz, .fz, .fz]) T.law.F sc_law rfl rfl fun cdv A outer s H E hr => ⟨_, [.fz, .fz, .fz, .fz, .fz, .fz, .fz, .fz, .fz, .fz, .fz, .fz, .fz, .fz, .fz, .fz, .fz], (ds_cons (s_asg 1 sc_law.nd (kown K mg (ok_l_tiles T) (hr.mono (by decide)) (by rfl) T.l_tiles.m T.l_tiles.F.kp T.l_tiles.b (passes_call (takes_of rfl rfl rfl rfl) (fun _ _ _ _ h => h)) (fun _ _ h => h) (da_cons (dv 0) (da_cons de_int (da_cons de_int da_nil))) (args_lenS (args_lenS (args_lenS args_len0)))))
 (ds_cons (s_tup [2, 3] (kown K mg (ok_l_sides T) (hr.mono (by decide)) (by rfl) T.l_sides.m T.l_sides.F.kp T.l_sides.b (passes_call (takes_of rfl rfl rfl rfl) (fun _ _ _ _ h => h)) (fun _ _ h => h) (da_cons (dv 0) (da_cons de_int da_nil)) (args_lenS (args_lenS args_len0))) (ktg K [2, 3] rfl (pgs_cons (pgn 2 sc_law.nd) (pgs_cons (pgn 3 sc_law.nd) pgs_nil))))
 (ds_cons (s_asg 4 sc_law.nd (kown K mg (ok_l_floor T) (hr.mono (by decide)) (by rfl) T.l_floor.m T.l_floor.F.kp T.l_floor.b (passes_call (takes_of rfl rfl rfl rfl) (fun _ _ _ _ h => h)) (fun _ _ h => h) (da_cons (dv 0) (da_cons de_int (da_cons (dv 1) (da_cons (dv 2) (da_cons (dv 3) (da_cons (de_op (kadd K) og_add de_int (kown K mg (ok_l_pick T) (hr.mono (by decide)) (by rfl) T.l_pick.m T.l_pick.F.kp T.l_pick.b (passes_call (takes_of rfl rfl rfl rfl) (fun _ _ _ _ h => h)) (fun _ _ h => h) (da_cons (dv 0) (da_cons de_int (da_cons de_int da_nil))) (args_lenS (args_lenS (args_lenS args_len0))))) da_nil)))))) (args_lenS (args_lenS (args_lenS (args_lenS (args_lenS (args_lenS args_len0))))))))
 (ds_cons (s_asg 5 sc_law.nd (de_callTy (ktup K) cg_tuple (by rfl) T.b_tuple (by decide +kernel) (da_cons (de_new (dn_lc (own := [("_law_r", 6)]) rfl sc_law.nd (di_range1 (by rfl) T.b_range (da_cons (dv 2) da_nil)) (blkOk_by (own := [("_law_r", 6)]) (N := n_law) (sc := defScope s_law) (by decide +kernel)) (fun _ _ _ _ _ => (tgn 6 sc_law.nd)) (fun _ _ _ _ _ => dts_nil) (fun _ _ _ _ _ => (de_callTy (ktup K) cg_tuple (by rfl) T.b_tuple (by decide +kernel) (da_cons (de_new (dn_lc (own := [("_law_c", 7)]) rfl sc_law.nd (di_range1 (by rfl) T.b_range (da_cons (dv 3) da_nil)) (blkOk_by (own := [("_law_c", 7)]) (N := n_law) (by rfl)) (fun _ _ _ _ _ => (tgn 7 sc_law.nd)) (fun _ _ _ _ _ => dts_nil) (fun _ _ _ _ _ => (kown K mg (ok_l_pick T) (hr.mono (by decide)) (by rfl) T.l_pick.m T.l_pick.F.kp T.l_pick.b pass_no (fun _ _ h => False.elim h) (da_cons (dv 0) (da_cons (de_op (kadd K) og_add (de_op (kadd K) og_add de_int (de_op (kmul K) og_mul de_int (dv 6))) (dv 7)) (da_cons de_int da_nil))) (args_lenS (args_lenS (args_lenS args_len0))))))) da_nil))))) da_nil)))
 (ds_cons (d_asgLc (i := 8) (ps_lc (i := 8) (own := [("_law_one", 9)]) rfl sc_law.nd rfl rfl (sw_true rfl rfl rfl (by decide +kernel)) (kseq K (kown K mg (ok_l_fills T) (hr.mono (by decide)) (by rfl) T.l_fills.m T.l_fills.F.kp T.l_fills.b (passes_call (takes_of rfl rfl rfl rfl) (fun _ _ _ _ h => h)) (fun _ _ h => h) (da_cons (dv 1) (da_cons (de_op (kmul K) og_mul (de_tup (da_cons (de_op (kmul K) og_mul (de_tup (da_cons de_non da_nil)) (dv 3)) da_nil)) (dv 2)) da_nil)) (args_lenS (args_lenS args_len0)))) (blkOk_by (own := [("_law_one", 9)]) (N := n_law) (sc := defScope s_law) (by decide +kernel)) (fun _ _ _ _ _ => (tgn 9 sc_law.nd)) (fun _ _ _ _ _ => dts_nil) (fun _ _ _ _ _ => (kown K mg (ok_l_as_floor T) (hr.mono (by decide)) (by rfl) T.l_as_floor.m T.l_as_floor.F.kp T.l_as_floor.b pass_no (fun _ _ h => False.elim h) (da_cons (dv 9) (da_cons (dv 3) da_nil)) (args_lenS (args_lenS args_len0))))))
 (ds_cons (d_asgLc (i := 10) (ps_lc (i := 10) (own := [("_law_whole", 11)]) rfl sc_law.nd rfl rfl (sw_true rfl rfl rfl (by decide +kernel)) (kseq K (dv 8)) (blkOk_by (own := [("_law_whole", 11)]) (N := n_law) (sc := defScope s_law) (by decide +kernel)) (fun _ _ _ _ _ => (tgn 11 sc_law.nd)) (fun _ _ _ _ _ => dts_nil) (fun _ _ _ _ _ => (kown K mg (ok_l_cost T) (hr.mono (by decide)) (by rfl) T.l_cost.m T.l_cost.F.kp T.l_cost.b pass_no (fun _ _ h => False.elim h) (da_cons (dv 4) (da_cons (dv 5) (da_cons (dv 11) da_nil))) (args_lenS (args_lenS (args_lenS args_len0)))))))
 (ds_cons (s_asg 12 sc_law.nd (de_if (dt_cmp (keq K (r64 hr)) og_eq (dv 10) (de_new (dn_lst da_nil)) (nomark _)) de_non (de_tup (da_cons (de_callB (kminN K (r16 hr)) (cg_minN K) (by rfl) T.b_min (by decide +kernel) (da_cons (dv 10) da_nil)) (da_cons (kcount K (r65 hr) (dv 10) (de_callB (kminN K (r16 hr)) (cg_minN K) (by rfl) T.b_min (by decide +kernel) (da_cons (dv 10) da_nil))) da_nil)))))
 (ds_cons (d_if (dt_cmp (kne K (r64 hr)) og_ne (kown K mg (ok_l_do T) (hr.mono (by decide)) (by rfl) T.l_do.m T.l_do.F.kp T.l_do.b (passes_call (takes_of rfl rfl rfl rfl) (fun _ _ _ _ h => h)) (fun _ _ h => h) (da_cons de_int (da_cons (dv 1) (da_cons (dv 4) (da_cons (dv 5) (da_cons de_non da_nil))))) (args_lenS (args_lenS (args_lenS (args_lenS (args_lenS args_len0)))))) (dv 12) (nomark _))
  (ds_one (d_ret de_bl))
  ds_nil)
 (ds_cons (s_asg 13 sc_law.nd (kown K mg (ok_l_do T) (hr.mono (by decide)) (by rfl) T.l_do.m T.l_do.F.kp T.l_do.b (passes_call (takes_of rfl rfl rfl rfl) (fun _ _ _ _ h => h)) (fun _ _ h => h) (da_cons de_int (da_cons (dv 1) (da_cons (dv 4) (da_cons (dv 5) (da_cons de_non da_nil))))) (args_lenS (args_lenS (args_lenS (args_lenS (args_lenS args_len0)))))))
 (ds_cons (d_if (dw_pt (dw_and (dt_cmp op_isA og_is (dv 12) de_non (nomark _)) (dw_and1 (dt_cmp (kne K (r64 hr)) og_ne (dv 13) de_str (nomark _)))))
  (ds_one (d_ret de_bl))
  ds_nil)
 (ds_cons (d_if (dw_pt (dw_and (dt_cmp op_notA og_notIs (dv 12) de_non (nomark _)) (dw_and1 (dw_pt (dw_or (dt_cmp (knin K (r65 hr)) og_notIn (dv 13) (dv 8) (by rfl)) (dw_or1 (dt_cmp (kne K (r64 hr)) og_ne (kown K mg (ok_l_cost T) (hr.mono (by decide)) (by rfl) T.l_cost.m T.l_cost.F.kp T.l_cost.b (passes_call (takes_of rfl rfl rfl rfl) (fun _ _ _ _ h => h)) (fun _ _ h => h) (da_cons (dv 4) (da_cons (dv 5) (da_cons (dv 13) da_nil))) (args_lenS (args_lenS (args_lenS args_len0)))) (de_ix (kix K) og_ix (dv 12) de_int (fun _ _ => rfl)) (nomark _))))))))
  (ds_one (d_ret de_bl))
  ds_nil)
 (ds_cons (s_asg 14 sc_law.nd (kown K mg (ok_l_floor T) (hr.mono (by decide)) (by rfl) T.l_floor.m T.l_floor.F.kp T.l_floor.b (passes_call (takes_of rfl rfl rfl rfl) (fun _ _ _ _ h => h)) (fun _ _ h => h) (da_cons (dv 0) (da_cons de_int (da_cons (dv 1) (da_cons (dv 2) (da_cons (dv 3) (da_cons de_int da_nil)))))) (args_lenS (args_lenS (args_lenS (args_lenS (args_lenS (args_lenS args_len0))))))))
 (ds_cons (d_if (dt_cmp (kne K (r64 hr)) og_ne (kown K mg (ok_l_do T) (hr.mono (by decide)) (by rfl) T.l_do.m T.l_do.F.kp T.l_do.b (passes_call (takes_of rfl rfl rfl rfl) (fun _ _ _ _ h => h)) (fun _ _ h => h) (da_cons de_int (da_cons (dv 1) (da_cons (dv 4) (da_cons (dv 5) (da_cons (dv 14) da_nil))))) (args_lenS (args_lenS (args_lenS (args_lenS (args_lenS args_len0)))))) (kown K mg (ok_l_cost T) (hr.mono (by decide)) (by rfl) T.l_cost.m T.l_cost.F.kp T.l_cost.b (passes_call (takes_of rfl rfl rfl rfl) (fun _ _ _ _ h => h)) (fun _ _ h => h) (da_cons (dv 4) (da_cons (dv 5) (da_cons (dv 14) da_nil))) (args_lenS (args_lenS (args_lenS args_len0)))) (nomark _))
  (ds_one (d_ret de_bl))
  ds_nil)
 (ds_cons (s_asg 15 sc_law.nd (de_op (kadd K) og_add (dv 5) (ksl K (dv 5) do_none (do_some de_int))))
 (ds_cons (d_if (dt_cmp (kne K (r64 hr)) og_ne (de_new (dn_lc (own := [("_law_what", 16)]) rfl sc_law.nd (di_range1 (by rfl) T.b_range (da_cons de_int da_nil)) (blkOk_by (own := [("_law_what", 16)]) (N := n_law) (sc := defScope s_law) (by decide +kernel)) (fun _ _ _ _ _ => (tgn 16 sc_law.nd)) (fun _ _ _ _ _ => dts_nil) (fun _ _ _ _ _ => (kown K mg (ok_l_do T) (hr.mono (by decide)) (by rfl) T.l_do.m T.l_do.F.kp T.l_do.b pass_no (fun _ _ h => False.elim h) (da_cons (dv 16) (da_cons (dv 1) (da_cons (dv 4) (da_cons (dv 15) (da_cons (dv 14) da_nil))))) (args_lenS (args_lenS (args_lenS (args_lenS (args_lenS args_len0))))))))) (de_op (kmul K) og_mul (de_new (dn_lst (da_cons de_str da_nil))) de_int) (nomark _))
  (ds_one (d_ret de_bl))
  ds_nil)
 (ds_one (d_ret (de_cmp (keq K (r64 hr)) og_eq (kown K mg (ok_l_do T) (hr.mono (by decide)) (by rfl) T.l_do.m T.l_do.F.kp T.l_do.b (passes_call (takes_of rfl rfl rfl rfl) (fun _ _ _ _ h => h)) (fun _ _ h => h) (da_cons de_int (da_cons (dv 1) (da_cons (dv 4) (da_cons (dv 5) (da_cons (de_op (kadd K) og_add (dv 14) (ksl K (dv 14) do_none (do_some de_int))) da_nil))))) (args_lenS (args_lenS (args_lenS (args_lenS (args_lenS args_len0)))))) de_str (nomark _)))))))))))))))))))⟩

end
end LW
namespace LW
open PySem PySem.Spec L2 DL
/-! the drawn numbers -/
abbrev scr (ns : List Int) : D := .list (ns.map .int)
def cellV (ns : List Int) (k : Int) : Int := if k < ns.length then ns.getD k.toNat 0 else if ns = [] then 0 else ns.getD (k % ns.length).toNat 0 * 31 + k
def drawnV (ns : List Int) (k : Int) : Int := (cellV ns k + 6151 * (k + 1)) * 40692 % 2147483399
def pickV (ns : List Int) (k many : Int) : Nat := ((drawnV ns k * drawnV ns k + drawnV ns k / 31) % 2147483629 % many).toNat
theorem scr_cl (ns : List Int) : cl 20 (scr ns) = true := by simp [List.all_map]
theorem get_ns (ns : List Int) (k : Nat) (h : k < ns.length) : (ns.map PyData.int)[k]? = some (PyData.int (ns.getD k 0)) := by
  simp [List.getElem?_map, List.getD_eq_getElem?_getD, h]
theorem cell_ok (ns : List Int) (k : Int) (h : 0 ≤ k) : m_l_cell [scr ns, .int k] = .ok (.int (cellV ns k)) := by
  unfold m_l_cell b_l_cell
  simp only [runD_ap]
  simp [-List.map_map]
  by_cases h1 : k < ns.length
  · rw [if_pos h1]
    rw [at_pos _ h, get_ns _ _ (by omega)]
    simp [cellV, h1]
  · rw [if_neg h1]
    rw [eqD_nil (scr_cl ns)]
    by_cases h2 : ns = []
    · subst h2
      simp [cellV]
      try omega
    · have hl : 0 < ns.length := List.length_pos_iff.mpr h2
      have hm := Int.emod_nonneg k (show (ns.length : Int) ≠ 0 by omega)
      have hm2 := Int.emod_lt_of_pos k (show 0 < (ns.length : Int) by omega)
      simp [h2, hl]
      rw [at_pos _ hm, get_ns _ _ (by omega)]
      simp [cellV, h1, h2]
theorem pick_ok (ns : List Int) (k many : Int) (h : 0 ≤ k) (hm : 0 < many) : m_l_pick [scr ns, .int k, .int many] = .ok (.int (pickV ns k many : Nat)) := by
  unfold m_l_pick b_l_pick
  simp only [runD_ap]
  simp [-List.map_map]
  rw [cell_ok ns k h]
  have hd1 := Int.emod_nonneg ((cellV ns k + 6151 * (k + 1)) * 40692) (show (2147483399 : Int) ≠ 0 by omega)
  have hd2 := Int.emod_lt_of_pos ((cellV ns k + 6151 * (k + 1)) * 40692) (show (0 : Int) < 2147483399 by omega)
  have hp := Int.emod_nonneg ((drawnV ns k * drawnV ns k + drawnV ns k / 31) % 2147483629) (show many ≠ 0 by omega)
  simp
  rw [if_pos ⟨by omega, by omega⟩]
  simp [hm]
  unfold pickV
  rw [Int.toNat_of_nonneg hp]
  rfl
theorem pick_lt (ns : List Int) (k many : Int) (hm : 0 < many) : (pickV ns k many : Int) < many := by
  have hp := Int.emod_nonneg ((drawnV ns k * drawnV ns k + drawnV ns k / 31) % 2147483629) (show many ≠ 0 by omega)
  have := Int.emod_lt_of_pos ((drawnV ns k * drawnV ns k + drawnV ns k / 31) % 2147483629) hm
  unfold pickV
  rw [Int.toNat_of_nonneg hp]
  exact this

/-! the drawn tiles -/
abbrev Tl := Nat × Nat × Nat × Nat
def tlD (t : Tl) : D := .tuple [.int (t.1 : Nat), .int (t.2.1 : Nat), .int (t.2.2.1 : Nat), .int (t.2.2.2 : Nat)]
def tlsD (n : Nat) (t : Nat → Tl) : D := .tuple ((List.range n).map fun i => tlD (t i))
@[simp] theorem okD_tl (t : Tl) : okD (tlD t) = .ok (tlD t) := nr rfl
@[simp] theorem okD_tls (n : Nat) (t : Nat → Tl) : okD (tlsD n t) = .ok (tlsD n t) := nr rfl
@[simp] theorem tl_cl (k : Nat) (t : Tl) : cl (k + 1) (tlD t) = true := by simp [tlD]
theorem tl_eqv (t u : Tl) : PyData.eqv (tlD t) (tlD u) = decide (t = u) := by
  obtain ⟨a, b, c, d⟩ := t
  obtain ⟨e, f, g, h⟩ := u
  have q : ∀ x y : Nat, ((x : Int) == (y : Int)) = decide (x = y) := fun x y => by
    by_cases h : x = y
    · simp [h]
    · have : (x : Int) ≠ y := by omega
      simp [h, this]
  simp only [tlD, PyData.eqv, PyData.eqvAll, q]
  by_cases h1 : a = e <;> by_cases h2 : b = f <;> by_cases h3 : c = g <;> by_cases h4 : d = h <;> simp [h1, h2, h3, h4]
theorem tl_any (s : List Tl) (t : Tl) : ((s.map tlD).any fun z => PyData.eqv z (tlD t)) = decide (t ∈ s) := by
  rw [List.any_map]
  induction s with
  | nil => rfl
  | cons x s ih =>
    rw [List.any_cons, ih]
    show (PyData.eqv (tlD x) (tlD t) || _) = _
    rw [tl_eqv]
    by_cases h : x = t
    · subst h; simp
    · by_cases h2 : t ∈ s <;> simp [h, h2, Ne.symm (show x ≠ t from h)]
theorem tls_cl (k : Nat) (s : List Tl) : (s.map tlD).all (cl (k + 1)) = true := by simp [List.all_map]
theorem tl_nin (s : List Tl) (t : Tl) : notInE (tlD t) (.list (s.map tlD)) = some (.bool (!decide (t ∈ s))) := by
  rw [ninE_l (tl_cl _ t) (by rw [cl_l]; exact tls_cl _ s), tl_any]
def drawT (ns : List Int) (a c : Int) (k : Nat) : Tl :=
  let p := fun (j : Nat) => pickV ns (a + 4 * k + 2 + j) c
  if pickV ns (a + 60 + k) 3 = 0 then (p 0, p 1, p 0, p 1) else (p 0, p 1, p 2, p 3)
def stepT (ns : List Int) (a c : Int) (s : List Tl) (k : Nat) : List Tl := if drawT ns a c k ∈ s then s else s ++ [drawT ns a c k]
structure GoodT (n : Nat) (t : Nat → Tl) : Prop where
  pos : 0 < n
  lt : ∀ i, (t i).1 < 3 ∧ (t i).2.1 < 3 ∧ (t i).2.2.1 < 3 ∧ (t i).2.2.2 < 3
  inj : ∀ i j, i < n → j < n → t i = t j → i = j
theorem stepT_inv {ns : List Int} {a c : Int} (hc : 0 < c ∧ c ≤ 3) (s : List Tl) (k : Nat) (h : s.Nodup ∧ ∀ t ∈ s, t.1 < 3 ∧ t.2.1 < 3 ∧ t.2.2.1 < 3 ∧ t.2.2.2 < 3) : ((stepT ns a c s k).Nodup ∧ ∀ t ∈ stepT ns a c s k, t.1 < 3 ∧ t.2.1 < 3 ∧ t.2.2.1 < 3 ∧ t.2.2.2 < 3) ∧ (stepT ns a c s k).length ≤ s.length + 1 ∧ (stepT ns a c s k ≠ []) := by
  unfold stepT
  have hp : ∀ z, pickV ns z c < 3 := fun z => by have := pick_lt ns z c hc.1; omega
  split
  · rename_i hm
    exact ⟨h, by omega, by intro z; rw [z] at hm; cases hm⟩
  · rename_i hm
    refine ⟨⟨?_, fun t ht => ?_⟩, by simp, by simp⟩
    · rw [List.nodup_append]
      refine ⟨h.1, by simp, fun x hx y hy z => ?_⟩
      rw [List.mem_singleton] at hy
      subst hy; subst z
      exact hm hx
    · rcases List.mem_append.mp ht with ht | ht
      · exact h.2 t ht
      · rw [List.mem_singleton] at ht
        subst ht
        unfold drawT
        split <;> exact ⟨hp _, hp _, hp _, hp _⟩
abbrev LtT (t : Tl) : Prop := t.1 < 3 ∧ t.2.1 < 3 ∧ t.2.2.1 < 3 ∧ t.2.2.2 < 3
theorem tiles_ok (ns : List Int) (a most : Int) (ha : 0 ≤ a) (hm : 0 < most ∧ most ≤ 100) : ∃ n t, m_l_tiles [scr ns, .int a, .int most] = .ok (tlsD n t) ∧ GoodT n t ∧ (n : Int) ≤ most := by
  have hc := pick_lt ns a 2 (by omega)
  have hq := pick_lt ns (a + 1) most hm.1
  unfold m_l_tiles b_l_tiles
  simp only [runD_ap]
  simp [-List.map_map, pick_ok, ha, hm.1, show 0 ≤ a + 1 by omega]
  generalize hcol : (2 + (pickV ns a 2 : Nat) : Int) = c
  have hc3 : 0 < c ∧ c ≤ 3 := by omega
  have hn : (1 + (pickV ns (a + 1) most : Nat) : Int) = ((1 + pickV ns (a + 1) most : Nat) : Int) := by omega
  generalize hN : 1 + pickV ns (a + 1) most = N at hn
  rw [range1_int N hn (by omega)]
  simp [-List.map_map]
  let I : Nat → List Tl → Prop := fun i s => (s.Nodup ∧ ∀ t ∈ s, LtT t) ∧ s.length ≤ i ∧ (0 < i → s ≠ [])
  have h0 : I 0 [] := ⟨⟨by simp, by simp⟩, by simp, fun h => absurd h (by omega)⟩
  have hI : ∀ i k s, (List.range N)[i]? = some k → I (0 + i) s → I (0 + i + 1) (stepT ns a c s k) := fun i k s _ h => by
    obtain ⟨h1, h2, h3⟩ := stepT_inv hc3 s k h.1
    have := h.2.1
    exact ⟨h1, by omega, fun _ => h3⟩
  obtain ⟨i1, i2, i3⟩ := foldi_inv (n := 0) h0 hI
  rw [for_foldi (fun s : List Tl => [some (scr ns), some (.int a), some (.int most), some (.int c), some (.list (s.map tlD)), none, none, none]) (fun k : Nat => PyData.int (k : Nat)) (stepT ns a c) I (List.range N) [] 0 h0 hI (by rfl) (by rfl)]
  · simp [-List.map_map]
    generalize (List.range N).foldl (stepT ns a c) [] = s at i1 i2 i3
    simp at i2
    have hl2 := i3 (by simp; omega)
    refine ⟨s.length, fun i => s.getD i (0, 0, 0, 0), ?_, ⟨List.length_pos_iff.mpr hl2, ?_, ?_⟩, by omega⟩
    · unfold tlsD
      have q : s.map tlD = (List.range s.length).map fun i => tlD (s.getD i (0, 0, 0, 0)) := by
        apply List.ext_getElem
        · simp
        · intro i h1 h2
          simp at h1
          simp [List.getD_eq_getElem?_getD, h1]
      rw [q]
    · intro i
      rw [List.getD_eq_getElem?_getD]
      cases e : s[i]? with
      | none => exact ⟨by simp, by simp, by simp, by simp⟩
      | some t => exact i1.2 t (List.mem_of_getElem? e)
    · intro i j hi hj e
      simp only [List.getD_eq_getElem?_getD, List.getElem?_eq_getElem hi, List.getElem?_eq_getElem hj, Option.getD_some] at e
      exact (List.getElem_inj i1.1).mp e
  · intro i k s hk hs
    have hi : i < N := by simpa using (List.getElem?_eq_some_iff.mp hk).1
    have hsl := hs.2.1
    have hp : ∀ z : Int, 0 ≤ z → m_l_pick [scr ns, .int z, .int c] = .ok (.int (pickV ns z c : Nat)) := fun z hz => pick_ok ns z c hz hc3.1
    simp [turnL, -List.map_map]
    rw [show range1D [.int 4] = some ([0, 1, 2, 3].map fun i => .int (i : Nat)) from range1_int 4 rfl (by omega)]
    simp [-List.map_map, -List.map_cons, -List.map_nil]
    rw [comp_map (fun j : Nat => PyData.int (j : Nat)) (fun j : Nat => .int (pickV ns (a + 4 * k + 2 + j) c : Nat)) [0, 1, 2, 3] rfl (fun j hj => by simp [turnC]; rw [hp _ (by omega)]; rfl)]
    simp [-List.map_map]
    rw [pick_ok ns _ _ (by omega) (by omega)]
    simp [-List.map_map]
    have key : ∀ p0 p1 p2 p3 : Nat, PyData.tuple [.int (p0 : Nat), .int (p1 : Nat), .int (p2 : Nat), .int (p3 : Nat)] = tlD (p0, p1, p2, p3) := fun _ _ _ _ => rfl
    simp only [key]
    have fin : ∀ t : Tl, drawT ns a c k = t → notInE (tlD t) (.list (s.map tlD)) = some (.bool (!decide (t ∈ s))) ∧ stepT ns a c s k = if t ∈ s then s else s ++ [t] := fun t e => ⟨tl_nin s t, by unfold stepT; rw [e]⟩
    by_cases h0 : pickV ns (a + 60 + k) 3 = 0
    · rw [if_pos h0]
      obtain ⟨f1, f2⟩ := fin _ (by unfold drawT; rw [if_pos h0])
      simp only [f2]
      simp at f1 ⊢
      rw [f1]
      simp [-List.map_map]
      split
      · simp
      · rw [if_pos (by omega)]; simp
    · rw [if_neg h0]
      obtain ⟨f1, f2⟩ := fin _ (by unfold drawT; rw [if_neg h0])
      simp only [f2]
      simp at f1 ⊢
      rw [f1]
      simp [-List.map_map]
      split
      · simp
      · rw [if_pos (by omega)]; simp

/-! the drawn floor -/
def oD : Option Nat → D
  | none => .none
  | some i => .int (i : Nat)
@[simp] theorem oD_n : oD none = .none := nr rfl
@[simp] theorem oD_s (i : Nat) : oD (some i) = .int (i : Nat) := nr rfl
def rowD (C : Nat) (f : Nat → Option Nat) : D := .tuple ((List.range C).map fun c => oD (f c))
def fD (R C : Nat) (f : Nat → Nat → Option Nat) : D := .tuple ((List.range R).map fun r => rowD C (f r))
@[simp] theorem okD_o (o : Option Nat) : okD (oD o) = .ok (oD o) := by cases o <;> rfl
@[simp] theorem okD_row (C : Nat) (f : Nat → Option Nat) : okD (rowD C f) = .ok (rowD C f) := nr rfl
@[simp] theorem okD_f (R C : Nat) (f : Nat → Nat → Option Nat) : okD (fD R C f) = .ok (fD R C f) := nr rfl
@[simp] theorem oD_cl (k : Nat) (o : Option Nat) : cl k (oD o) = true := by cases o <;> simp
@[simp] theorem rowD_cl (k C : Nat) (f : Nat → Option Nat) : cl (k + 1) (rowD C f) = true := by simp [rowD]
@[simp] theorem fD_cl (k R C : Nat) (f : Nat → Nat → Option Nat) : cl (k + 2) (fD R C f) = true := by simp [fD]
theorem map_oD_congr {C : Nat} {f g : Nat → Option Nat} (h : ∀ c, c < C → f c = g c) : rowD C f = rowD C g := by
  unfold rowD
  congr 1
  exact List.map_congr_left fun c hc => by rw [h c (List.mem_range.mp hc)]
theorem fD_congr {R C : Nat} {f g : Nat → Nat → Option Nat} (h : ∀ r c, r < R → c < C → f r c = g r c) : fD R C f = fD R C g := by
  unfold fD
  congr 1
  exact List.map_congr_left fun r hr => map_oD_congr fun c hc => h r c (List.mem_range.mp hr) hc
def drawF (ns : List Int) (a : Int) (n m : Nat) (r c : Nat) : Option Nat := if pickV ns (a + 7 * r + c) (n * m) < n then some (pickV ns (a + 7 * r + c) (n * m)) else none
theorem range_flat (n : Nat) (f : Nat → D) : (List.range n).flatMap (fun i => [f i]) = (List.range n).map f := by
  generalize List.range n = l
  induction l with
  | nil => rfl
  | cons x l ih => simp [ih]
theorem floor_ok (ns : List Int) (a : Int) (n m R C : Nat) (t : Nat → Tl) (ha : 0 ≤ a) (hn : 0 < n ∧ n ≤ 1000) (hm : 0 < m ∧ m ≤ 1000) (hR : R ≤ 100) (hC : C ≤ 100) :
    m_l_floor [scr ns, .int a, tlsD n t, .int (R : Nat), .int (C : Nat), .int (m : Nat)] = .ok (fD R C (drawF ns a n m)) := by
  unfold m_l_floor b_l_floor
  simp only [runD_ap]
  have hnm : 0 < n * m := Nat.mul_pos hn.1 hm.1
  simp [-List.map_map, range1_nat R (by omega)]
  rw [for_app (fun s : List D => [some (scr ns), some (.int a), some (tlsD n t), some (.int (R : Nat)), some (.int (C : Nat)), some (.int (m : Nat)), some (.list s), none, none, none, none]) (fun k : Nat => PyData.int (k : Nat)) (fun r => [rowD C (drawF ns a n m r)]) 1 1000 (List.range R) [] (by simp) (by simp; omega) (by rfl) (by rfl)]
  · simp [range_flat]
    rfl
  · intro r hr s hs
    have hr := List.mem_range.mp hr
    simp [turnL, -List.map_map, range1_nat C (by omega)]
    rw [for_app (fun l : List D => [some (scr ns), some (.int a), some (tlsD n t), some (.int (R : Nat)), some (.int (C : Nat)), some (.int (m : Nat)), some (.list s), some (.int (r : Nat)), some (.list l), none, none]) (fun k : Nat => PyData.int (k : Nat)) (fun c => [oD (drawF ns a n m r c)]) 1 1000 (List.range C) [] (by simp) (by simp; omega) (by rfl) (by rfl)]
    · simp [range_flat]
      rw [if_pos (by omega)]
      simp
      rfl
    · intro c hc l hl
      have hc := List.mem_range.mp hc
      simp [turnL, tlsD]
      rw [if_pos (.inl ⟨by omega, by omega⟩)]
      have hi : (0 : Int) < n * m := by exact_mod_cast hnm
      simp
      rw [pick_ok ns _ _ (by omega) hi]
      simp
      unfold drawF
      have hl2 : l.length < 1000000 := by omega
      split <;> simp [hl2]

/-! the places of a floor -/
abbrev plD (p : Nat × Nat) : D := .tuple [.int (p.1 : Nat), .int (p.2 : Nat)]
def places (R C : Nat) : List (Nat × Nat) := (List.range R).flatMap fun r => (List.range C).map fun c => (r, c)
theorem mem_places {R C : Nat} {p : Nat × Nat} : p ∈ places R C ↔ p.1 < R ∧ p.2 < C := by
  obtain ⟨r, c⟩ := p
  unfold places
  simp only [List.mem_flatMap, List.mem_range, List.mem_map, Prod.mk.injEq]
  constructor
  · rintro ⟨a, h1, b, h2, rfl, rfl⟩
    exact ⟨h1, h2⟩
  · rintro ⟨h1, h2⟩
    exact ⟨r, h1, c, h2, rfl, rfl⟩
theorem len_places (R C : Nat) : (places R C).length = R * C := by
  unfold places
  rw [List.length_flatMap]
  induction R with
  | zero => simp
  | succ R ih => rw [List.range_succ, List.map_append, List.sum_append, ih]; simp [Nat.succ_mul]
theorem places_map {α : Type} (R C : Nat) (f : Nat × Nat → α) : (places R C).map f = (List.range R).flatMap fun r => (List.range C).map fun c => f (r, c) := by
  unfold places
  rw [List.map_flatMap]
  simp only [List.map_map]
  rfl
theorem places_flat {α : Type} (R C : Nat) (f : Nat × Nat → List α) : (places R C).flatMap f = (List.range R).flatMap fun r => (List.range C).flatMap fun c => f (r, c) := by
  unfold places
  rw [List.flatMap_assoc]
  simp [List.flatMap_map]
theorem places_ok (R C : Nat) (f : Nat → Nat → Option Nat) (hR : 0 < R ∧ R ≤ 100) (hC : C ≤ 100) : m_places_of [fD R C f] = .ok (.list ((places R C).map plD)) := by
  unfold m_places_of b_places_of
  simp only [runD_ap]
  simp [-List.map_map, fD, range1_nat R (by omega)]
  rw [for_app (fun s : List D => [some (fD R C f), some (.list s), none, none]) (fun k : Nat => PyData.int (k : Nat)) (fun r => (List.range C).map fun c => plD (r, c)) C 20000 (List.range R) [] (by simp) (by simp; exact Nat.le_trans (Nat.mul_le_mul hC hR.2) (by omega)) (by rfl) (by rfl)]
  · simp [retO_ap, places_map]
  · intro r hr s hs
    have hr := List.mem_range.mp hr
    simp [turnL, fD, rowD, hR.1, range1_nat C (by omega)]
    rw [if_pos (by omega)]
    rw [show (List.range C).map (fun i => PyData.int (i : Nat)) = (List.range C).map (fun i => PyData.int (i : Nat)) from rfl]
    simp
    rw [comp_map (fun c : Nat => PyData.int (c : Nat)) (fun c => plD (r, c)) (List.range C) rfl (fun c hc => by simp [turnC])]
    simp
    intro h
    omega

/-! floors, rows and tiles under the operations -/
section
variable {R C n r c i : Nat} {f : Nat → Nat → Option Nat} {g h : Nat → Option Nat} {t : Nat → Tl} {u : Tl}
@[simp] theorem ix_f (hr : r < R) : ixD (fD R C f) (.int (r : Nat)) = some (rowD C (f r)) := by simp only [fD, ixD_t, at_nat, rng_get, if_pos hr]
@[simp] theorem ix_f1 (hr : r + 1 < R) : ixD (fD R C f) (.int ((r : Nat) + 1)) = some (rowD C (f (r + 1))) := by simp only [fD, ixD_t, at_succS, rng_get, if_pos hr]
@[simp] theorem ix_f0 (hr : 0 < R) : ixD (fD R C f) (.int 0) = some (rowD C (f 0)) := by simp only [fD, ixD_t, at_zeroS, rng_get, if_pos hr]
@[simp] theorem ix_fn (hr : 0 < R) : ixD (fD R C f) (.int (-1)) = some (rowD C (f (R - 1))) := by simp only [fD, ixD_t]; exact rng_neg1 R _ hr
@[simp] theorem ix_r (hc : c < C) : ixD (rowD C g) (.int (c : Nat)) = some (oD (g c)) := by simp only [rowD, ixD_t, at_nat, rng_get, if_pos hc]
@[simp] theorem ix_r1 (hc : c + 1 < C) : ixD (rowD C g) (.int ((c : Nat) + 1)) = some (oD (g (c + 1))) := by simp only [rowD, ixD_t, at_succS, rng_get, if_pos hc]
@[simp] theorem ix_r0 (hc : 0 < C) : ixD (rowD C g) (.int 0) = some (oD (g 0)) := by simp only [rowD, ixD_t, at_zeroS, rng_get, if_pos hc]
@[simp] theorem ix_rn (hc : 0 < C) : ixD (rowD C g) (.int (-1)) = some (oD (g (C - 1))) := by simp only [rowD, ixD_t]; exact rng_neg1 C _ hc
@[simp] theorem ix_f2 {a b : Nat} (h : a + b < R) : ixD (fD R C f) (.int ((a : Int) + (b : Int))) = some (rowD C (f (a + b))) := by
  have e : ((a : Int) + (b : Int)) = ((a + b : Nat) : Int) := by omega
  rw [e, ix_f h]
@[simp] theorem ix_r2 {a b : Nat} (h : a + b < C) : ixD (rowD C g) (.int ((a : Int) + (b : Int))) = some (oD (g (a + b))) := by
  have e : ((a : Int) + (b : Int)) = ((a + b : Nat) : Int) := by omega
  rw [e, ix_r h]
@[simp] theorem ix_t (hi : i < n) : ixD (tlsD n t) (.int (i : Nat)) = some (tlD (t i)) := by simp only [tlsD, ixD_t, at_nat, rng_get, if_pos hi]
@[simp] theorem ix_t0 (hi : 0 < n) : ixD (tlsD n t) (.int 0) = some (tlD (t 0)) := by simp only [tlsD, ixD_t, at_zeroS, rng_get, if_pos hi]
@[simp] theorem ix_tl0 : ixD (tlD u) (.int 0) = some (.int (u.1 : Nat)) := by simp [tlD]
@[simp] theorem ix_tl1 : ixD (tlD u) (.int 1) = some (.int (u.2.1 : Nat)) := by simp [tlD]
@[simp] theorem ix_tl2 : ixD (tlD u) (.int 2) = some (.int (u.2.2.1 : Nat)) := by simp [tlD]
@[simp] theorem ix_tl3 : ixD (tlD u) (.int 3) = some (.int (u.2.2.2 : Nat)) := by simp [tlD]
@[simp] theorem len_f : lenD [fD R C f] = some (.int (R : Nat)) := by simp [fD]
@[simp] theorem len_r : lenD [rowD C g] = some (.int (C : Nat)) := by simp [rowD]
@[simp] theorem len_t : lenD [tlsD n t] = some (.int (n : Nat)) := by simp [tlsD]
@[simp] theorem len_tl : lenD [tlD u] = some (.int 4) := by simp [tlD]
@[simp] theorem seq_f : seqOf (fD R C f) = some ((List.range R).map fun r => rowD C (f r)) := nr rfl
@[simp] theorem seq_r : seqOf (rowD C g) = some ((List.range C).map fun c => oD (g c)) := nr rfl
@[simp] theorem seq_t : seqOf (tlsD n t) = some ((List.range n).map fun i => tlD (t i)) := nr rfl
@[simp] theorem enum_f : enumD [fD R C f] = some ((List.range R).map fun r => .tuple [.int (r : Nat), rowD C (f r)]) := by unfold fD; rw [enumD_t, enumL_range]
@[simp] theorem enum_r : enumD [rowD C g] = some ((List.range C).map fun r => .tuple [.int (r : Nat), oD (g r)]) := by unfold rowD; rw [enumD_t, enumL_range]
@[simp] theorem enum_t : enumD [tlsD n t] = some ((List.range n).map fun r => .tuple [.int (r : Nat), tlD (t r)]) := by unfold tlsD; rw [enumD_t, enumL_range]
@[simp] theorem isn_r : isD (rowD C g) .none = some (.bool false) := nr rfl
@[simp] theorem isn_oD (o : Option Nat) : isD (oD o) .none = some (.bool o.isNone) := by cases o <;> rfl
@[simp] theorem nisn_oD (o : Option Nat) : notIsD (oD o) .none = some (.bool o.isSome) := by cases o <;> rfl
theorem row_app (C1 C2 : Nat) (g h : Nat → Option Nat) : ((List.range C1).map fun c => oD (g c)) ++ ((List.range C2).map fun c => oD (h c)) = (List.range (C1 + C2)).map fun c => oD (if c < C1 then g c else h (c - C1)) := by
  apply List.ext_getElem
  · simp
  · intro i h1 h2
    by_cases hi : i < C1
    · rw [List.getElem_append_left (by simpa using hi)]; simp [hi]
    · rw [List.getElem_append_right (by simp; omega)]; simp [hi]
theorem f_app (R1 R2 C : Nat) (f e : Nat → Nat → Option Nat) : ((List.range R1).map fun r => rowD C (f r)) ++ ((List.range R2).map fun r => rowD C (e r)) = (List.range (R1 + R2)).map fun r => rowD C (if r < R1 then f r else e (r - R1)) := by
  apply List.ext_getElem
  · simp
  · intro i h1 h2
    by_cases hi : i < R1
    · rw [List.getElem_append_left (by simpa using hi)]; simp [hi]
    · rw [List.getElem_append_right (by simp; omega)]; simp [hi]
@[simp high] theorem add_rr {C2 : Nat} (hl : C + C2 ≤ 1000000) : addD (rowD C g) (rowD C2 h) = some (rowD (C + C2) fun c => if c < C then g c else h (c - C)) := by
  unfold rowD
  rw [addD_t, if_pos (by simpa using hl), row_app]
@[simp high] theorem add_rn (hl : C + 1 ≤ 1000000) : addD (rowD C g) (.tuple [.none]) = some (rowD (C + 1) fun c => if c < C then g c else none) := add_rr (h := fun _ => none) (C2 := 1) hl
@[simp high] theorem add_ri (hl : C + 1 ≤ 1000000) : addD (rowD C g) (.tuple [.int (i : Nat)]) = some (rowD (C + 1) fun c => if c < C then g c else some i) := add_rr (h := fun _ => some i) (C2 := 1) hl
@[simp high] theorem add_ff {R2 : Nat} {e : Nat → Nat → Option Nat} (hl : R + R2 ≤ 1000000) : addD (fD R C f) (fD R2 C e) = some (fD (R + R2) C fun r => if r < R then f r else e (r - R)) := by
  unfold fD
  rw [addD_t, if_pos (by simpa using hl), f_app]
@[simp high] theorem add_fr (hl : R + 1 ≤ 1000000) : addD (fD R C f) (.tuple [rowD C g]) = some (fD (R + 1) C fun r => if r < R then f r else g) := add_ff (e := fun _ => g) (R2 := 1) hl
@[simp high] theorem mul_n (h1 : 0 < C) (h2 : C ≤ 1000) : mulD (.tuple [.none]) (.int (C : Nat)) = some (rowD C fun _ => none) := by
  rw [mulD_t, if_pos ⟨by simp, by omega, by omega, by simp⟩]
  unfold rowD
  congr 2
  apply List.ext_getElem <;> simp
@[simp high] theorem mul_r (h1 : 0 < R) (h2 : R ≤ 1000) : mulD (.tuple [rowD C g]) (.int (R : Nat)) = some (fD R C fun _ => g) := by
  rw [mulD_t, if_pos ⟨by simp, by omega, by omega, by simp⟩]
  unfold fD
  congr 2
  apply List.ext_getElem <;> simp
end

/-! equal cells, cut ranges -/
theorem eqD_oD (a b : Option Nat) : eqD (oD a) (oD b) = some (.bool (a == b)) := by
  rw [eqD_cl (by simp) (by simp)]
  cases a with
  | none => cases b <;> simp [PyData.eqv]
  | some i =>
    cases b with
    | none => simp [PyData.eqv]
    | some j =>
      by_cases h : i = j
      · subst h; simp [PyData.eqv]
      · have h1 : (i : Int) ≠ j := by omega
        simp [PyData.eqv]
        rw [beq_eq_false_iff_ne.mpr h1, beq_eq_false_iff_ne.mpr h]
theorem nin_oD (a b : Option Nat) : notInE (oD a) (.tuple [.none, oD b]) = some (.bool (!(a == none || a == b))) := by
  rw [ninE_t (by simp) (by simp)]
  have h := eqD_oD b a
  rw [eqD_cl (by simp) (by simp)] at h
  have h : PyData.eqv (oD b) (oD a) = (b == a) := by simpa using h
  simp only [List.any_cons, List.any_nil, h, Bool.or_false]
  have h2 : PyData.eqv .none (oD a) = (a == none) := by cases a <;> simp [PyData.eqv]
  rw [h2, show (b == a) = (a == b) by rw [Bool.eq_iff_iff, beq_iff_eq, beq_iff_eq]; exact ⟨Eq.symm, Eq.symm⟩]
theorem range_cut {α : Type} (m n : Nat) (h : Nat → List α) (hm : m ≤ n) (hz : ∀ i, m ≤ i → i < n → h i = []) : (List.range n).flatMap h = (List.range m).flatMap h := by
  obtain ⟨k, rfl⟩ : ∃ k, n = m + k := ⟨n - m, by omega⟩
  clear hm
  induction k with
  | zero => rfl
  | succ k ih =>
    rw [show m + (k + 1) = (m + k) + 1 from rfl, List.range_succ, List.flatMap_append, ih fun i h1 h2 => hz i h1 (by omega)]
    simp [hz (m + k) (by omega) (by omega)]
theorem flat_if {α β : Type} (p : α → Bool) (g : α → β) (l : List α) : (l.flatMap fun x => if p x = true then [g x] else []) = (l.filter p).map g := by
  induction l with
  | nil => rfl
  | cons x l ih => cases q : p x <;> simp [q, ih]

/-! drawn floors are good -/
def GoodF (n R C : Nat) (f : Nat → Nat → Option Nat) : Prop := ∀ r c i, r < R → c < C → f r c = some i → i < n
theorem drawF_good (ns : List Int) (a : Int) (n m R C : Nat) : GoodF n R C (drawF ns a n m) := fun r c i _ _ e => by
  unfold drawF at e
  split at e
  · cases e; assumption
  · cases e

/-! size_of -/
theorem size_ok (R C : Nat) (f : Nat → Nat → Option Nat) (hR : 0 < R) : m_size_of [fD R C f] = .ok (.tuple [.int (R : Nat), .int (C : Nat)]) := by
  unfold m_size_of b_size_of
  simp only [runD_ap]
  simp [hR]

/-! look_place, tile_at -/
theorem pl_any (s : List (Nat × Nat)) (t : Nat × Nat) : ((s.map plD).any fun z => PyData.eqv z (plD t)) = decide (t ∈ s) := by
  rw [List.any_map]
  induction s with
  | nil => rfl
  | cons x s ih =>
    rw [List.any_cons, ih]
    show (PyData.eqv (plD x) (plD t) || _) = _
    obtain ⟨a, b⟩ := x
    obtain ⟨c, d⟩ := t
    have z : ∀ x y : Nat, ((x : Int) == (y : Int)) = decide (x = y) := fun x y => by
      by_cases h : x = y
      · simp [h]
      · have : (x : Int) ≠ y := by omega
        simp [h, this]
    simp only [plD, PyData.eqv, PyData.eqvAll, z]
    by_cases h1 : a = c <;> by_cases h2 : b = d <;> by_cases h3 : (c, d) ∈ s <;> simp [h1, h2, h3, Ne.symm] <;> (try omega) <;> (intro h4; first | exact absurd h4.symm h1 | exact absurd h4.symm h2)
theorem pl_notin (s : List (Nat × Nat)) (t : Nat × Nat) : notInE (plD t) (.list (s.map plD)) = some (.bool (!decide (t ∈ s))) := by
  rw [ninE_l (by simp) (by simp [List.all_map]), pl_any]
theorem look_ok (R C : Nat) (f : Nat → Nat → Option Nat) (r c : Nat) (hR : 0 < R ∧ R ≤ 100) (hC : C ≤ 100) (hr : r < R) (hc : c < C) : m_look_place [fD R C f, plD (r, c)] = .ok .none := by
  unfold m_look_place b_look_place
  simp only [runD_ap]
  have h := pl_notin (places R C) (r, c)
  rw [decide_eq_true (mem_places.mpr ⟨hr, hc⟩)] at h
  simp at h
  simp [places_ok R C f hR hC, h, -List.map_map]

/-! tile_at -/
theorem at_ok (R C : Nat) (f : Nat → Nat → Option Nat) (r c : Nat) (hR : 0 < R ∧ R ≤ 100) (hC : C ≤ 100) (hr : r < R) (hc : c < C) : m_tile_at [fD R C f, .tuple [.int (r : Nat), .int (c : Nat)]] = .ok (oD (f r c)) := by
  unfold m_tile_at b_tile_at
  simp only [runD_ap]
  have h : m_look_place [fD R C f, .tuple [.int (r : Nat), .int (c : Nat)]] = .ok .none := look_ok R C f r c hR hC hr hc
  simp [h, hr, hc]

/-! clashes -/
def eastOf (C : Nat) (f : Nat → Nat → Option Nat) (r c : Nat) : Option Nat := if c + 1 < C then f r (c + 1) else none
def southOf (R : Nat) (f : Nat → Nat → Option Nat) (r c : Nat) : Option Nat := if r + 1 < R then f (r + 1) c else none
def badE (t : Nat → Tl) (C : Nat) (f : Nat → Nat → Option Nat) (r c : Nat) : Bool := match f r c, eastOf C f r c with
  | some i, some j => decide ((t i).2.1 ≠ (t j).2.2.2)
  | _, _ => false
def badS (t : Nat → Tl) (R : Nat) (f : Nat → Nat → Option Nat) (r c : Nat) : Bool := match f r c, southOf R f r c with
  | some i, some j => decide ((t i).2.2.1 ≠ (t j).1)
  | _, _ => false
def clashAt (t : Nat → Tl) (R C : Nat) (f : Nat → Nat → Option Nat) (r c : Nat) : List D :=
  (if badE t C f r c = true then [.tuple [plD (r, c), .str "east"]] else []) ++ (if badS t R f r c = true then [.tuple [plD (r, c), .str "south"]] else [])
def clashL (t : Nat → Tl) (R C : Nat) (f : Nat → Nat → Option Nat) : List D := (places R C).flatMap fun p => clashAt t R C f p.1 p.2
theorem clashAt_len (t : Nat → Tl) (R C : Nat) (f : Nat → Nat → Option Nat) (r c : Nat) : (clashAt t R C f r c).length ≤ 2 := by
  unfold clashAt
  split <;> split <;> simp
@[simp] theorem cl_east (n : Nat) : cl n (.str "east") = true := cl_s n _ (by decide +kernel)
@[simp] theorem cl_south (n : Nat) : cl n (.str "south") = true := cl_s n _ (by decide +kernel)
theorem clashL_cl (k : Nat) (t : Nat → Tl) (R C : Nat) (f : Nat → Nat → Option Nat) : cl (k + 3) (.list (clashL t R C f)) = true := by
  rw [cl_l]
  unfold clashL
  rw [List.all_eq_true]
  intro d hd
  rw [List.mem_flatMap] at hd
  obtain ⟨p, _, hd⟩ := hd
  unfold clashAt at hd
  rcases List.mem_append.mp hd with h | h
  · split at h
    · rw [List.mem_singleton] at h; subst h; simp
    · cases h
  · split at h
    · rw [List.mem_singleton] at h; subst h; simp
    · cases h
theorem ap_succ (C c : Nat) (g : Nat → D) (x : D) (h : c < C) : ((List.range C).map g ++ [x])[c + 1]? = some (if c + 1 < C then g (c + 1) else x) := by
  by_cases h2 : c + 1 < C
  · rw [List.getElem?_append_left (by simpa using h2), rng_get]; simp [h2]
  · have e : c + 1 = C := by omega
    rw [List.getElem?_append_right (by simp; omega)]
    simp [e]
theorem tl_at (n : Nat) (t : Nat → Tl) (i : Nat) (h : i < n) : ((List.range n).map fun i => tlD (t i))[i]? = some (tlD (t i)) := by rw [rng_get, if_pos h]
theorem nat_bne (x y : Nat) : (!((x : Int) == (y : Int))) = decide (x ≠ y) := by
  by_cases h : x = y
  · simp [h]
  · have : (x : Int) ≠ y := by omega
    simp [h, this]

/-! the law's own fills -/
def nsD (s : List Nat) : D := .tuple (s.map fun i => .int (i : Nat))
def okAt (t : Nat → Tl) (C : Nat) (s : List Nat) (k : Nat) (w : Option Nat) (i : Nat) : Bool :=
  (w == none || w == some i) && (k % C == 0 || (t (s.getD (k - 1) 0)).2.1 == (t i).2.2.2) && (decide (k < C) || (t (s.getD (k - C) 0)).2.2.1 == (t i).1)
def longer (n : Nat) (t : Nat → Tl) (C k : Nat) (w : Option Nat) (made : List (List Nat)) : List (List Nat) := made.flatMap fun s => ((List.range n).filter fun i => okAt t C s k w i).map fun i => s ++ [i]
def wanted (R C : Nat) (f : Nat → Nat → Option Nat) : List (Option Nat) := (places R C).map fun p => f p.1 p.2
def fillsL (n : Nat) (t : Nat → Tl) (R C : Nat) (f : Nat → Nat → Option Nat) : List (List Nat) := (wanted R C f).zipIdx.foldl (fun made p => longer n t C p.2 p.1 made) [[]]
theorem wanted_len (R C : Nat) (f : Nat → Nat → Option Nat) : (wanted R C f).length = R * C := by unfold wanted; rw [List.length_map, len_places]
structure FillI (n k : Nat) (made : List (List Nat)) : Prop where
  len : made.length ≤ n ^ k
  mem : ∀ s ∈ made, s.length = k ∧ ∀ i ∈ s, i < n
theorem longer_inv {n : Nat} {t : Nat → Tl} {C k : Nat} {w : Option Nat} {made : List (List Nat)} (h : FillI n k made) : FillI n (k + 1) (longer n t C k w made) where
  len := by
    have : ∀ l : List (List Nat), (longer n t C k w l).length ≤ n * l.length := fun l => by
      unfold longer
      induction l with
      | nil => simp
      | cons x l ih =>
        rw [List.flatMap_cons, List.length_append, List.length_cons, Nat.mul_add, Nat.mul_one]
        have : (((List.range n).filter fun i => okAt t C x k w i).map fun i => x ++ [i]).length ≤ n := by
          rw [List.length_map]
          exact Nat.le_trans (List.length_filter_le _ _) (by simp)
        omega
    have h1 := this made
    have h2 := Nat.mul_le_mul_left n h.len
    rw [Nat.pow_succ, Nat.mul_comm (n ^ k) n]
    exact Nat.le_trans h1 h2
  mem := fun s hs => by
    unfold longer at hs
    simp only [List.mem_flatMap, List.mem_map, List.mem_filter, List.mem_range] at hs
    obtain ⟨u, hu, i, ⟨hi, _⟩, rfl⟩ := hs
    obtain ⟨h1, h2⟩ := h.mem u hu
    refine ⟨by simp [h1], fun j hj => ?_⟩
    rcases List.mem_append.mp hj with hj | hj
    · exact h2 j hj
    · rw [List.mem_singleton] at hj; omega
@[simp] theorem okD_ns (s : List Nat) : okD (nsD s) = .ok (nsD s) := nr rfl
theorem ns_get (s : List Nat) (k : Nat) (h : k < s.length) : (s.map fun i => PyData.int (i : Nat))[k]? = some (.int (s.getD k 0 : Nat)) := by
  rw [List.getElem?_map, List.getElem?_eq_getElem h, List.getD_eq_getElem?_getD, List.getElem?_eq_getElem h]
  rfl
theorem ns_last (s : List Nat) (k : Nat) (h : s.length = k + 1) : ixD (nsD s) (.int (-1)) = some (.int (s.getD k 0 : Nat)) := by
  show atI _ (-1) = _
  rw [at_neg1, List.length_map, h]
  exact ns_get s k (by omega)
theorem ns_at (s : List Nat) (k : Nat) (h : k < s.length) : ixD (nsD s) (.int (k : Nat)) = some (.int (s.getD k 0 : Nat)) := by
  show atI _ _ = _
  rw [at_nat]
  exact ns_get s k h
theorem ns_add (s : List Nat) (k : Nat) (h : s.length + 1 ≤ 1000000) : addD (nsD s) (.tuple [.int (k : Nat)]) = some (nsD (s ++ [k])) := by
  unfold nsD
  rw [addD_t, if_pos (by simpa using h), List.map_append]
  rfl
@[simp] theorem ns_cl (k : Nat) (s : List Nat) : cl (k + 1) (nsD s) = true := by simp [nsD, List.all_map]
theorem in_two (w : Option Nat) (i : Nat) : inE (oD w) (.tuple [.none, .int (i : Nat)]) = some (.bool (w == none || w == some i)) := by
  rw [inE_t (by simp) (by simp)]
  cases w with
  | none => rfl
  | some j =>
    by_cases h : i = j
    · subst h; simp [PyData.eqv]
    · have h1 : (i : Int) ≠ j := by omega
      have h2 : j ≠ i := fun z => h z.symm
      simp [PyData.eqv]
      rw [beq_eq_false_iff_ne.mpr h1, beq_eq_false_iff_ne.mpr h2]

/-! fills as extensions of what is laid -/
def ext (n : Nat) (t : Nat → Tl) (C : Nat) : List (Option Nat) → Nat → List Nat → List (List Nat)
  | [], _, s => [s]
  | w :: ws, k, s => ((List.range n).filter fun i => okAt t C s k w i).flatMap fun i => ext n t C ws (k + 1) (s ++ [i])
theorem fold_ext (n : Nat) (t : Nat → Tl) (C : Nat) : ∀ (ws : List (Option Nat)) (k : Nat) (made : List (List Nat)), (ws.zipIdx k).foldl (fun made p => longer n t C p.2 p.1 made) made = made.flatMap (ext n t C ws k)
  | [], k, made => by
    show made = made.flatMap fun s => [s]
    induction made with
    | nil => rfl
    | cons x l ih => rw [List.flatMap_cons, ← ih]; rfl
  | w :: ws, k, made => by
    rw [List.zipIdx_cons, List.foldl_cons, fold_ext n t C ws (k + 1)]
    unfold longer
    rw [List.flatMap_assoc]
    congr 1
    funext s
    show _ = ((List.range n).filter fun i => okAt t C s k w i).flatMap _
    rw [List.flatMap_map]
theorem fills_ext (n : Nat) (t : Nat → Tl) (R C : Nat) (f : Nat → Nat → Option Nat) : fillsL n t R C f = ext n t C (wanted R C f) 0 [] := by
  unfold fillsL
  rw [fold_ext]
  simp
theorem places_eq (C : Nat) (hC : 0 < C) : ∀ R, places R C = (List.range (R * C)).map fun k => (k / C, k % C)
  | 0 => by simp [places]
  | R + 1 => by
    have ih := places_eq C hC R
    unfold places at ih ⊢
    rw [List.range_succ, List.flatMap_append, ih, Nat.succ_mul, List.range_add, List.map_append]
    congr 1
    simp only [List.flatMap_cons, List.flatMap_nil, List.append_nil, List.map_map]
    refine List.map_congr_left fun c hc => ?_
    have hc : c < C := List.mem_range.mp hc
    show (R, c) = ((R * C + c) / C, (R * C + c) % C)
    rw [Nat.mul_comm R C, Nat.mul_add_div hC, Nat.div_eq_of_lt hc, Nat.mul_add_mod, Nat.mod_eq_of_lt hc, Nat.add_zero]
theorem places_get {R C k : Nat} (hC : 0 < C) (hk : k < R * C) : (places R C)[k]? = some (k / C, k % C) := by
  rw [places_eq C hC, List.getElem?_map, List.getElem?_range hk]
  rfl
theorem wanted_get {R C k : Nat} {f : Nat → Nat → Option Nat} (hC : 0 < C) (hk : k < R * C) : (wanted R C f)[k]? = some (f (k / C) (k % C)) := by
  unfold wanted
  rw [List.getElem?_map, places_get hC hk]
  rfl
theorem wanted_drop {R C k : Nat} {f : Nat → Nat → Option Nat} (hC : 0 < C) (hk : k < R * C) : (wanted R C f).drop k = f (k / C) (k % C) :: (wanted R C f).drop (k + 1) := by
  have h := wanted_get (f := f) hC hk
  obtain ⟨h1, h2⟩ := List.getElem?_eq_some_iff.mp h
  rw [← h2]
  exact List.drop_eq_getElem_cons h1
/-- the last tiles -/
def lastC (C : Nat) (s : List Nat) : List Nat := s.drop (s.length - C)
theorem lastC_len (C : Nat) (s : List Nat) : (lastC C s).length = min s.length C := by
  unfold lastC
  rw [List.length_drop]
  omega
theorem lastC_get (C : Nat) (s : List Nat) (j : Nat) : (lastC C s).getD j 0 = s.getD (s.length - C + j) 0 := by
  unfold lastC
  simp [List.getD_eq_getElem?_getD, List.getElem?_drop]
theorem lastC_snoc (C : Nat) (hC : 0 < C) (s : List Nat) (x : Nat) : (lastC C s ++ [x]).drop ((lastC C s).length + 1 - C) = lastC C (s ++ [x]) := by
  rw [lastC_len]
  unfold lastC
  rw [List.length_append, List.length_singleton]
  rcases Nat.lt_or_ge s.length C with h | h
  · rw [Nat.min_eq_left (by omega), show s.length - C = 0 by omega, show s.length + 1 - C = 0 by omega]
    rfl
  · rw [Nat.min_eq_right h, show C + 1 - C = 1 by omega, show s.length + 1 - C = (s.length - C) + 1 by omega]
    rw [← List.drop_append_of_le_length (by omega), List.drop_drop]
theorem lastC_lt {n C : Nat} {s : List Nat} (h : ∀ i ∈ s, i < n) : ∀ i ∈ lastC C s, i < n := fun i hi => h i (List.mem_of_mem_drop hi)

/-! the counter -/
abbrev ctr (n R C : Nat) (t : Nat → Tl) (f : Nat → Nat → Option Nat) : D := ctrD "Counter" (tlsD n t) (fD R C f) (.list ((places R C).map plD)) (.int (C : Nat))
theorem int_beq (a b : Nat) : ((a : Int) == (b : Int)) = (a == b) := by
  rw [Bool.eq_iff_iff, beq_iff_eq, beq_iff_eq]
  omega
theorem fitting_ok (n R C : Nat) (t : Nat → Tl) (f : Nat → Nat → Option Nat) (s : List Nat) (k : Nat) (hn : n ≤ 1000) (hC : 0 < C ∧ C ≤ 100) (hk : k < R * C) (hs : s.length = k) (hl : ∀ i ∈ s, i < n) :
    m_Counter_fitting [ctr n R C t f, .int (k : Nat), nsD (lastC C s)] = .ok (.list (((List.range n).filter fun i => okAt t C s k (f (k / C) (k % C)) i).map fun (i : Nat) => .int (i : Nat))) := by
  unfold m_Counter_fitting b_Counter_fitting
  simp only [runD_ap]
  have hr : k / C < R := Nat.div_lt_of_lt_mul (by rw [Nat.mul_comm]; exact hk)
  have hc : k % C < C := Nat.mod_lt _ hC.1
  have hp : ((places R C).map plD)[k]? = some (plD (k / C, k % C)) := by rw [List.getElem?_map, places_get hC.1 hk]; rfl
  have hc2 : (k % C = 0) ∨ (0 < k % C ∧ 0 < k) := by
    rcases Nat.eq_zero_or_pos (k % C) with h | h
    · exact .inl h
    · exact .inr ⟨h, Nat.pos_of_ne_zero fun z => by rw [z] at h; simp at h⟩
  have hk0 : ¬ k % C = 0 → 0 < k := fun h => by
    rcases Nat.eq_zero_or_pos k with z | z
    · subst z; simp at h
    · exact z
  have f1 : ¬ k % C = 0 → ixD (nsD (lastC C s)) (.int (-1)) = some (.int (s.getD (k - 1) 0 : Nat)) := fun h => by
    have h0 := hk0 h
    rw [ns_last (lastC C s) (min k C - 1) (by rw [lastC_len, hs]; omega), lastC_get, hs, show k - C + (min k C - 1) = k - 1 by omega]
  have f2 : C ≤ k → ixD (nsD (lastC C s)) (.int 0) = some (.int (s.getD (k - C) 0 : Nat)) := fun h => by
    rw [show (0 : Int) = ((0 : Nat) : Int) from rfl, ns_at (lastC C s) 0 (by rw [lastC_len, hs]; omega), lastC_get, hs, Nat.add_zero]
  have hd : ∀ j, 0 < k → j < k → s.getD j 0 < n := fun j _ hj => by
    rw [List.getD_eq_getElem?_getD, List.getElem?_eq_getElem (by omega)]
    exact hl _ (List.getElem_mem _)
  have hrow : (k / C = 0) ↔ k < C := Nat.div_eq_zero_iff_lt hC.1
  generalize hw : f (k / C) (k % C) = w
  have hix : ixD (fD R C f) (.int ((k / C : Nat) : Int)) = some (rowD C (f (k / C))) := ix_f hr
  have hix2 : ixD (rowD C (f (k / C))) (.int ((k % C : Nat) : Int)) = some (oD w) := by rw [ix_r hc, hw]
  have ho : ∀ i, okAt t C s k w i = ((w == none || w == some i) && (k % C == 0 || (t (s.getD (k - 1) 0)).2.1 == (t i).2.2.2) && (decide (k < C) || (t (s.getD (k - C) 0)).2.2.1 == (t i).1)) := fun i => rfl
  generalize k / C = r at *
  generalize k % C = c at *
  simp [-List.map_map, hp, tgT, hix, hix2]
  rw [for_app (fun l : List D => [some (ctr n R C t f), some (.int (k : Nat)), some (nsD (lastC C s)), some (.int (r : Nat)), some (.int (c : Nat)), some (oD w), some (.list l), none, none, none]) (fun i : Nat => .tuple [.int (i : Nat), tlD (t i)]) (fun i => if okAt t C s k w i = true then [PyData.int (i : Nat)] else []) 1 1000 (List.range n) [] (fun i _ => by split <;> simp) (by simp; omega) (by rfl) (by rfl)]
  · simp [flat_if, retO_ap]
  · intro i hi l hlen
    have hi : i < n := List.mem_range.mp hi
    have hl2 : l.length < 1000000 := by omega
    have hwi : eqD (oD w) (.int (i : Nat)) = some (.bool (w == some i)) := eqD_oD w (some i)
    have hb2 : (w == none) = w.isNone := by cases w <;> rfl
    rw [ho, hb2]
    clear hix hix2 ho
    have hwb : (if w = none then (DL.R.ok (PyData.bool true) : DL.R D) else .ok (.bool (w == some i))) = .ok (.bool (decide (w = none ∨ w = some i))) := by
      by_cases h1 : w = none
      · simp [h1]
      · rw [if_neg h1]
        by_cases h2 : w = some i
        · simp [h2]
        · rw [beq_eq_false_iff_ne.mpr h2, decide_eq_false (by simp [h1, h2])]
    simp only [turnL]
    simp [tgT, hwi]
    rw [hwb]
    have hd1 := hd (k - 1)
    have hd2 := hd (k - C)
    simp only [List.getD_eq_getElem?_getD] at f1 f2 hd1 hd2
    generalize s[k - 1]?.getD 0 = x1 at f1 hd1 ⊢
    generalize s[k - C]?.getD 0 = x2 at f2 hd2 ⊢
    clear hd hl hs hp hb2 hwi hwb
    by_cases hp : w = none ∨ w = some i
    · rw [decide_eq_true hp]
      simp only [hp, true_and]
      by_cases c0 : c = 0
      · by_cases r0 : r = 0
        · have kC := hrow.mp r0
          simp [c0, r0, kC, hl2]
        · have kC : ¬ k < C := fun z => r0 (hrow.mpr z)
          have g2 := f2 (by omega)
          have hr0 : 0 < r := Nat.pos_of_ne_zero r0
          have hx2 := hd2 (by omega) (by omega)
          by_cases e2 : (t x2).2.2.1 = (t i).1 <;> simp [c0, hr0, kC, g2, hx2, hi, hl2, nat_bne, e2]
      · have g1 := f1 c0
        have hc0 : 0 < c := Nat.pos_of_ne_zero c0
        have k0 := hk0 c0
        have hx1 := hd1 k0 (by omega)
        by_cases r0 : r = 0
        · have kC := hrow.mp r0
          by_cases e1 : (t x1).2.1 = (t i).2.2.2 <;> simp [c0, hc0, r0, kC, g1, hx1, hi, hl2, nat_bne, e1]
        · have kC : ¬ k < C := fun z => r0 (hrow.mpr z)
          have g2 := f2 (by omega)
          have hr0 : 0 < r := Nat.pos_of_ne_zero r0
          have hx2 := hd2 (by omega) (by omega)
          by_cases e1 : (t x1).2.1 = (t i).2.2.2 <;> by_cases e2 : (t x2).2.2.1 = (t i).1 <;> simp [c0, hc0, hr0, kC, g1, g2, hx1, hx2, hi, hl2, nat_bne, e1, e2]
    · rw [decide_eq_false hp]
      simp only [hp, false_and, if_false]
      by_cases c0 : c = 0
      · by_cases r0 : r = 0
        · simp [c0, r0]
        · have kC : ¬ k < C := fun z => r0 (hrow.mpr z)
          have g2 := f2 (by omega)
          have hr0 : 0 < r := Nat.pos_of_ne_zero r0
          have hx2 := hd2 (by omega) (by omega)
          by_cases e2 : (t x2).2.2.1 = (t i).1 <;> simp [c0, hr0, g2, hx2, nat_bne, e2]
      · have g1 := f1 c0
        have hc0 : 0 < c := Nat.pos_of_ne_zero c0
        have k0 := hk0 c0
        have hx1 := hd1 k0 (by omega)
        by_cases r0 : r = 0
        · by_cases e1 : (t x1).2.1 = (t i).2.2.2 <;> simp [hc0, r0, g1, hx1, nat_bne, e1]
        · have kC : ¬ k < C := fun z => r0 (hrow.mpr z)
          have g2 := f2 (by omega)
          have hr0 : 0 < r := Nat.pos_of_ne_zero r0
          have hx2 := hd2 (by omega) (by omega)
          by_cases e1 : (t x1).2.1 = (t i).2.2.2 <;> by_cases e2 : (t x2).2.2.1 = (t i).1 <;> simp [hc0, hr0, g1, g2, hx1, hx2, nat_bne, e1, e2]
theorem cut_neg {α : Type} (xs : List α) (c : Nat) (h : 0 < c) : cutD xs (some (0 - (c : Int))) none = xs.drop (xs.length - c) := by
  unfold cutD
  rw [HT.sIx_none]
  have e : HT.sIx xs.length 0 (some (0 - (c : Int))) = xs.length - c := by
    show (if (0 - (c : Int)) < 0 then ((0 - (c : Int)) + (xs.length : Int)).toNat else _) = _
    rw [if_pos (by omega)]
    omega
  rw [e, List.take_of_length_le (by simp)]
theorem moved_ok (n R C : Nat) (t : Nat → Tl) (f : Nat → Nat → Option Nat) (s : List Nat) (x : Nat) (hC : 0 < C ∧ C ≤ 100) : m_Counter_moved_on [ctr n R C t f, nsD (lastC C s), .int (x : Nat)] = .ok (nsD (lastC C (s ++ [x]))) := by
  unfold m_Counter_moved_on b_Counter_moved_on
  simp only [runD_ap]
  have hl : (lastC C s).length ≤ 100 := by rw [lastC_len]; omega
  have ha : addD (nsD (lastC C s)) (.tuple [.int (x : Nat)]) = some (nsD (lastC C s ++ [x])) := ns_add _ x (by omega)
  have hcut : slD (nsD (lastC C s ++ [x])) (some (0 - (C : Int))) none = some (nsD (lastC C (s ++ [x]))) := by
    unfold nsD
    rw [slD_t, cut_neg _ C hC.1, List.length_map, List.length_append, List.length_singleton, ← List.map_drop, lastC_snoc C hC.1]
  simp only [Int.zero_sub] at hcut
  simp [ha, hcut]

/-! a full floor that fits is right -/
def Fits (t : Nat → Tl) (R C : Nat) (u : Nat → Nat → Nat) : Prop := (∀ r c, r < R → c + 1 < C → (t (u r c)).2.1 = (t (u r (c + 1))).2.2.2) ∧ ∀ r c, r + 1 < R → c < C → (t (u r c)).2.2.1 = (t (u (r + 1) c)).1

/-! what a fill is -/
structure IsFill (n : Nat) (t : Nat → Tl) (C : Nat) (ws : List (Option Nat)) (k : Nat) (s : List Nat) : Prop where
  len : s.length = k
  lt : ∀ i ∈ s, i < n
  ok : ∀ j, j < k → okAt t C s j (ws.getD j none) (s.getD j 0) = true
theorem okAt_app {t : Nat → Tl} {C : Nat} (hC : 0 < C) {s : List Nat} {x : Nat} {j : Nat} (w : Option Nat) (i : Nat) (h : j ≤ s.length) : okAt t C (s ++ [x]) j w i = okAt t C s j w i := by
  unfold okAt
  have e : ∀ m, m < s.length → (s ++ [x]).getD m 0 = s.getD m 0 := fun m hm => by
    simp [List.getD_eq_getElem?_getD, List.getElem?_append_left hm]
  by_cases m0 : j % C = 0
  · by_cases m1 : j < C
    · simp [m0, m1]
    · rw [e (j - C) (by omega)]
      simp [m0]
  · have : 0 < j := by
      rcases Nat.eq_zero_or_pos j with z | z
      · subst z; simp at m0
      · exact z
    by_cases m1 : j < C
    · rw [e (j - 1) (by omega)]
      simp [m1]
    · rw [e (j - 1) (by omega), e (j - C) (by omega)]
theorem mem_longer {n : Nat} {t : Nat → Tl} {C k : Nat} (hC : 0 < C) {ws : List (Option Nat)} {made : List (List Nat)} (h : ∀ s, s ∈ made ↔ IsFill n t C ws k s) (s : List Nat) : s ∈ longer n t C k (ws.getD k none) made ↔ IsFill n t C ws (k + 1) s := by
  unfold longer
  simp only [List.mem_flatMap, List.mem_map, List.mem_filter, List.mem_range]
  constructor
  · rintro ⟨u, hu, i, ⟨hi, ho⟩, rfl⟩
    obtain ⟨h1, h2, h3⟩ := (h u).mp hu
    refine ⟨by simp [h1], fun j hj => ?_, fun j hj => ?_⟩
    · rcases List.mem_append.mp hj with hj | hj
      · exact h2 j hj
      · rw [List.mem_singleton] at hj; omega
    · rw [okAt_app hC _ _ (by omega)]
      by_cases e : j = k
      · subst e
        have : (u ++ [i]).getD j 0 = i := by simp [List.getD_eq_getElem?_getD, ← h1]
        rw [this]
        exact ho
      · have : (u ++ [i]).getD j 0 = u.getD j 0 := by simp [List.getD_eq_getElem?_getD, List.getElem?_append_left (show j < u.length by omega)]
        rw [this]
        exact h3 j (by omega)
  · rintro ⟨h1, h2, h3⟩
    have hd : s = s.take k ++ [s.getD k 0] := by
      have hk : k < s.length := by omega
      rw [List.getD_eq_getElem?_getD, List.getElem?_eq_getElem hk]
      simp only [Option.getD_some]
      rw [← List.take_succ_eq_append_getElem hk, List.take_of_length_le (by omega)]
    generalize hx : s.getD k 0 = x at hd
    generalize hu : s.take k = u at hd
    have ul : u.length = k := by rw [← hu, List.length_take]; omega
    subst hd
    refine ⟨u, (h u).mpr ⟨ul, fun i hi => h2 i (List.mem_append_left _ hi), fun j hj => ?_⟩, x, ⟨h2 x (by simp), ?_⟩, rfl⟩
    · have := h3 j (by omega)
      rw [okAt_app hC _ _ (by omega)] at this
      have e : (u ++ [x]).getD j 0 = u.getD j 0 := by simp [List.getD_eq_getElem?_getD, List.getElem?_append_left (show j < u.length by omega)]
      rw [e] at this
      exact this
    · have := h3 k (by omega)
      rw [okAt_app hC _ _ (by omega), hx] at this
      exact this
theorem mem_fills {n : Nat} {t : Nat → Tl} {R C : Nat} (hC : 0 < C) {f : Nat → Nat → Option Nat} (s : List Nat) : s ∈ fillsL n t R C f ↔ IsFill n t C (wanted R C f) (R * C) s := by
  have hz : (wanted R C f).zipIdx.length = R * C := by rw [List.length_zipIdx, wanted_len]
  have := foldi_inv (xs := (wanted R C f).zipIdx) (s := [[]]) (n := 0) (f := fun made (p : Option Nat × Nat) => longer n t C p.2 p.1 made) (I := fun k made => ∀ s, s ∈ made ↔ IsFill n t C (wanted R C f) k s) (fun s => by
    rw [List.mem_singleton]
    exact ⟨fun e => by subst e; exact ⟨rfl, fun i hi => (nomatch hi), fun j hj => absurd hj (by omega)⟩, fun h => List.length_eq_zero_iff.mp h.len⟩) (fun i p made hp h => by
    rw [Nat.zero_add] at h ⊢
    rw [List.getElem?_zipIdx] at hp
    cases e : (wanted R C f)[i]? with
    | none => rw [e] at hp; cases hp
    | some x =>
      rw [e] at hp
      cases hp
      have q := mem_longer hC h
      rw [List.getD_eq_getElem?_getD, e] at q
      simpa using q)
  rw [Nat.zero_add, hz] at this
  exact this s
theorem fits_of_fill {n : Nat} {t : Nat → Tl} {R C : Nat} (hC : 0 < C) {ws : List (Option Nat)} {s : List Nat} (h : IsFill n t C ws (R * C) s) : Fits t R C fun r c => s.getD (r * C + c) 0 := by
  have key : ∀ r c, r < R → c < C → r * C + c < R * C := fun r c h1 h2 => by
    have := Nat.mul_le_mul_right C (show r + 1 ≤ R from h1)
    rw [Nat.succ_mul] at this
    omega
  refine ⟨fun r c h1 h2 => ?_, fun r c h1 h2 => ?_⟩
  · have := h.ok (r * C + (c + 1)) (key r (c + 1) h1 h2)
    unfold okAt at this
    simp only [Bool.and_eq_true] at this
    have q := this.1.2
    have e : (r * C + (c + 1)) % C = c + 1 := by rw [Nat.mul_comm, Nat.mul_add_mod]; exact Nat.mod_eq_of_lt h2
    rw [e] at q
    have e2 : r * C + (c + 1) - 1 = r * C + c := by omega
    rw [e2] at q
    simpa using q
  · have := h.ok ((r + 1) * C + c) (key (r + 1) c h1 h2)
    unfold okAt at this
    simp only [Bool.and_eq_true] at this
    have q := this.2
    have e : ¬ (r + 1) * C + c < C := by rw [Nat.succ_mul]; omega
    have e2 : (r + 1) * C + c - C = r * C + c := by rw [Nat.succ_mul]; omega
    rw [e2] at q
    simpa [e] using q
theorem fill_lt {n : Nat} {t : Nat → Tl} {C k : Nat} {ws : List (Option Nat)} {s : List Nat} (hn : 0 < n) (h : IsFill n t C ws k s) (j : Nat) : s.getD j 0 < n := by
  rw [List.getD_eq_getElem?_getD]
  cases e : s[j]? with
  | none => exact hn
  | some x => exact h.lt x (List.mem_of_getElem? e)

/-! fills as functions -/
structure FunFill (n : Nat) (t : Nat → Tl) (R C : Nat) (f : Nat → Nat → Option Nat) (u : Nat → Nat → Nat) : Prop where
  lt : ∀ r c, r < R → c < C → u r c < n
  has : ∀ r c, r < R → c < C → f r c = none ∨ f r c = some (u r c)
  fits : Fits t R C u
abbrev unF (C : Nat) (s : List Nat) (r c : Nat) : Nat := s.getD (r * C + c) 0
theorem rc_lt {R C r c : Nat} (h1 : r < R) (h2 : c < C) : r * C + c < R * C := by
  have := Nat.mul_le_mul_right C (show r + 1 ≤ R from h1)
  rw [Nat.succ_mul] at this
  omega
theorem wanted_at {R C : Nat} {f : Nat → Nat → Option Nat} {r c : Nat} (h1 : r < R) (h2 : c < C) : (wanted R C f).getD (r * C + c) none = f r c := by
  have hC : 0 < C := by omega
  rw [List.getD_eq_getElem?_getD, wanted_get hC (rc_lt h1 h2)]
  have e1 : (r * C + c) / C = r := by rw [Nat.mul_comm, Nat.mul_add_div hC, Nat.div_eq_of_lt h2, Nat.add_zero]
  have e2 : (r * C + c) % C = c := by rw [Nat.mul_comm, Nat.mul_add_mod]; exact Nat.mod_eq_of_lt h2
  rw [e1, e2]
  rfl
theorem mem_fun {n : Nat} {t : Nat → Tl} {R C : Nat} (hn : 0 < n) (hC : 0 < C) {f : Nat → Nat → Option Nat} (s : List Nat) : s ∈ fillsL n t R C f ↔ s.length = R * C ∧ FunFill n t R C f (unF C s) := by
  rw [mem_fills hC]
  constructor
  · intro h
    refine ⟨h.len, fun r c _ _ => fill_lt hn h _, fun r c h1 h2 => ?_, fits_of_fill hC h⟩
    have := h.ok (r * C + c) (rc_lt h1 h2)
    unfold okAt at this
    simp only [Bool.and_eq_true] at this
    have q := this.1.1
    rw [wanted_at h1 h2] at q
    simpa using q
  · rintro ⟨hl, h⟩
    refine ⟨hl, fun i hi => ?_, fun j hj => ?_⟩
    · obtain ⟨j, hj, rfl⟩ := List.getElem_of_mem hi
      have hj2 : j < R * C := by omega
      have := h.lt (j / C) (j % C) (Nat.div_lt_of_lt_mul (by rw [Nat.mul_comm]; exact hj2)) (Nat.mod_lt _ hC)
      unfold unF at this
      rw [Nat.mul_comm, Nat.div_add_mod, List.getD_eq_getElem?_getD, List.getElem?_eq_getElem hj] at this
      exact this
    · have hr : j / C < R := Nat.div_lt_of_lt_mul (by rw [Nat.mul_comm]; exact hj)
      have hc : j % C < C := Nat.mod_lt _ hC
      have ej : j / C * C + j % C = j := by rw [Nat.mul_comm]; exact Nat.div_add_mod j C
      have hh := h.has _ _ hr hc
      have e0 : unF C s (j / C) (j % C) = s.getD j 0 := by unfold unF; rw [ej]
      rw [e0] at hh
      have hw : (wanted R C f).getD j none = f (j / C) (j % C) := by
        have := wanted_at (f := f) hr hc
        rw [ej] at this
        exact this
      rw [hw]
      unfold okAt
      simp only [Bool.and_eq_true, Bool.or_eq_true, beq_iff_eq, decide_eq_true_eq]
      refine ⟨⟨hh, ?_⟩, ?_⟩
      · by_cases h0 : j % C = 0
        · exact .inl h0
        · right
          have := h.fits.1 (j / C) (j % C - 1) hr (by omega)
          unfold unF at this
          rw [show j / C * C + (j % C - 1) = j - 1 by omega, show j / C * C + (j % C - 1 + 1) = j by omega] at this
          exact this
      · by_cases h0 : j < C
        · exact .inl h0
        · right
          have hr1 : 0 < j / C := Nat.div_pos (by omega) hC
          have := h.fits.2 (j / C - 1) (j % C) (by omega) hc
          unfold unF at this
          have em : (j / C - 1) * C + C = j / C * C := by
            rw [← Nat.succ_mul]; congr 1; omega
          rw [show (j / C - 1) * C + j % C = j - C by omega, show (j / C - 1 + 1) * C + j % C = j by rw [Nat.sub_add_cancel hr1]; exact ej] at this
          exact this
def listU (R C : Nat) (u : Nat → Nat → Nat) : List Nat := (places R C).map fun p => u p.1 p.2
theorem listU_len (R C : Nat) (u : Nat → Nat → Nat) : (listU R C u).length = R * C := by unfold listU; rw [List.length_map, len_places]
theorem listU_get {R C r c : Nat} (u : Nat → Nat → Nat) (h1 : r < R) (h2 : c < C) : unF C (listU R C u) r c = u r c := by
  have hC : 0 < C := by omega
  unfold unF listU
  rw [List.getD_eq_getElem?_getD, List.getElem?_map, places_get hC (rc_lt h1 h2)]
  have e1 : (r * C + c) / C = r := by rw [Nat.mul_comm, Nat.mul_add_div hC, Nat.div_eq_of_lt h2, Nat.add_zero]
  have e2 : (r * C + c) % C = c := by rw [Nat.mul_comm, Nat.mul_add_mod]; exact Nat.mod_eq_of_lt h2
  rw [e1, e2]
  rfl
theorem funFill_congr {n : Nat} {t : Nat → Tl} {R C : Nat} {f : Nat → Nat → Option Nat} {u v : Nat → Nat → Nat} (h : FunFill n t R C f u) (e : ∀ r c, r < R → c < C → v r c = u r c) : FunFill n t R C f v :=
  ⟨fun r c h1 h2 => by rw [e r c h1 h2]; exact h.lt r c h1 h2, fun r c h1 h2 => by rw [e r c h1 h2]; exact h.has r c h1 h2,
    fun r c h1 h2 => by rw [e r c h1 (by omega), e r (c + 1) h1 h2]; exact h.fits.1 r c h1 h2, fun r c h1 h2 => by rw [e r c (by omega) h2, e (r + 1) c h1 h2]; exact h.fits.2 r c h1 h2⟩
theorem nodup_map_on {α β : Type} (g : α → β) : ∀ l : List α, l.Nodup → (∀ x ∈ l, ∀ y ∈ l, g x = g y → x = y) → (l.map g).Nodup
  | [], _, _ => by simp
  | a :: l, hn, h => by
    rw [List.nodup_cons] at hn
    rw [List.map_cons, List.nodup_cons]
    refine ⟨fun hm => ?_, nodup_map_on g l hn.2 fun x hx y hy => h x (List.mem_cons_of_mem _ hx) y (List.mem_cons_of_mem _ hy)⟩
    obtain ⟨y, hy, e⟩ := List.mem_map.mp hm
    have := h a List.mem_cons_self y (List.mem_cons_of_mem _ hy) e.symm
    subst this
    exact hn.1 hy
theorem nodup_flat {α β : Type} (g : α → List β) : ∀ l : List α, l.Nodup → (∀ x ∈ l, (g x).Nodup) → (∀ x ∈ l, ∀ y ∈ l, ∀ z, z ∈ g x → z ∈ g y → x = y) → (l.flatMap g).Nodup
  | [], _, _, _ => by simp
  | a :: l, hn, h1, h2 => by
    rw [List.nodup_cons] at hn
    rw [List.flatMap_cons, List.nodup_append]
    refine ⟨h1 a List.mem_cons_self, nodup_flat g l hn.2 (fun x hx => h1 x (List.mem_cons_of_mem _ hx)) fun x hx y hy => h2 x (List.mem_cons_of_mem _ hx) y (List.mem_cons_of_mem _ hy), fun x hx y hy e => ?_⟩
    subst e
    obtain ⟨b, hb, hb2⟩ := List.mem_flatMap.mp hy
    have := h2 a List.mem_cons_self b (List.mem_cons_of_mem _ hb) x hx hb2
    subst this
    exact hn.1 hb
theorem ext_pre (n : Nat) (t : Nat → Tl) (C : Nat) : ∀ (ws : List (Option Nat)) (k : Nat) (s z : List Nat), z ∈ ext n t C ws k s → ∃ y, z = s ++ y
  | [], k, s, z, h => by
    rw [ext, List.mem_singleton] at h
    exact ⟨[], by rw [h, List.append_nil]⟩
  | w :: ws, k, s, z, h => by
    rw [ext] at h
    obtain ⟨i, _, h⟩ := List.mem_flatMap.mp h
    obtain ⟨y, e⟩ := ext_pre n t C ws (k + 1) (s ++ [i]) z h
    exact ⟨i :: y, by rw [e]; simp⟩
theorem ext_nodup (n : Nat) (t : Nat → Tl) (C : Nat) : ∀ (ws : List (Option Nat)) (k : Nat) (s : List Nat), (ext n t C ws k s).Nodup
  | [], k, s => by simp [ext]
  | w :: ws, k, s => by
    rw [ext]
    refine nodup_flat _ _ (List.nodup_range.filter _) (fun i _ => ext_nodup n t C ws (k + 1) (s ++ [i])) fun i _ j _ z h1 h2 => ?_
    obtain ⟨y, e1⟩ := ext_pre n t C ws (k + 1) (s ++ [i]) z h1
    obtain ⟨y2, e2⟩ := ext_pre n t C ws (k + 1) (s ++ [j]) z h2
    rw [e1] at e2
    simp at e2
    exact e2.1
theorem fills_nodup (n : Nat) (t : Nat → Tl) (R C : Nat) (f : Nat → Nat → Option Nat) : (fillsL n t R C f).Nodup := by
  rw [fills_ext]; exact ext_nodup n t C _ _ _
/-- as many fills at least, by a map of fills -/
theorem fills_le {n n2 R C R2 C2 : Nat} {t t2 : Nat → Tl} {f f2 : Nat → Nat → Option Nat} (hn : 0 < n) (hC : 0 < C) (hn2 : 0 < n2) (hC2 : 0 < C2) (φ : (Nat → Nat → Nat) → Nat → Nat → Nat) (h : ∀ u, FunFill n t R C f u → FunFill n2 t2 R2 C2 f2 (φ u))
    (hi : ∀ u v, FunFill n t R C f u → FunFill n t R C f v → (∀ r c, r < R2 → c < C2 → φ u r c = φ v r c) → ∀ r c, r < R → c < C → u r c = v r c) : (fillsL n t R C f).length ≤ (fillsL n2 t2 R2 C2 f2).length := by
  have g := nodup_map_on (fun s => listU R2 C2 (φ (unF C s))) (fillsL n t R C f) (fills_nodup n t R C f) fun x hx y hy e => by
    obtain ⟨l1, f1⟩ := (mem_fun hn hC x).mp hx
    obtain ⟨l2, f2⟩ := (mem_fun hn hC y).mp hy
    have e : listU R2 C2 (φ (unF C x)) = listU R2 C2 (φ (unF C y)) := e
    have q := hi _ _ f1 f2 fun r c h1 h2 => by rw [← listU_get (φ (unF C x)) h1 h2, e, listU_get _ h1 h2]
    apply List.ext_getElem (by omega)
    intro j hj1 hj2
    have hj : j < R * C := by omega
    have := q (j / C) (j % C) (Nat.div_lt_of_lt_mul (by rw [Nat.mul_comm]; exact hj)) (Nat.mod_lt _ hC)
    unfold unF at this
    rw [Nat.mul_comm, Nat.div_add_mod, List.getD_eq_getElem?_getD, List.getD_eq_getElem?_getD, List.getElem?_eq_getElem hj1, List.getElem?_eq_getElem hj2] at this
    exact this
  have := nodup_len _ (fillsL n2 t2 R2 C2 f2) g fun z hz => by
    obtain ⟨s, hs, rfl⟩ := List.mem_map.mp hz
    obtain ⟨l1, f1⟩ := (mem_fun hn hC s).mp hs
    exact (mem_fun hn2 hC2 _).mpr ⟨listU_len _ _ _, funFill_congr (h _ f1) fun r c h1 h2 => listU_get _ h1 h2⟩
  rw [List.length_map] at this
  exact this

/-! rows of numbers, edges -/
theorem range3_ok (R C : Nat) (hC : 0 < C ∧ C ≤ 100) (hR : R ≤ 100) : range3D [.int 0, .int ((R * C : Nat) : Int), .int (C : Nat)] = some ((List.range R).map fun k => .int ((k * C : Nat) : Int)) := by
  have hl : R * C ≤ 10000 := by have := Nat.mul_le_mul hR hC.2; omega
  have hs : (Builtin.Range.rangeSize 0 ((R * C : Nat) : Int) (C : Nat)).toNat = R := by
    unfold Builtin.Range.rangeSize
    rw [if_pos (by omega)]
    by_cases h0 : R = 0
    · subst h0
      simp
    · have : 0 < R * C := Nat.mul_pos (by omega) hC.1
      rw [if_pos (by omega)]
      have e : ((R * C : Nat) : Int) - 0 - 1 = ((R - 1 : Nat) : Int) * (C : Int) + ((C : Int) - 1) := by
        have : R * C = (R - 1) * C + C := by
          rw [← Nat.succ_mul]
          congr 1
          omega
        rw [this]
        push_cast
        omega
      have d : (((R - 1 : Nat) : Int) * (C : Int) + ((C : Int) - 1)) / (C : Int) = ((R - 1 : Nat) : Int) := by
        rw [Int.add_comm, Int.add_mul_ediv_right _ _ (by omega), Int.ediv_eq_zero_of_lt (by omega) (by omega)]
        omega
      rw [e, d]
      omega
  unfold range3D
  simp only []
  rw [if_pos ⟨by omega, by omega, by omega, by omega, by omega, by omega⟩, hs]
  unfold stepL
  congr 1
  refine List.map_congr_left fun k hk => ?_
  congr 1
  push_cast
  omega

/-! as_floor -/
theorem asf_ok (R C : Nat) (s : List Nat) (hC : 0 < C ∧ C ≤ 100) (hR : R ≤ 100) (hs : s.length = R * C) : m_as_floor [.list (s.map fun i => .int (i : Nat)), .int (C : Nat)] = .ok (fD R C fun r c => some (s.getD (r * C + c) 0)) := by
  unfold m_as_floor b_as_floor
  simp only [runD_ap]
  have hr3 := range3_ok R C hC hR
  rw [← hs] at hr3
  have hl : lenD [.list (s.map fun i => PyData.int (i : Nat))] = some (.int (s.length : Nat)) := by simp
  have q : R ≤ 1000000 := by omega
  simp [-List.map_map, hl, hr3, q]
  rw [comp_map (fun r : Nat => PyData.int ((r * C : Nat) : Int)) (fun r => rowD C fun c => some (s.getD (r * C + c) 0)) (List.range R) (by simp) (fun r hr => by
    have hr := List.mem_range.mp hr
    have hb : r * C + C ≤ s.length := by
      rw [hs, ← Nat.succ_mul]
      exact Nat.mul_le_mul_right C hr
    have e : cutD (s.map fun i => PyData.int (i : Nat)) (some ((r * C : Nat) : Int)) (some (((r * C : Nat) : Int) + (C : Int))) = (List.range C).map fun c => oD (some (s.getD (r * C + c) 0)) := by
      rw [← Int.natCast_add, cut_nat, show r * C + C - r * C = C by omega]
      apply List.ext_getElem
      · simp; omega
      · intro i h1 h2
        simp at h2
        have : r * C + i < s.length := by omega
        simp [List.getD_eq_getElem?_getD, this]
    simp only [turnC, tgN_ap, ro_some, rb_ok]
    simp [nsD, -List.map_map] at e ⊢
    rw [e]
    rfl)]
  simp
  rfl

@[simp] theorem endS_ap (g : SF) (ρ : DL.Env) : endS g ρ = match g ρ with
  | .rt d ρ' => .rt d (List.replicate ρ'.length none)
  | .err c ρ' => .err c (List.replicate ρ'.length none)
  | _ => .bad := rfl
theorem li_last (s : List Nat) (y : Nat) : ixD (.list ((s ++ [y]).map fun i => .int (i : Nat))) (.int (-1)) = some (.int (y : Nat)) := by
  show atI _ (-1) = _
  rw [at_neg1, List.length_map, List.length_append, List.length_singleton, ns_get _ _ (by simp)]
  simp
theorem noList_ns (s : List Nat) : noList (nsD s) = true := by
  unfold nsD noList
  induction s with
  | nil => rfl
  | cons x s ih => simpa [noListA] using ih

/-! empty floors -/
theorem rep_none (C : Nat) : (List.replicate C [PyData.none]).flatten = (List.range C).map fun _ => oD none := by
  induction C with
  | zero => rfl
  | succ n ih => rw [List.replicate_succ', List.flatten_append, ih, List.range_succ, List.map_append]; rfl
theorem rep_row (R C : Nat) (g : Nat → Option Nat) : (List.replicate R [rowD C g]).flatten = (List.range R).map fun _ => rowD C g := by
  induction R with
  | zero => rfl
  | succ n ih => rw [List.replicate_succ', List.flatten_append, ih, List.range_succ, List.map_append]; rfl
theorem empty_ok (R C : Nat) (hR : 0 < R ∧ R ≤ 100) (hC : 0 < C ∧ C ≤ 100) : m_empty [.int (R : Nat), .int (C : Nat)] = .ok (fD R C fun _ _ => none) := by
  unfold m_empty b_empty
  simp only [runD_ap]
  have h1 : mulD (.tuple [.none]) (.int (C : Nat)) = some (rowD C fun _ => none) := by
    rw [mulD_t, if_pos ⟨by simp, by omega, by omega, by simp⟩, Int.toNat_natCast, rep_none]
    rfl
  have h2 : mulD (.tuple [rowD C fun _ => none]) (.int (R : Nat)) = some (fD R C fun _ _ => none) := by
    rw [mulD_t, if_pos ⟨by simp, by omega, by omega, by simp⟩, Int.toNat_natCast, rep_row]
    rfl
  simp [h1, h2]

/-! the drawn sides -/
theorem sides_ok (ns : List Int) (a : Int) (ha : 0 ≤ a) : ∃ R C : Nat, m_l_sides [scr ns, .int a] = .ok (.tuple [.int (R : Nat), .int (C : Nat)]) ∧ 0 < R ∧ 0 < C ∧ R ≤ 3 ∧ C ≤ 4 ∧ R * C ≤ 6 := by
  unfold m_l_sides b_l_sides
  simp only [runD_ap]
  simp
  rw [pick_ok ns a 10 ha (by omega)]
  have hp := pick_lt ns a 10 (by omega)
  generalize pickV ns a 10 = k at hp
  have h10 : k = 0 ∨ k = 1 ∨ k = 2 ∨ k = 3 ∨ k = 4 ∨ k = 5 ∨ k = 6 ∨ k = 7 ∨ k = 8 ∨ k = 9 := by omega
  rcases h10 with e | e | e | e | e | e | e | e | e | e <;> subst e
  · exact ⟨1, 1, by simp, by omega⟩
  · exact ⟨1, 2, by simp, by omega⟩
  · exact ⟨2, 1, by simp, by omega⟩
  · exact ⟨2, 2, by simp, by omega⟩
  · exact ⟨2, 2, by simp, by omega⟩
  · exact ⟨1, 4, by simp, by omega⟩
  · exact ⟨2, 3, by simp, by omega⟩
  · exact ⟨3, 2, by simp, by omega⟩
  · exact ⟨3, 1, by simp, by omega⟩
  · exact ⟨2, 3, by simp, by omega⟩

/-! the least of a list, and how often it stands -/
def leastI : List Int → Option Int
  | [] => none
  | x :: l => some (l.foldl (fun a y => if y < a then y else a) x)
theorem fold_min (l : List Int) : ∀ x : Int, (l.foldl (fun a y => if y < a then y else a) x ≤ x) ∧ (∀ y ∈ l, l.foldl (fun a y => if y < a then y else a) x ≤ y) ∧ (l.foldl (fun a y => if y < a then y else a) x = x ∨ l.foldl (fun a y => if y < a then y else a) x ∈ l) := by
  induction l with
  | nil => intro x; exact ⟨Int.le_refl _, (fun _ h => nomatch h), .inl rfl⟩
  | cons z l ih =>
    intro x
    rw [List.foldl_cons]
    by_cases h : z < x
    · rw [if_pos h]
      obtain ⟨a, b, c⟩ := ih z
      refine ⟨by omega, fun y hy => ?_, ?_⟩
      · rcases List.mem_cons.mp hy with rfl | hy
        · exact a
        · exact b y hy
      · rcases c with c | c
        · exact .inr (by rw [c]; exact List.mem_cons_self)
        · exact .inr (List.mem_cons_of_mem _ c)
    · rw [if_neg h]
      obtain ⟨a, b, c⟩ := ih x
      refine ⟨a, fun y hy => ?_, ?_⟩
      · rcases List.mem_cons.mp hy with rfl | hy
        · omega
        · exact b y hy
      · rcases c with c | c
        · exact .inl c
        · exact .inr (List.mem_cons_of_mem _ c)
theorem least_iff {l : List Int} {m : Int} : leastI l = some m ↔ m ∈ l ∧ ∀ y ∈ l, m ≤ y := by
  cases l with
  | nil => simp [leastI]
  | cons x l =>
    obtain ⟨a, b, c⟩ := fold_min l x
    unfold leastI
    constructor
    · intro h
      cases h
      refine ⟨?_, fun y hy => ?_⟩
      · rcases c with c | c
        · rw [c]; exact List.mem_cons_self
        · exact List.mem_cons_of_mem _ c
      · rcases List.mem_cons.mp hy with rfl | hy
        · exact a
        · exact b y hy
    · rintro ⟨h1, h2⟩
      have e1 : m ≤ l.foldl (fun a y => if y < a then y else a) x := by
        rcases c with c | c
        · rw [c]; exact h2 x List.mem_cons_self
        · exact h2 _ (List.mem_cons_of_mem _ c)
      have e2 : l.foldl (fun a y => if y < a then y else a) x ≤ m := by
        rcases List.mem_cons.mp h1 with rfl | h1
        · exact a
        · exact b m h1
      show some _ = some m
      rw [Int.le_antisymm e2 e1]
theorem least_none {l : List Int} : leastI l = none ↔ l = [] := by cases l <;> simp [leastI]
/-- the least, and how often -/
def mcI (l : List Int) : Option (Int × Nat) := (leastI l).map fun m => (m, l.countP fun x => x == m)
theorem mc_iff {l : List Int} {m : Int} {c : Nat} : mcI l = some (m, c) ↔ (m ∈ l ∧ ∀ y ∈ l, m ≤ y) ∧ c = l.countP fun x => x == m := by
  unfold mcI
  rw [Option.map_eq_some_iff]
  constructor
  · rintro ⟨m', h, e⟩
    cases e
    exact ⟨least_iff.mp h, rfl⟩
  · rintro ⟨h1, h2⟩
    exact ⟨m, least_iff.mpr h1, by rw [h2]⟩
theorem mc_none {l : List Int} : mcI l = none ↔ l = [] := by
  unfold mcI
  rw [Option.map_eq_none_iff, least_none]

/-! the least of lists put together -/
def rowsI {α : Type} (l : List α) (a : α → Int) (g : α → List Int) : List (Int × Nat) := l.filterMap fun i => (mcI (g i)).map fun q => (a i + q.1, q.2)
def bestR (rows : List (Int × Nat)) : Option (Int × Nat) := (leastI (rows.map (·.1))).map fun m => (m, ((rows.filter fun q => q.1 == m).map (·.2)).sum)
theorem countP_shift (a m : Int) (l : List Int) : (l.map fun x => a + x).countP (fun x => x == m) = l.countP fun x => x == m - a := by
  rw [List.countP_map]
  refine List.countP_congr fun x _ => ?_
  simp only [Function.comp, beq_iff_eq]
  omega
theorem mc_flat {α : Type} (l : List α) (a : α → Int) (g : α → List Int) : mcI (l.flatMap fun i => (g i).map fun x => a i + x) = bestR (rowsI l a g) := by
  have mem : ∀ y, y ∈ (rowsI l a g).map (·.1) ↔ ∃ i ∈ l, ∃ m, leastI (g i) = some m ∧ y = a i + m := fun y => by
    unfold rowsI
    rw [List.mem_map]
    constructor
    · rintro ⟨q, hq, rfl⟩
      obtain ⟨i, hi, e⟩ := List.mem_filterMap.mp hq
      obtain ⟨⟨m, c⟩, e1, e2⟩ := Option.map_eq_some_iff.mp e
      obtain ⟨h1, _⟩ := mc_iff.mp e1
      exact ⟨i, hi, m, least_iff.mpr h1, by rw [← e2]⟩
    · rintro ⟨i, hi, m, e, rfl⟩
      exact ⟨(a i + m, _), List.mem_filterMap.mpr ⟨i, hi, by unfold mcI; rw [e]; rfl⟩, rfl⟩
  have memT : ∀ y, (y ∈ l.flatMap fun i => (g i).map fun x => a i + x) ↔ ∃ i ∈ l, ∃ x ∈ g i, y = a i + x := fun y => by
    rw [List.mem_flatMap]
    constructor
    · rintro ⟨i, hi, h⟩
      obtain ⟨x, hx, rfl⟩ := List.mem_map.mp h
      exact ⟨i, hi, x, hx, rfl⟩
    · rintro ⟨i, hi, x, hx, rfl⟩
      exact ⟨i, hi, List.mem_map.mpr ⟨x, hx, rfl⟩⟩
  have hl : leastI (l.flatMap fun i => (g i).map fun x => a i + x) = leastI ((rowsI l a g).map (·.1)) := by
    have key : ∀ m, leastI ((rowsI l a g).map (·.1)) = some m → leastI (l.flatMap fun i => (g i).map fun x => a i + x) = some m := fun m h => by
      obtain ⟨h1, h2⟩ := least_iff.mp h
      obtain ⟨i, hi, x, e, rfl⟩ := (mem m).mp h1
      obtain ⟨q1, q2⟩ := least_iff.mp e
      refine least_iff.mpr ⟨(memT _).mpr ⟨i, hi, x, q1, rfl⟩, fun y hy => ?_⟩
      obtain ⟨j, hj, z, hz, rfl⟩ := (memT y).mp hy
      cases e2 : leastI (g j) with
      | none => rw [least_none] at e2; rw [e2] at hz; cases hz
      | some mj =>
        have := h2 (a j + mj) ((mem _).mpr ⟨j, hj, mj, e2, rfl⟩)
        have := (least_iff.mp e2).2 z hz
        omega
    cases h : leastI ((rowsI l a g).map (·.1)) with
    | some m => exact key m h
    | none =>
      rw [least_none] at h ⊢
      rw [List.flatMap_eq_nil_iff]
      intro i hi
      cases e2 : leastI (g i) with
      | none => rw [least_none] at e2; rw [e2]; rfl
      | some mj =>
        have := (mem (a i + mj)).mpr ⟨i, hi, mj, e2, rfl⟩
        rw [h] at this
        cases this
  unfold bestR mcI
  rw [hl]
  cases h : leastI ((rowsI l a g).map (·.1)) with
  | none => rfl
  | some m =>
    show some _ = some _
    refine congrArg (fun c => some (m, c)) ?_
    have hmin := (least_iff.mp h).2
    have sub : ∀ k : List α, (∀ i ∈ k, i ∈ l) → (k.flatMap fun i => (g i).map fun x => a i + x).countP (fun x => x == m) = (((rowsI k a g).filter fun q => q.1 == m).map (·.2)).sum := fun k => by
      induction k with
      | nil => intro _; rfl
      | cons i k ih =>
        intro hk
        rw [List.flatMap_cons, List.countP_append, ih fun j hj => hk j (List.mem_cons_of_mem _ hj), countP_shift]
        unfold rowsI
        rw [List.filterMap_cons]
        cases e2 : leastI (g i) with
        | none =>
          have e3 := least_none.mp e2
          have : mcI (g i) = none := mc_none.mpr e3
          rw [this, e3]
          simp
        | some mj =>
          have e4 : mcI (g i) = some (mj, (g i).countP fun x => x == mj) := by unfold mcI; rw [e2]; rfl
          rw [e4]
          simp only [Option.map_some]
          rw [List.filter_cons]
          have hle := hmin (a i + mj) ((mem _).mpr ⟨i, hk i List.mem_cons_self, mj, e2, rfl⟩)
          by_cases he : a i + mj = m
          · rw [if_pos (by simpa using he), List.map_cons, List.sum_cons]
            have : m - a i = mj := by omega
            rw [this]
          · rw [if_neg (by simpa using he)]
            have : (g i).countP (fun x => x == m - a i) = 0 := List.countP_eq_zero.mpr fun x hx hx2 => by
              have hx2 : x = m - a i := by simpa using hx2
              have := (least_iff.mp e2).2 x hx
              omega
            rw [this, Nat.zero_add]
    exact sub l fun _ h => h

/-! costs of ways -/
def cAt (C : Nat) (f : Nat → Nat → Option Nat) (wt : Nat → Nat → Nat) (k i : Nat) : Nat := if f (k / C) (k % C) = none ∨ f (k / C) (k % C) = some i then 0 else wt (k / C) (k % C)
abbrev wF (wt : Nat → Nat → Nat) : Nat → Nat → Option Nat := fun r c => some (wt r c)
abbrev noF : Nat → Nat → Option Nat := fun _ _ => none
def extC (n : Nat) (t : Nat → Tl) (C : Nat) (a : Nat → Nat → Nat) : List (Option Nat) → Nat → List Nat → List Int
  | [], _, _ => [0]
  | w :: ws, k, s => ((List.range n).filter fun i => okAt t C s k w i).flatMap fun i => (extC n t C a ws (k + 1) (s ++ [i])).map fun x => ((a k i : Nat) : Int) + x
def cst (a : Nat → Nat → Nat) : Nat → List Nat → Int
  | _, [] => 0
  | k, i :: s => ((a k i : Nat) : Int) + cst a (k + 1) s
theorem cst_app (a : Nat → Nat → Nat) : ∀ (s y : List Nat) (k : Nat), cst a k (s ++ y) = cst a k s + cst a (k + s.length) y
  | [], y, k => by simp [cst]
  | i :: s, y, k => by
    rw [List.cons_append, cst, cst, cst_app a s y (k + 1), List.length_cons, show k + 1 + s.length = k + (s.length + 1) by omega]
    omega
theorem extC_eq (n : Nat) (t : Nat → Tl) (C : Nat) (a : Nat → Nat → Nat) : ∀ (ws : List (Option Nat)) (k : Nat) (s : List Nat), s.length = k → (extC n t C a ws k s).map (fun x => cst a 0 s + x) = (ext n t C ws k s).map (cst a 0)
  | [], k, s, _ => by simp [extC, ext]
  | w :: ws, k, s, hs => by
    unfold extC ext
    rw [List.map_flatMap, List.map_flatMap]
    congr 1
    funext i
    rw [← extC_eq n t C a ws (k + 1) (s ++ [i]) (by simp [hs]), List.map_map]
    refine List.map_congr_left fun x _ => ?_
    have e : cst a 0 (s ++ [i]) = cst a 0 s + ((a k i : Nat) : Int) := by
      rw [cst_app, Nat.zero_add, hs]
      simp [cst]
    simp only [Function.comp, e]
    omega
def mcD : Option (Int × Nat) → D
  | none => .none
  | some q => .tuple [.int q.1, .int (q.2 : Nat)]
@[simp] theorem okD_mc (o : Option (Int × Nat)) : okD (mcD o) = .ok (mcD o) := by cases o <;> rfl
theorem mcD_cl (k : Nat) (o : Option (Int × Nat)) : cl (k + 1) (mcD o) = true := by cases o <;> simp [mcD]
/-! the mender -/
abbrev men (n R C : Nat) (t : Nat → Tl) (f : Nat → Nat → Option Nat) (wt : Nat → Nat → Nat) : D := menD "Mender" (ctr n R C t noF) (fD R C f) (fD R C (wF wt))
theorem okD_wF (R C : Nat) (wt : Nat → Nat → Nat) : okD (fD R C (wF wt)) = .ok (fD R C (wF wt)) := nr rfl
theorem cost_at_ok (n R C : Nat) (t : Nat → Tl) (f : Nat → Nat → Option Nat) (wt : Nat → Nat → Nat) (k i : Nat) (hR : 0 < R ∧ R ≤ 9) (hC : 0 < C ∧ C ≤ 4) (hk : k < R * C) : m_Mender_cost_at [men n R C t f wt, .int (k : Nat), .int (i : Nat)] = .ok (.int (cAt C f wt k i : Nat)) := by
  have hr : k / C < R := Nat.div_lt_of_lt_mul (by rw [Nat.mul_comm]; exact hk)
  have hc : k % C < C := Nat.mod_lt _ hC.1
  have hp : ((places R C).map plD)[k]? = some (plD (k / C, k % C)) := by rw [List.getElem?_map, places_get hC.1 hk]; rfl
  have h1 := at_ok R C f (k / C) (k % C) (by omega) (by omega) hr hc
  have h2 := at_ok R C (wF wt) (k / C) (k % C) (by omega) (by omega) hr hc
  have hin := in_two (f (k / C) (k % C)) i
  unfold m_Mender_cost_at b_Mender_cost_at
  simp only [runD_ap]
  unfold cAt
  generalize f (k / C) (k % C) = w at *
  generalize k / C = r at *
  generalize k % C = c at *
  simp [-List.map_map, hp, h1, h2, hin, okD_wF]
  by_cases hw : w = none ∨ w = some i <;> simp [hw]
theorem minI_least (ps : List (Int × Int)) : ∀ p : Int × Int, (minI p ps).1 ≤ p.1 ∧ (∀ y ∈ ps, (minI p ps).1 ≤ y.1) ∧ (minI p ps = p ∨ minI p ps ∈ ps) := by
  induction ps with
  | nil => intro p; exact ⟨Int.le_refl _, (fun _ h => nomatch h), .inl rfl⟩
  | cons z l ih =>
    intro p
    have e : minI p (z :: l) = minI (if ltI z p = true then z else p) l := rfl
    rw [e]
    by_cases h : ltI z p = true
    · rw [if_pos h]
      have h2 : z.1 < p.1 ∨ (z.1 = p.1 ∧ z.2 < p.2) := of_decide_eq_true h
      obtain ⟨a, b, c⟩ := ih z
      refine ⟨by omega, fun y hy => ?_, ?_⟩
      · rcases List.mem_cons.mp hy with rfl | hy
        · exact a
        · exact b y hy
      · rcases c with c | c
        · exact .inr (by rw [c]; exact List.mem_cons_self)
        · exact .inr (List.mem_cons_of_mem _ c)
    · rw [if_neg h]
      have h2 : ¬ (z.1 < p.1 ∨ (z.1 = p.1 ∧ z.2 < p.2)) := fun q => h (decide_eq_true q)
      obtain ⟨a, b, c⟩ := ih p
      refine ⟨a, fun y hy => ?_, ?_⟩
      · rcases List.mem_cons.mp hy with rfl | hy
        · omega
        · exact b y hy
      · rcases c with c | c
        · exact .inl c
        · exact .inr (List.mem_cons_of_mem _ c)
theorem least_minI (p : Int × Int) (ps : List (Int × Int)) : leastI ((p :: ps).map (·.1)) = some (minI p ps).1 := by
  obtain ⟨a, b, c⟩ := minI_least ps p
  refine least_iff.mpr ⟨?_, fun y hy => ?_⟩
  · rcases c with c | c
    · rw [c]; exact List.mem_cons_self
    · exact List.mem_cons_of_mem _ (List.mem_map.mpr ⟨_, c, rfl⟩)
  · rw [List.map_cons] at hy
    rcases List.mem_cons.mp hy with rfl | hy
    · exact a
    · obtain ⟨z, hz, rfl⟩ := List.mem_map.mp hy
      exact b z hz
def mcP (q : Int × Nat) : D := .tuple [.int q.1, .int (q.2 : Nat)]
theorem rows_flat {α : Type} (l : List α) (a : α → Int) (g : α → List Int) : (l.flatMap fun i => match mcI (g i) with
    | none => []
    | some q => [mcP (a i + q.1, q.2)]) = (rowsI l a g).map mcP := by
  induction l with
  | nil => rfl
  | cons i l ih =>
    rw [List.flatMap_cons, ih]
    unfold rowsI
    rw [List.filterMap_cons]
    cases mcI (g i) <;> rfl
theorem reckoned_ok (n R C : Nat) (t : Nat → Tl) (f : Nat → Nat → Option Nat) (wt : Nat → Nat → Nat) (hn : n ≤ 1000) (hR : 0 < R ∧ R ≤ 9) (hC : 0 < C ∧ C ≤ 4) (s : List Nat) (k : Nat) (hk : k < R * C) (hs : s.length = k) (hl : ∀ i ∈ s, i < n)
    (rec : List D → DL.R D) (g : Nat → List Int) (hrec : ∀ x, x < n → rec [men n R C t f wt, .int ((k + 1 : Nat) : Int), nsD (lastC C (s ++ [x]))] = .ok (mcD (mcI (g x)))) :
    m_Mender_reckoned rec [men n R C t f wt, .int (k : Nat), nsD (lastC C s)] = .ok (mcD (bestR (rowsI ((List.range n).filter fun i => okAt t C s k none i) (fun i => ((cAt C f wt k i : Nat) : Int)) g))) := by
  unfold m_Mender_reckoned b_Mender_reckoned
  simp only [runD_ap]
  have hf := fitting_ok n R C t noF s k (by omega) (by omega) hk hs hl
  have hnl : ((List.range n).filter fun i => okAt t C s k none i).length ≤ 1000 := Nat.le_trans (List.length_filter_le _ _) (by simp; omega)
  have hmem : ∀ i ∈ (List.range n).filter (fun i => okAt t C s k none i), i < n := fun i hi => List.mem_range.mp (List.mem_filter.mp hi).1
  simp only [noF] at hf
  generalize (List.range n).filter (fun i => okAt t C s k none i) = L at *
  simp [-List.map_map, hf]
  rw [for_app (fun l : List D => [some (men n R C t f wt), some (.int (k : Nat)), some (nsD (lastC C s)), some (.list l), none, none, none, none, none]) (fun i : Nat => .int (i : Nat)) (fun i => match mcI (g i) with
    | none => []
    | some q => [mcP (((cAt C f wt k i : Nat) : Int) + q.1, q.2)]) 1 1000 L [] (fun i _ => by split <;> simp) (by simp; omega) (by rfl) (by rfl)]
  · rw [rows_flat L (fun i => ((cAt C f wt k i : Nat) : Int)) g]
    generalize hrows : rowsI L (fun i => ((cAt C f wt k i : Nat) : Int)) g = rows
    have hrl : rows.length ≤ 1000 := by
      rw [← hrows]
      exact Nat.le_trans (List.length_filterMap_le _ _) hnl
    cases rows with
    | nil =>
      have z : eqD (.list []) (.list []) = some (.bool true) := by rfl
      simp [bestR, leastI, mcD, z]
    | cons q qs =>
      have hcl : cl 20 (.list ((q :: qs).map mcP)) = true := by simp [mcP, List.all_map]
      have hpd : ((q :: qs).map mcP) = ((q.1, ((q.2 : Nat) : Int)) :: qs.map fun q => (q.1, ((q.2 : Nat) : Int))).map pairD := by simp [mcP, pairD]
      have hmin : minL [.list ((q :: qs).map mcP)] = some (pairD (minI (q.1, ((q.2 : Nat) : Int)) (qs.map fun q => (q.1, ((q.2 : Nat) : Int))))) := by rw [hpd, minL_c]
      have hle := least_minI (q.1, ((q.2 : Nat) : Int)) (qs.map fun q => (q.1, ((q.2 : Nat) : Int)))
      have hfs : ((q.1, ((q.2 : Nat) : Int)) :: qs.map fun q => (q.1, ((q.2 : Nat) : Int))).map (·.1) = (q :: qs).map (·.1) := by simp
      rw [hfs] at hle
      generalize minI (q.1, ((q.2 : Nat) : Int)) (qs.map fun q => (q.1, ((q.2 : Nat) : Int))) = mm at *
      have hb : bestR (q :: qs) = some (mm.1, (((q :: qs).filter fun q => q.1 == mm.1).map (·.2)).sum) := by
        unfold bestR
        rw [hle]
        rfl
      rw [hb]
      have hix : ixD (pairD mm) (.int 0) = some (.int mm.1) := by simp [pairD]
      have heq := eqD_nil hcl
      generalize hrr : q :: qs = rr at *
      have hne : (rr.map mcP).isEmpty = false := by rw [← hrr]; rfl
      rw [hne] at heq
      simp [-List.map_map, heq, hmin, hix, show rr.length ≤ 1000000 by omega]
      rw [comp_filter mcP (fun q => q.1 == mm.1) (fun q => .int (q.2 : Nat)) rr (by rfl) (fun x _ => by
        simp only [turnC]
        by_cases hx : x.1 = mm.1 <;> simp [mcP, tgT, hx])]
      simp only [ne_ok, rb_ok, sumD_l, intsOf_mapf, Option.map_some, ro_some, mcD]
      simp [-List.map_map, intsOf_mapf, mcD]
      clear hrr hb hix heq hne hmin hle hrl hrows hcl hpd hfs
      induction rr with
      | nil => rfl
      | cons x l ih =>
        rw [List.filter_cons]
        split
        · simp only [List.map_cons, List.sum_cons, ih, Int.natCast_add]
        · exact ih
  · intro i hi l hlen
    have hin := hmem i hi
    have hm := moved_ok n R C t noF s i (by omega)
    have hr := hrec i hin
    have hca := cost_at_ok n R C t f wt k i hR hC hk
    have hl2 : l.length < 1000000 := by omega
    simp only [Int.natCast_add, Int.natCast_one] at hr
    simp only [turnL]
    cases hq : mcI (g i) with
    | none =>
      rw [hq] at hr
      simp [tgN, hm, hr, mcD]
    | some q =>
      rw [hq] at hr
      simp [tgN, hm, hr, mcD, mcP, hca, hl2, Int.add_comm]
theorem best_ok (n R C : Nat) (t : Nat → Tl) (f : Nat → Nat → Option Nat) (wt : Nat → Nat → Nat) (hn : 0 < n ∧ n ≤ 16) (hR : 0 < R ∧ R ≤ 9) (hC : 0 < C ∧ C ≤ 4) (hRC : R * C ≤ 9) : ∀ (j k : Nat) (s : List Nat), k + j = R * C → s.length = k → (∀ i ∈ s, i < n) →
    wF_Mender gw_Mender j [men n R C t f wt, .int (k : Nat), nsD (lastC C s)] = .ok (mcD (mcI (extC n t C (cAt C f wt) ((wanted R C noF).drop k) k s)))
  | 0, k, s, hj, hs, hl => by
    have hk : k = R * C := by omega
    have e : (wanted R C noF).drop k = [] := by rw [hk, ← wanted_len R C noF]; exact List.drop_length
    rw [e]
    unfold wF_Mender b_Mender_best
    simp only [runD_ap]
    simp [-List.map_map, len_places, hk, extC, mcI, leastI, mcD]
  | j + 1, k, s, hj, hs, hl => by
    have hk : k < R * C := by omega
    have ih := fun x (hx : x < n) => best_ok n R C t f wt hn hR hC hRC j (k + 1) (s ++ [x]) (by omega) (by simp [hs]) (fun i hi => by
      rcases List.mem_append.mp hi with hi | hi
      · exact hl i hi
      · rw [List.mem_singleton] at hi; omega)
    unfold wF_Mender b_Mender_best
    simp only [runD_ap]
    have hne : ((k : Int) == ((R * C : Nat) : Int)) = false := beq_eq_false_iff_ne.mpr (by omega)
    have hfu : fuelM "counter" "places" (men n R C t f wt) (.int (k : Nat)) = j + 1 := by
      unfold fuelM
      simp only
      rw [lenM_men, lenP_ctr, List.length_map, len_places]
      omega
    have hke : (keyD (.tuple [.int (k : Nat), nsD (lastC C s)])).isSome = true := keyD_nums (by omega) (by rw [lastC_len]; omega) fun x hx => by have := lastC_lt hl x hx; omega
    have hco : condM "counter" "places" (j + 1) (men n R C t f wt) (.tuple [.int (k : Nat), nsD (lastC C s)]) = true := by
      unfold condM
      simp only [hfu, decide_true]
    have hgw : gw_Mender (men n R C t f wt) (.tuple [.int (k : Nat), nsD (lastC C s)]) = .ok (mcD (mcI (extC n t C (cAt C f wt) ((wanted R C noF).drop k) k s))) := by
      have e2 : wF_Mender gw_Mender j = wF_Mender (gwJ_Mender j) j := by
        unfold wF_Mender b_Mender_best gw_Mender
        rw [memo_fuelM]
      unfold gw_Mender gwAllM
      simp only [hfu]
      show gwB_Mender (wF_Mender (gwJ_Mender j) j) _ _ = _
      rw [← e2]
      unfold gwB_Mender bE_Mender
      have hr := reckoned_ok n R C t f wt (by omega) hR hC s k hk hs hl (wF_Mender gw_Mender j) (fun x => extC n t C (cAt C f wt) ((wanted R C noF).drop (k + 1)) (k + 1) (s ++ [x])) ih
      rw [← mc_flat] at hr
      rw [wanted_drop hC.1 hk]
      simp [-List.map_map, hr, extC]
    have hnl : ∀ o, noList (mcD o) = true := fun o => by cases o <;> rfl
    simp [-List.map_map, -Int.natCast_mul, len_places, hne, hke, hco, hgw, hnl]
theorem best_at (n R C : Nat) (t : Nat → Tl) (f : Nat → Nat → Option Nat) (wt : Nat → Nat → Nat) (hn : 0 < n ∧ n ≤ 16) (hR : 0 < R ∧ R ≤ 9) (hC : 0 < C ∧ C ≤ 4) (hRC : R * C ≤ 9) (k : Nat) (s : List Nat) (hk : k ≤ R * C) (hs : s.length = k) (hl : ∀ i ∈ s, i < n) :
    m_Mender_best [men n R C t f wt, .int (k : Nat), nsD (lastC C s)] = .ok (mcD (mcI (extC n t C (cAt C f wt) ((wanted R C noF).drop k) k s))) := by
  have hw := best_ok n R C t f wt hn hR hC hRC (R * C - k) k s (by omega) hs hl
  have hfu : fuelM "counter" "places" (men n R C t f wt) (.int (k : Nat)) = R * C - k := by
    unfold fuelM
    simp only
    rw [lenM_men, lenP_ctr, List.length_map, len_places]
    omega
  unfold m_Mender_best
  simp only [hfu, if_pos (show R * C - k ≤ 9 by omega)]
  exact hw
/-- all costs of right floors -/
def costL (n : Nat) (t : Nat → Tl) (R C : Nat) (f : Nat → Nat → Option Nat) (wt : Nat → Nat → Nat) : List Int := (fillsL n t R C noF).map (cst (cAt C f wt) 0)
theorem costL_ext (n : Nat) (t : Nat → Tl) (R C : Nat) (f : Nat → Nat → Option Nat) (wt : Nat → Nat → Nat) : extC n t C (cAt C f wt) (wanted R C noF) 0 [] = costL n t R C f wt := by
  unfold costL
  rw [fills_ext, ← extC_eq n t C (cAt C f wt) (wanted R C noF) 0 [] rfl]
  simp [cst]
theorem look_w_ok (R C : Nat) (f g : Nat → Nat → Option Nat) (hR : 0 < R) : m_look_weights [fD R C f, fD R C g] = .ok .none := by
  have h1 := size_ok R C f hR
  have h2 := size_ok R C g hR
  unfold m_look_weights b_look_weights
  simp only [runD_ap]
  simp [h1, h2, neD_self]
theorem best0 (n R C : Nat) (t : Nat → Tl) (f : Nat → Nat → Option Nat) (wt : Nat → Nat → Nat) (hn : 0 < n ∧ n ≤ 16) (hR : 0 < R ∧ R ≤ 9) (hC : 0 < C ∧ C ≤ 4) (hRC : R * C ≤ 9) : m_Mender_best [men n R C t f wt, .int 0, .tuple []] = .ok (mcD (mcI (costL n t R C f wt))) := by
  have hb := best_at n R C t f wt hn hR hC hRC 0 [] (by omega) rfl (fun i hi => nomatch hi)
  have e : lastC C [] = [] := by simp [lastC]
  rw [List.drop_zero, costL_ext, e] at hb
  exact hb
theorem new_men (n R C : Nat) (t : Nat → Tl) (f : Nat → Nat → Option Nat) (wt : Nat → Nat → Nat) (hR : 0 < R ∧ R ≤ 9) (hC : 0 < C ∧ C ≤ 4) : new_Mender [tlsD n t, fD R C f, fD R C (wF wt)] = .ok (men n R C t f wt) := by
  have hp := places_ok R C noF (by omega) (by omega)
  have hs := size_ok R C noF hR.1
  have he := empty_ok R C (by omega) (by omega)
  have hgi : gI_Counter (fD R C noF) = .ok (.list ((places R C).map plD), .int (C : Nat)) := by
    unfold gI_Counter
    simp [-List.map_map, hp, hs]
  unfold new_Mender fa_Mender
  simp [-List.map_map, he, hgi, hR.1, hC.1]
theorem least_ok (n R C : Nat) (t : Nat → Tl) (f : Nat → Nat → Option Nat) (wt : Nat → Nat → Nat) (hn : 0 < n ∧ n ≤ 16) (hR : 0 < R ∧ R ≤ 9) (hC : 0 < C ∧ C ≤ 4) (hRC : R * C ≤ 9) : m_least_cost [tlsD n t, fD R C f, fD R C (wF wt)] = .ok (mcD (mcI (costL n t R C f wt))) := by
  unfold m_least_cost b_least_cost
  simp only [runD_ap]
  have hl := look_w_ok R C f (wF wt) hR.1
  have hnew := new_men n R C t f wt hR hC
  have hb := best0 n R C t f wt hn hR hC hRC
  have hpl : plainE [some (tlsD n t), some (fD R C f), some (fD R C (wF wt))] = true := by rw [plainE_some _ (okD_tls n t), plainE_some _ (okD_f R C f), plainE_some _ (okD_f R C _), plainE_nil]
  have hne : ("best" : Str) ≠ "known" ∧ ("best" : Str) ∉ (["counter", "laid", "weights"] : List Str) := by decide +kernel
  simp only [List.map_cons, List.map_nil, List.length_cons, List.length_nil, Nat.reduceAdd, Nat.reduceSub, List.replicate, List.append_nil, Nat.zero_add]
  simp only [seqS_ap, dropS_ap, hidA_f, hidA_nil, ownE_ap, consA_ap, vE_z, vE_s, okD_f, nilA_ap, rb_ok, hl, rr_ok, th_nx]
  simp only [hidA_f, hidA_nil, retS_ap, mkmG_ap, hpl, if_true, if_pos hne]
  simp [-List.map_map, hl, hpl, hnew, hb]

/-! a cheapest way -/
def stepW (g : Nat → List Int) (a : Nat → Nat) (m : Int) (k : Nat) (s st : List Nat) (x : Nat) : List Nat := if st.length = k ∧ (leastI (g x)).map (fun y => y + ((a x : Nat) : Int)) = some m then st ++ [x] else st
theorem stepW_stay (g : Nat → List Int) (a : Nat → Nat) (m : Int) (k : Nat) (s : List Nat) : ∀ (l : List Nat) (st : List Nat), st.length ≠ k → l.foldl (stepW g a m k s) st = st
  | [], _, _ => rfl
  | x :: l, st, h => by
    have e : stepW g a m k s st x = st := by unfold stepW; rw [if_neg (fun z => h z.1)]
    rw [List.foldl_cons, e]
    exact stepW_stay g a m k s l st h
theorem stepW_down (g : Nat → List Int) (a : Nat → Nat) (m : Int) (k : Nat) (s : List Nat) (hs : s.length = k) : ∀ (l : List Nat), (∃ x ∈ l, (leastI (g x)).map (fun y => y + ((a x : Nat) : Int)) = some m) →
    ∃ x, x ∈ l ∧ l.foldl (stepW g a m k s) s = s ++ [x] ∧ (leastI (g x)).map (fun y => y + ((a x : Nat) : Int)) = some m
  | [], h => by obtain ⟨_, h, _⟩ := h; cases h
  | x :: l, h => by
    by_cases hx : (leastI (g x)).map (fun y => y + ((a x : Nat) : Int)) = some m
    · refine ⟨x, List.mem_cons_self, ?_, hx⟩
      have e : stepW g a m k s s x = s ++ [x] := by unfold stepW; rw [if_pos ⟨hs, hx⟩]
      rw [List.foldl_cons, e]
      exact stepW_stay _ _ _ _ _ _ _ (by simp [hs])
    · obtain ⟨y, h1, h2, h3⟩ := stepW_down g a m k s hs l (by
        obtain ⟨y, hy, e⟩ := h
        rcases List.mem_cons.mp hy with rfl | hy
        · exact absurd e hx
        · exact ⟨y, hy, e⟩)
      refine ⟨y, List.mem_cons_of_mem _ h1, ?_, h3⟩
      have e : stepW g a m k s s x = s := by unfold stepW; rw [if_neg (fun z => hx z.2)]
      rw [List.foldl_cons, e, h2]
def stepV (n : Nat) (t : Nat → Tl) (R C : Nat) (a : Nat → Nat → Nat) (s : List Nat) (k : Nat) : List Nat :=
  ((List.range n).filter fun i => okAt t C s k none i).foldl (stepW (fun x => extC n t C a ((wanted R C noF).drop (k + 1)) (k + 1) (s ++ [x])) (a k) ((leastI (extC n t C a ((wanted R C noF).drop k) k s)).getD 0) k s) s
structure GoodW (n : Nat) (t : Nat → Tl) (R C : Nat) (a : Nat → Nat → Nat) (M : Int) (k : Nat) (s : List Nat) : Prop where
  len : s.length = k
  lt : ∀ i ∈ s, i < n
  le : leastI (extC n t C a ((wanted R C noF).drop k) k s) = some (M - cst a 0 s)
  sub : ∀ z ∈ ext n t C ((wanted R C noF).drop k) k s, z ∈ fillsL n t R C noF
theorem stepV_good {n : Nat} {t : Nat → Tl} {R C : Nat} {a : Nat → Nat → Nat} {M : Int} {k : Nat} {s : List Nat} (hC : 0 < C) (hk : k < R * C) (h : GoodW n t R C a M k s) : GoodW n t R C a M (k + 1) (stepV n t R C a s k) ∧ ∃ x, stepV n t R C a s k = s ++ [x] := by
  have h2 := h.le
  have h3 := h.sub
  have h4 := h.le
  rw [wanted_drop hC hk] at h2 h3
  unfold extC at h2
  unfold ext at h3
  obtain ⟨q1, q2⟩ := least_iff.mp h2
  obtain ⟨x, hx, y, hy, e⟩ : ∃ i ∈ (List.range n).filter (fun i => okAt t C s k none i), ∃ y ∈ extC n t C a ((wanted R C noF).drop (k + 1)) (k + 1) (s ++ [i]), ((a k i : Nat) : Int) + y = M - cst a 0 s := by
    obtain ⟨i, hi, h⟩ := List.mem_flatMap.mp q1
    obtain ⟨y, hy, e⟩ := List.mem_map.mp h
    exact ⟨i, hi, y, hy, e⟩
  have hex : (leastI (extC n t C a ((wanted R C noF).drop (k + 1)) (k + 1) (s ++ [x]))).map (fun y => y + ((a k x : Nat) : Int)) = some (M - cst a 0 s) := by
    have : leastI (extC n t C a ((wanted R C noF).drop (k + 1)) (k + 1) (s ++ [x])) = some y := least_iff.mpr ⟨hy, fun z hz => by
      have := q2 (((a k x : Nat) : Int) + z) (List.mem_flatMap.mpr ⟨x, hx, List.mem_map.mpr ⟨z, hz, rfl⟩⟩)
      omega⟩
    rw [this]
    show some (y + _) = some _
    congr 1
    omega
  unfold stepV
  rw [h4]
  obtain ⟨z, z1, z2, z3⟩ := stepW_down (fun x => extC n t C a ((wanted R C noF).drop (k + 1)) (k + 1) (s ++ [x])) (a k) (M - cst a 0 s) k s h.len _ ⟨x, hx, hex⟩
  rw [Option.getD_some, z2]
  refine ⟨⟨by simp [h.len], fun i hi => ?_, ?_, fun w hw => h3 w (List.mem_flatMap.mpr ⟨z, z1, hw⟩)⟩, z, rfl⟩
  · rcases List.mem_append.mp hi with hi | hi
    · exact h.lt i hi
    · rw [List.mem_singleton] at hi
      rw [hi]
      exact List.mem_range.mp (List.mem_filter.mp z1).1
  · obtain ⟨y2, e2, e3⟩ := Option.map_eq_some_iff.mp z3
    rw [e2, cst_app, Nat.zero_add, h.len]
    simp only [cst]
    congr 1
    omega
theorem foldW_good {n : Nat} {t : Nat → Tl} {R C : Nat} {a : Nat → Nat → Nat} {M : Int} (hC : 0 < C) (h0 : leastI (extC n t C a (wanted R C noF) 0 []) = some M) : ∀ k, k ≤ R * C → GoodW n t R C a M k ((List.range k).foldl (stepV n t R C a) [])
  | 0, _ => ⟨rfl, (fun i hi => nomatch hi), by rw [List.drop_zero]; show leastI (extC n t C a (wanted R C noF) 0 []) = _; rw [h0]; simp [cst], fun z hz => by rw [List.drop_zero] at hz; rw [fills_ext]; exact hz⟩
  | k + 1, hk => by
    rw [List.range_succ, List.foldl_append, List.foldl_cons, List.foldl_nil]
    exact (stepV_good hC (by omega) (foldW_good hC h0 k (by omega))).1
theorem way_ok (n R C : Nat) (t : Nat → Tl) (f : Nat → Nat → Option Nat) (wt : Nat → Nat → Nat) (hn : 0 < n ∧ n ≤ 16) (hR : 0 < R ∧ R ≤ 9) (hC : 0 < C ∧ C ≤ 4) (hRC : R * C ≤ 9) (M : Int) (h0 : leastI (costL n t R C f wt) = some M) :
    m_Mender_way [men n R C t f wt] = .ok (.list (((List.range (R * C)).foldl (stepV n t R C (cAt C f wt)) []).map fun i => .int (i : Nat))) := by
  rw [← costL_ext] at h0
  have hr1 := range1_nat (R * C) (by omega)
  have hG := foldW_good (n := n) (t := t) (R := R) hC.1 h0 (R * C) (Nat.le_refl _)
  unfold m_Mender_way b_Mender_way
  simp only [runD_ap]
  simp [-List.map_map, -Int.natCast_mul, len_places, hr1]
  rw [for_foldi (fun st : List Nat => [some (men n R C t f wt), some (.list (st.map fun i => .int (i : Nat))), some (nsD (lastC C st)), none, none, none, none]) (fun k : Nat => PyData.int (k : Nat)) (stepV n t R C (cAt C f wt)) (fun k st => GoodW n t R C (cAt C f wt) M k st) (List.range (R * C)) [] 0 (foldW_good hC.1 h0 0 (Nat.zero_le _)) (fun k x st hx h => by
    rw [Nat.zero_add] at h ⊢
    obtain ⟨h1, h2⟩ := List.getElem?_eq_some_iff.mp hx
    rw [List.length_range] at h1
    have : x = k := by rw [← h2, List.getElem_range]
    rw [this]
    exact (stepV_good hC.1 h1 h).1) (by rfl) (by simp [lastC, nsD])]
  · simp [retO_ap]
  · intro k x s hx h
    rw [Nat.zero_add] at h
    obtain ⟨h1, h2⟩ := List.getElem?_eq_some_iff.mp hx
    rw [List.length_range] at h1
    have : x = k := by rw [← h2, List.getElem_range]
    subst this
    have hfit := fitting_ok n R C t noF s x (by omega) (by omega) h1 h.len h.lt
    obtain ⟨hso, y, hy⟩ := stepV_good hC.1 h1 h
    have hb := best_at n R C t f wt hn hR hC hRC x s (by omega) h.len h.lt
    have hle := h.le
    have hb2 : ∃ c : Nat, mcI (extC n t C (cAt C f wt) ((wanted R C noF).drop x) x s) = some (M - cst (cAt C f wt) 0 s, c) := by unfold mcI; rw [hle]; exact ⟨_, rfl⟩
    obtain ⟨c, hc⟩ := hb2
    rw [hc] at hb
    simp only [noF] at hfit
    have hfl : (((List.range n).filter fun i => okAt t C s x none i)).length ≤ 1000000 := Nat.le_trans (List.length_filter_le _ _) (by simp; omega)
    simp [turnL, -List.map_map, hb, mcD, hfit]
    have hxb : x < 9 := by omega
    rw [for_fold (fun st : List Nat => [some (men n R C t f wt), some (.list (st.map fun i => .int (i : Nat))), some (nsD (lastC C s)), some (.int (x : Nat)), some (.int (M - cst (cAt C f wt) 0 s)), none, none]) (fun k : Nat => PyData.int (k : Nat)) (stepW (fun z => extC n t C (cAt C f wt) ((wanted R C noF).drop (x + 1)) (x + 1) (s ++ [z])) (cAt C f wt x) (M - cst (cAt C f wt) 0 s) x s) (fun st => st.length ≤ x + 1) ((List.range n).filter fun i => okAt t C s x none i) s (by have := h.len; omega) (fun y _ st hst => by
      unfold stepW
      split
      · rename_i z
        rw [List.length_append, z.1]
        exact Nat.le_refl _
      · exact hst) (by rfl) (by rfl)]
    · have hy2 : ((List.range n).filter fun i => okAt t C s x none i).foldl (stepW (fun z => extC n t C (cAt C f wt) ((wanted R C noF).drop (x + 1)) (x + 1) (s ++ [z])) (cAt C f wt x) (M - cst (cAt C f wt) 0 s) x s) s = stepV n t R C (cAt C f wt) s x := by
        unfold stepV
        rw [hle, Option.getD_some]
      rw [hy2]
      have hm := moved_ok n R C t noF s y (by omega)
      rw [hy]
      have hls := li_last s y
      simp [-List.map_map, -List.map_append, hls, hm, noList_ns]
    · intro y hy3 st hst
      have hyn : y < n := List.mem_range.mp (List.mem_filter.mp hy3).1
      have hm := moved_ok n R C t noF s y (by omega)
      have hw := best_at n R C t f wt hn hR hC hRC (x + 1) (s ++ [y]) (by omega) (by simp [h.len]) (fun i hi => by
        rcases List.mem_append.mp hi with hi | hi
        · exact h.lt i hi
        · rw [List.mem_singleton] at hi; omega)
      have hca := cost_at_ok n R C t f wt x y hR hC h1
      simp only [Int.natCast_add, Int.natCast_one] at hw
      have ha : st.length < 1000000 := by omega
      simp only [turnL]
      have hmc : mcI (extC n t C (cAt C f wt) ((wanted R C noF).drop (x + 1)) (x + 1) (s ++ [y])) = (leastI (extC n t C (cAt C f wt) ((wanted R C noF).drop (x + 1)) (x + 1) (s ++ [y]))).map fun m => (m, (extC n t C (cAt C f wt) ((wanted R C noF).drop (x + 1)) (x + 1) (s ++ [y])).countP fun x => x == m) := rfl
      rw [hmc] at hw
      by_cases h1 : st.length = x
      · cases hq : leastI (extC n t C (cAt C f wt) ((wanted R C noF).drop (x + 1)) (x + 1) (s ++ [y])) with
        | none =>
          have e : stepW (fun z => extC n t C (cAt C f wt) ((wanted R C noF).drop (x + 1)) (x + 1) (s ++ [z])) (cAt C f wt x) (M - cst (cAt C f wt) 0 s) x s st y = st := by
            unfold stepW
            rw [if_neg]
            rintro ⟨_, z⟩
            rw [hq] at z
            cases z
          rw [hq] at hw
          rw [e]
          simp [-List.map_map, tgN, hm, hw, mcD, h1]
        | some z =>
          rw [hq] at hw
          by_cases h2 : z + ((cAt C f wt x y : Nat) : Int) = M - cst (cAt C f wt) 0 s
          · have e : stepW (fun z => extC n t C (cAt C f wt) ((wanted R C noF).drop (x + 1)) (x + 1) (s ++ [z])) (cAt C f wt x) (M - cst (cAt C f wt) 0 s) x s st y = st ++ [y] := by
              unfold stepW
              rw [if_pos]
              refine ⟨h1, ?_⟩
              rw [hq]
              exact congrArg some h2
            rw [e]
            simp [-List.map_map, tgN, hm, hw, mcD, h1, hca, h2, ha]
            omega
          · have e : stepW (fun z => extC n t C (cAt C f wt) ((wanted R C noF).drop (x + 1)) (x + 1) (s ++ [z])) (cAt C f wt x) (M - cst (cAt C f wt) 0 s) x s st y = st := by
              unfold stepW
              rw [if_neg]
              rintro ⟨_, z⟩
              rw [hq] at z
              exact h2 (Option.some.inj z)
            have h2b : (z + ((cAt C f wt x y : Nat) : Int) == M - cst (cAt C f wt) 0 s) = false := beq_eq_false_iff_ne.mpr h2
            rw [e]
            simp [-List.map_map, tgN, hm, hw, mcD, h1, hca, h2b]
      · have h1i : ((st.length : Int) == (x : Int)) = false := beq_eq_false_iff_ne.mpr (by omega)
        have e : stepW (fun z => extC n t C (cAt C f wt) ((wanted R C noF).drop (x + 1)) (x + 1) (s ++ [z])) (cAt C f wt x) (M - cst (cAt C f wt) 0 s) x s st y = st := by unfold stepW; rw [if_neg (fun z => h1 z.1)]
        rw [e]
        simp [-List.map_map, tgN, hm, hw, h1i]
theorem mended_ok (n R C : Nat) (t : Nat → Tl) (f : Nat → Nat → Option Nat) (wt : Nat → Nat → Nat) (hn : 0 < n ∧ n ≤ 16) (hR : 0 < R ∧ R ≤ 9) (hC : 0 < C ∧ C ≤ 4) (hRC : R * C ≤ 9) (M : Int) (h0 : leastI (costL n t R C f wt) = some M) :
    ∃ s, s ∈ fillsL n t R C noF ∧ cst (cAt C f wt) 0 s = M ∧ m_mended [tlsD n t, fD R C f, fD R C (wF wt)] = .ok (fD R C fun r c => some (unF C s r c)) := by
  have hw := way_ok n R C t f wt hn hR hC hRC M h0
  have hb := best0 n R C t f wt hn hR hC hRC
  have hmc : mcI (costL n t R C f wt) = some (M, (costL n t R C f wt).countP fun x => x == M) := by unfold mcI; rw [h0]; rfl
  rw [hmc] at hb
  have h1 := h0
  rw [← costL_ext] at h1
  have hG := foldW_good (n := n) (t := t) (R := R) hC.1 h1 (R * C) (Nat.le_refl _)
  have e : (wanted R C noF).drop (R * C) = [] := by rw [← wanted_len R C noF]; exact List.drop_length
  obtain ⟨g1, g2, g3, g4⟩ := hG
  rw [e] at g3 g4
  refine ⟨(List.range (R * C)).foldl (stepV n t R C (cAt C f wt)) [], g4 _ (by simp [ext]), ?_, ?_⟩
  · simp only [extC, leastI, List.foldl_nil, Option.some.injEq] at g3
    omega
  · have has := asf_ok R C ((List.range (R * C)).foldl (stepV n t R C (cAt C f wt)) []) ⟨hC.1, by omega⟩ (by omega) g1
    have hl := look_w_ok R C f (wF wt) hR.1
    have hnew := new_men n R C t f wt hR hC
    have hpl : plainE [some (tlsD n t), some (fD R C f), some (fD R C (wF wt)), none] = true := by rw [plainE_some _ (okD_tls n t), plainE_some _ (okD_f R C f), plainE_some _ (okD_f R C _)]; rfl
    unfold m_mended b_mended
    simp only [runD_ap]
    simp only [List.getD_eq_getElem?_getD] at has
    have hz : fzAll [Sh.fz, Sh.fz, Sh.fz, Sh.fz] = true := by rfl
    simp [-List.map_map, mkG, hl, hz, hpl, hnew, hb, mcD, hw, has, hR.1]
theorem mended_no (n R C : Nat) (t : Nat → Tl) (f : Nat → Nat → Option Nat) (wt : Nat → Nat → Nat) (hn : 0 < n ∧ n ≤ 16) (hR : 0 < R ∧ R ≤ 9) (hC : 0 < C ∧ C ≤ 4) (hRC : R * C ≤ 9) (h0 : costL n t R C f wt = []) : m_mended [tlsD n t, fD R C f, fD R C (wF wt)] = .err "NoFill" := by
  have hb := best0 n R C t f wt hn hR hC hRC
  rw [h0] at hb
  have hl := look_w_ok R C f (wF wt) hR.1
  have hnew := new_men n R C t f wt hR hC
  have hpl : plainE [some (tlsD n t), some (fD R C f), some (fD R C (wF wt)), none] = true := by rw [plainE_some _ (okD_tls n t), plainE_some _ (okD_f R C f), plainE_some _ (okD_f R C _)]; rfl
  have hz : fzAll [Sh.fz, Sh.fz, Sh.fz, Sh.fz] = true := by rfl
  unfold m_mended b_mended
  simp only [runD_ap]
  simp [-List.map_map, mkG, hl, hz, hpl, hnew, hb, mcI, leastI, mcD]

/-! costs compared -/
theorem cst_nonneg (a : Nat → Nat → Nat) : ∀ (s : List Nat) (k : Nat), 0 ≤ cst a k s
  | [], _ => Int.le_refl _
  | i :: s, k => by
    have := cst_nonneg a s (k + 1)
    simp only [cst]
    omega
theorem cst_le_add {a b : Nat → Nat → Nat} {k0 w : Nat} : ∀ (s : List Nat) (k : Nat), (∀ j, j < s.length → a (k + j) (s.getD j 0) ≤ b (k + j) (s.getD j 0) + (if k + j = k0 then w else 0)) → cst a k s ≤ cst b k s + (if k ≤ k0 then (w : Int) else 0)
  | [], k, _ => by
    simp only [cst]
    split <;> omega
  | i :: s, k, h => by
    have h0 := h 0 (by simp)
    have ih := cst_le_add (a := a) (b := b) (k0 := k0) (w := w) s (k + 1) fun j hj => by
      have := h (j + 1) (by simpa using hj)
      rw [show k + 1 + j = k + (j + 1) by omega]
      simpa using this
    simp only [Nat.add_zero, List.getD_cons_zero] at h0
    simp only [cst]
    by_cases e : k = k0
    · rw [if_pos e] at h0
      rw [if_neg (by omega)] at ih
      rw [if_pos (by omega)]
      omega
    · rw [if_neg e] at h0
      by_cases e2 : k ≤ k0
      · rw [if_pos (by omega)] at ih
        rw [if_pos e2]
        omega
      · rw [if_neg (by omega)] at ih
        rw [if_neg e2]
        omega
theorem cst_mono {a b : Nat → Nat → Nat} (s : List Nat) (k : Nat) (h : ∀ j, j < s.length → a (k + j) (s.getD j 0) ≤ b (k + j) (s.getD j 0)) : cst a k s ≤ cst b k s := by
  have := cst_le_add (a := a) (b := b) (k0 := 0) (w := 0) s k fun j hj => by
    have := h j hj
    split <;> omega
  split at this <;> simpa using this
theorem cst_congr {a b : Nat → Nat → Nat} (s : List Nat) (k : Nat) (h : ∀ j, j < s.length → a (k + j) (s.getD j 0) = b (k + j) (s.getD j 0)) : cst a k s = cst b k s :=
  Int.le_antisymm (cst_mono s k fun j hj => Nat.le_of_eq (h j hj)) (cst_mono s k fun j hj => Nat.le_of_eq (h j hj).symm)
theorem cst_zero {a : Nat → Nat → Nat} : ∀ (s : List Nat) (k : Nat), cst a k s = 0 ↔ ∀ j, j < s.length → a (k + j) (s.getD j 0) = 0
  | [], k => by simp [cst]
  | i :: s, k => by
    have := cst_nonneg a s (k + 1)
    have ih := cst_zero (a := a) s (k + 1)
    simp only [cst]
    constructor
    · intro h j hj
      cases j with
      | zero => simp only [Nat.add_zero, List.getD_cons_zero]; omega
      | succ j =>
        have := ih.mp (by omega) j (by simpa using hj)
        rw [show k + (j + 1) = k + 1 + j by omega]
        simpa using this
    · intro h
      have h0 := h 0 (by simp)
      simp only [Nat.add_zero, List.getD_cons_zero] at h0
      have := ih.mpr fun j hj => by
        have := h (j + 1) (by simpa using hj)
        rw [show k + 1 + j = k + (j + 1) by omega]
        simpa using this
      omega
theorem cst_mul (m : Nat) (a : Nat → Nat → Nat) : ∀ (s : List Nat) (k : Nat), cst (fun k i => m * a k i) k s = (m : Int) * cst a k s
  | [], k => by simp [cst]
  | i :: s, k => by
    simp only [cst]
    rw [cst_mul m a s (k + 1), Int.mul_add, Int.natCast_mul]
/-! the least of lists compared -/
theorem least_le {l l' : List Int} {m m' w : Int} (h : leastI l = some m) (h' : leastI l' = some m') (q : ∀ x ∈ l, ∃ y ∈ l', y ≤ x + w) : m' ≤ m + w := by
  obtain ⟨y, hy, e⟩ := q m (least_iff.mp h).1
  have := (least_iff.mp h').2 y hy
  omega
theorem least_some {l : List Int} (h : l ≠ []) : ∃ m, leastI l = some m := by
  cases e : leastI l with
  | none => exact absurd (least_none.mp e) h
  | some m => exact ⟨m, rfl⟩
theorem mc_of_least {l : List Int} {m : Int} (h : leastI l = some m) : mcI l = some (m, l.countP fun x => x == m) := by unfold mcI; rw [h]; rfl
theorem mc_mul (m : Nat) (hm : 0 < m) (l : List Int) : mcI (l.map fun x => (m : Int) * x) = (mcI l).map fun q => ((m : Int) * q.1, q.2) := by
  cases e : leastI l with
  | none =>
    rw [least_none.mp e]
    rfl
  | some x =>
    rw [mc_of_least e]
    refine mc_iff.mpr ⟨⟨List.mem_map.mpr ⟨x, (least_iff.mp e).1, rfl⟩, fun y hy => ?_⟩, ?_⟩
    · obtain ⟨z, hz, rfl⟩ := List.mem_map.mp hy
      exact Int.mul_le_mul_of_nonneg_left ((least_iff.mp e).2 z hz) (by omega)
    · rw [List.countP_map]
      refine List.countP_congr fun z _ => ?_
      simp only [Function.comp, beq_iff_eq]
      constructor
      · intro h; rw [h]
      · intro h; exact Int.eq_of_mul_eq_mul_left (by omega) h
theorem len_of_mem {α : Type} [DecidableEq α] {l l' : List α} (h : l.Nodup) (h' : l'.Nodup) (e : ∀ x, x ∈ l ↔ x ∈ l') : l.length = l'.length := ((List.perm_ext_iff_of_nodup h h').mpr e).length_eq

/-! costs of fills -/
theorem cAt_rc {C r c : Nat} (hc : c < C) (f : Nat → Nat → Option Nat) (wt : Nat → Nat → Nat) (i : Nat) : cAt C f wt (r * C + c) i = if f r c = none ∨ f r c = some i then 0 else wt r c := by
  have hC : 0 < C := by omega
  have e1 : (r * C + c) / C = r := by rw [Nat.mul_comm, Nat.mul_add_div hC, Nat.div_eq_of_lt hc, Nat.add_zero]
  have e2 : (r * C + c) % C = c := by rw [Nat.mul_comm, Nat.mul_add_mod]; exact Nat.mod_eq_of_lt hc
  unfold cAt
  rw [e1, e2]
theorem all_rc {R C : Nat} {P : Nat → Prop} : (∀ j, j < R * C → P j) ↔ ∀ r c, r < R → c < C → P (r * C + c) := by
  constructor
  · intro h r c h1 h2
    exact h _ (rc_lt h1 h2)
  · intro h j hj
    have hC : 0 < C := Nat.pos_of_ne_zero fun z => by rw [z] at hj; simp at hj
    have := h (j / C) (j % C) (Nat.div_lt_of_lt_mul (by rw [Nat.mul_comm]; exact hj)) (Nat.mod_lt _ hC)
    rwa [Nat.mul_comm, Nat.div_add_mod] at this
theorem cost_zero {R C : Nat} {f : Nat → Nat → Option Nat} {wt : Nat → Nat → Nat} {s : List Nat} (hs : s.length = R * C) (hw : ∀ r c, r < R → c < C → 0 < wt r c) : cst (cAt C f wt) 0 s = 0 ↔ ∀ r c, r < R → c < C → f r c = none ∨ f r c = some (unF C s r c) := by
  rw [cst_zero, hs, all_rc]
  constructor
  · intro h r c h1 h2
    have := h r c h1 h2
    rw [Nat.zero_add, cAt_rc h2] at this
    split at this
    · assumption
    · have := hw r c h1 h2
      omega
  · intro h r c h1 h2
    rw [Nat.zero_add, cAt_rc h2, if_pos (h r c h1 h2)]
theorem count_zero {n : Nat} {t : Nat → Tl} {R C : Nat} (hn : 0 < n) (hC : 0 < C) {f : Nat → Nat → Option Nat} {wt : Nat → Nat → Nat} (hw : ∀ r c, r < R → c < C → 0 < wt r c) : ((costL n t R C f wt).countP fun x => x == 0) = (fillsL n t R C f).length := by
  unfold costL
  rw [List.countP_map, List.countP_eq_length_filter]
  refine len_of_mem ((fills_nodup n t R C noF).filter _) (fills_nodup n t R C f) fun s => ?_
  rw [List.mem_filter, mem_fun hn hC, mem_fun hn hC]
  simp only [Function.comp, beq_iff_eq]
  constructor
  · rintro ⟨⟨h1, h2⟩, h3⟩
    exact ⟨h1, h2.lt, (cost_zero h1 hw).mp h3, h2.fits⟩
  · rintro ⟨h1, h2⟩
    exact ⟨⟨h1, h2.lt, fun _ _ _ _ => .inl rfl, h2.fits⟩, (cost_zero h1 hw).mpr h2.has⟩
theorem cost_free (n : Nat) (t : Nat → Tl) (R C : Nat) (wt : Nat → Nat → Nat) : costL n t R C noF wt = (fillsL n t R C noF).map fun _ => 0 := by
  unfold costL
  refine List.map_congr_left fun s _ => ?_
  exact (cst_zero s 0).mpr fun j _ => by unfold cAt; rw [if_pos (.inl rfl)]
theorem mc_const {α : Type} (l : List α) (h : l ≠ []) : mcI (l.map fun _ => (0 : Int)) = some (0, l.length) := by
  refine mc_iff.mpr ⟨⟨?_, fun y hy => ?_⟩, ?_⟩
  · cases l with
    | nil => exact absurd rfl h
    | cons a l => exact List.mem_cons_self
  · obtain ⟨_, _, rfl⟩ := List.mem_map.mp hy
    exact Int.le_refl _
  · rw [List.countP_map]
    symm
    rw [List.countP_eq_length]
    intro a _
    rfl
theorem cost_heavy (n : Nat) (t : Nat → Tl) (R C m : Nat) (f : Nat → Nat → Option Nat) (wt : Nat → Nat → Nat) : costL n t R C f (fun r c => m * wt r c) = (costL n t R C f wt).map fun x => (m : Int) * x := by
  unfold costL
  rw [List.map_map]
  refine List.map_congr_left fun s _ => ?_
  rw [Function.comp, ← cst_mul]
  refine cst_congr s 0 fun j _ => ?_
  unfold cAt
  split
  · rfl
  · rfl
theorem cost_nil {n : Nat} {t : Nat → Tl} {R C : Nat} {f : Nat → Nat → Option Nat} {wt : Nat → Nat → Nat} : costL n t R C f wt = [] ↔ fillsL n t R C noF = [] := by unfold costL; rw [List.map_eq_nil_iff]
theorem cost_nonneg {n : Nat} {t : Nat → Tl} {R C : Nat} {f : Nat → Nat → Option Nat} {wt : Nat → Nat → Nat} {x : Int} (h : x ∈ costL n t R C f wt) : 0 ≤ x := by
  obtain ⟨s, _, rfl⟩ := List.mem_map.mp h
  exact cst_nonneg _ _ _
/-- a floor that is full and right -/
theorem full_len {n : Nat} {t : Nat → Tl} {R C : Nat} (hn : 0 < n) (hC : 0 < C) {s : List Nat} (hs : s ∈ fillsL n t R C noF) : (fillsL n t R C fun r c => some (unF C s r c)).length = 1 := by
  obtain ⟨h1, h2⟩ := (mem_fun hn hC s).mp hs
  have : fillsL n t R C (fun r c => some (unF C s r c)) = [s] ∨ True := .inr trivial
  rw [show (1 : Nat) = [s].length from rfl]
  refine len_of_mem (fills_nodup n t R C _) (by simp) fun x => ?_
  rw [mem_fun hn hC, List.mem_singleton]
  constructor
  · rintro ⟨l1, f1⟩
    apply List.ext_getElem (by omega)
    intro j j1 j2
    have hj : j < R * C := by omega
    have := f1.has (j / C) (j % C) (Nat.div_lt_of_lt_mul (by rw [Nat.mul_comm]; exact hj)) (Nat.mod_lt _ hC)
    rcases this with e | e
    · cases e
    · have e := Option.some.inj e
      unfold unF at e
      rw [Nat.mul_comm, Nat.div_add_mod, List.getD_eq_getElem?_getD, List.getD_eq_getElem?_getD, List.getElem?_eq_getElem j1, List.getElem?_eq_getElem j2] at e
      exact e.symm
  · rintro rfl
    exact ⟨h1, h2.lt, fun _ _ _ _ => .inr rfl, h2.fits⟩
theorem cost_self {R C : Nat} {wt : Nat → Nat → Nat} {s : List Nat} (hs : s.length = R * C) : cst (cAt C (fun r c => some (unF C s r c)) wt) 0 s = 0 := by
  rw [cst_zero, hs, all_rc]
  intro r c h1 h2
  rw [Nat.zero_add, cAt_rc h2, if_pos (.inr rfl)]
/-- one tile more -/
theorem more_fill {n : Nat} {t t2 : Nat → Tl} {R C : Nat} (hn : 0 < n) (hC : 0 < C) (ht : ∀ i, i < n → t2 i = t i) {s : List Nat} (h : s ∈ fillsL n t R C noF) : s ∈ fillsL (n + 1) t2 R C noF := by
  obtain ⟨h1, h2⟩ := (mem_fun hn hC s).mp h
  refine (mem_fun (Nat.succ_pos n) hC s).mpr ⟨h1, fun r c a b => Nat.lt_succ_of_lt (h2.lt r c a b), fun _ _ _ _ => .inl rfl, ?_, ?_⟩
  · intro r c a b
    rw [ht _ (h2.lt r c a (by omega)), ht _ (h2.lt r (c + 1) a b)]
    exact h2.fits.1 r c a b
  · intro r c a b
    rw [ht _ (h2.lt r c (by omega) b), ht _ (h2.lt (r + 1) c a b)]
    exact h2.fits.2 r c a b

/-! cost_of -/
def costF (R C : Nat) (f : Nat → Nat → Option Nat) (wt : Nat → Nat → Nat) (g : Nat → Nat → Option Nat) : Nat := (((places R C).filter fun p => !(f p.1 p.2 == none || f p.1 p.2 == g p.1 p.2)).map fun p => wt p.1 p.2).sum
theorem cost_of_ok (R C : Nat) (f : Nat → Nat → Option Nat) (wt : Nat → Nat → Nat) (g : Nat → Nat → Option Nat) (hR : 0 < R ∧ R ≤ 100) (hC : C ≤ 100) : m_cost_of [fD R C f, fD R C (wF wt), fD R C g] = .ok (.int (costF R C f wt g : Nat)) := by
  have hl := look_w_ok R C f (wF wt) hR.1
  have h1 := size_ok R C f hR.1
  have h2 := size_ok R C g hR.1
  have hne : neD (.tuple [.int (R : Nat), .int (C : Nat)]) (.tuple [.int (R : Nat), .int (C : Nat)]) = some (.bool false) := neD_self (by rfl)
  have hpp := places_ok R C f hR hC
  have hlen : R * C ≤ 1000000 := by have := Nat.mul_le_mul hR.2 hC; omega
  unfold m_cost_of b_cost_of
  simp only [runD_ap]
  simp [-List.map_map, hl, h1, h2, hne, hpp, len_places, hlen]
  rw [comp_filter plD (fun p => !(f p.1 p.2 == none || f p.1 p.2 == g p.1 p.2)) plD (places R C) (by rfl) (fun p hp => by
    obtain ⟨a, b⟩ := mem_places.mp hp
    have e1 := at_ok R C f p.1 p.2 hR hC a b
    have e2 := at_ok R C g p.1 p.2 hR hC a b
    simp only [turnC]
    simp [tgN, e1, e2, nin_oD]
    split <;> rfl)]
  have hfl : ((places R C).filter fun p => !(f p.1 p.2 == none || f p.1 p.2 == g p.1 p.2)).length ≤ 1000000 := Nat.le_trans (List.length_filter_le _ _) (by rw [len_places]; exact hlen)
  unfold costF
  have hmem : ∀ p ∈ (places R C).filter (fun p => !(f p.1 p.2 == none || f p.1 p.2 == g p.1 p.2)), p.1 < R ∧ p.2 < C := fun p hp => mem_places.mp (List.mem_filter.mp hp).1
  generalize (places R C).filter (fun p => !(f p.1 p.2 == none || f p.1 p.2 == g p.1 p.2)) = l at hfl hmem ⊢
  simp [-List.map_map, hfl]
  rw [comp_map plD (fun p => PyData.int (wt p.1 p.2 : Nat)) l (by rfl) (fun p hp => by
    obtain ⟨a, b⟩ := hmem p hp
    have e := at_ok R C (wF wt) p.1 p.2 hR hC a b
    simp [turnC, tgN, e])]
  simp [-List.map_map, intsOf_mapf]
  clear hfl hmem
  induction l with
  | nil => rfl
  | cons x l ih => simp only [List.map_cons, List.sum_cons, ih, Int.natCast_add]
theorem cst_sum (a : Nat → Nat → Nat) : ∀ (s : List Nat) (k : Nat), cst a k s = ((((List.range s.length).map fun j => a (k + j) (s.getD j 0)).sum : Nat) : Int)
  | [], k => rfl
  | i :: s, k => by
    rw [List.length_cons, List.range_succ_eq_map, List.map_cons, List.sum_cons, List.map_map]
    simp only [cst, Nat.add_zero, List.getD_cons_zero]
    rw [cst_sum a s (k + 1), Int.natCast_add]
    have : ((List.range s.length).map fun j => a (k + 1 + j) (s.getD j 0)) = (List.range s.length).map ((fun j => a (k + j) ((i :: s).getD j 0)) ∘ Nat.succ) := List.map_congr_left fun j _ => by
      simp only [Function.comp, List.getD_cons_succ]
      rw [show k + 1 + j = k + j.succ by omega]
    rw [this]
theorem cst_costF {R C : Nat} (hC : 0 < C) {f : Nat → Nat → Option Nat} {wt : Nat → Nat → Nat} {s : List Nat} (hs : s.length = R * C) : cst (cAt C f wt) 0 s = ((costF R C f wt fun r c => some (unF C s r c) : Nat) : Int) := by
  rw [cst_sum, hs]
  unfold costF
  have e1 : ((List.range (R * C)).map fun j => cAt C f wt (0 + j) (s.getD j 0)) = (places R C).map fun p => if (!(f p.1 p.2 == none || f p.1 p.2 == some (unF C s p.1 p.2))) = true then wt p.1 p.2 else 0 := by
    rw [places_eq C hC, List.map_map]
    refine List.map_congr_left fun j _ => ?_
    simp only [Function.comp, Nat.zero_add]
    unfold cAt unF
    rw [Nat.mul_comm, Nat.div_add_mod]
    by_cases h : f (j / C) (j % C) = none ∨ f (j / C) (j % C) = some (s.getD j 0)
    · rw [if_pos h, if_neg]
      rcases h with h | h <;> rw [h] <;> simp
    · rw [if_neg h, if_pos]
      rw [not_or] at h
      simp only [Bool.not_eq_true', Bool.or_eq_false_iff, beq_eq_false_iff_ne]
      exact h
  rw [e1]
  congr 1
  generalize places R C = l
  induction l with
  | nil => rfl
  | cons p l ih =>
    rw [List.map_cons, List.sum_cons, ih, List.filter_cons]
    split
    · rw [List.map_cons, List.sum_cons]
    · rw [Nat.zero_add]

/-! small floors -/
theorem gt_zero (k : Nat) : gtD (.int (k : Nat)) (.int 0) = some (.bool (decide (0 < k))) := by
  simp
theorem isEmpty_ne (l : List D) (hc : cl 20 (.list l) = true) : neD (.list l) (.list []) = some (.bool (decide (0 < l.length))) := by
  rw [neD_cl hc (by rfl)]
  cases l <;> rfl
theorem isEmpty_eq (l : List D) (hc : cl 20 (.list l) = true) : eqD (.list l) (.list []) = some (.bool (decide (l.length = 0))) := by
  rw [eqD_cl hc (by rfl)]
  cases l <;> rfl
theorem fills_cl (l : List (List Nat)) : cl 20 (.list (l.map nsD)) = true := by
  simp [nsD, List.all_map]
theorem boolsOf_map {α : Type} (p : α → Bool) : ∀ l : List α, boolsOf (l.map fun x => PyData.bool (p x)) = some (l.map p)
  | [] => rfl
  | x :: l => by simp [boolsOf, boolsOf_map p l]
theorem eq_zero (k : Nat) : eqD (.int (k : Nat)) (.int 0) = some (.bool (decide (k = 0))) := by
  simp
  exact Bool.eq_iff_iff.mpr (by simp)
theorem ne_oD (a b : Option Nat) : neD (oD a) (oD b) = some (.bool (a != b)) := by
  have ca : cl 20 (oD a) = true := by cases a <;> rfl
  have cb : cl 20 (oD b) = true := by cases b <;> rfl
  have := eqD_oD a b
  rw [eqD_cl ca cb] at this
  rw [neD_cl ca cb]
  have e : PyData.eqv (oD a) (oD b) = (a == b) := by simpa using this
  rw [e]
  rfl
structure Small (n R C : Nat) : Prop where
  n0 : 0 < n
  n1 : n ≤ 16
  R0 : 0 < R
  R1 : R ≤ 9
  C0 : 0 < C
  C1 : C ≤ 4
  RC : R * C ≤ 9
theorem Small.R {n R C : Nat} (h : Small n R C) : 0 < R ∧ R ≤ 100 := ⟨h.R0, by have := h.R1; omega⟩
theorem Small.C {n R C : Nat} (h : Small n R C) : C ≤ 100 := by have := h.C1; omega

/-! l_fills, the function -/
theorem fills_ok (n R C : Nat) (t : Nat → Tl) (f : Nat → Nat → Option Nat) (hn : 0 < n) (hR : 0 < R ∧ R ≤ 100) (hC : 0 < C ∧ C ≤ 100) (hb : n ^ (R * C) ≤ 100000) (hn2 : n ≤ 1000) : m_l_fills [tlsD n t, fD R C f] = .ok (.list ((fillsL n t R C f).map nsD)) := by
  unfold m_l_fills b_l_fills
  simp only [runD_ap]
  have hl : R * C ≤ 10000 := by have := Nat.mul_le_mul hR.2 hC.2; omega
  simp [-List.map_map, hR.1]
  rw [for_app (fun s : List D => [some (tlsD n t), some (fD R C f), some (.int (C : Nat)), some (.list s), none, none, none, none, none, none, none, none, none]) (fun r : Nat => rowD C (f r)) (fun r => (List.range C).map fun c => oD (f r c)) C 20000 (List.range R) [] (by simp) (by have := Nat.mul_comm R C; simp; omega) (by rfl) (by rfl)]
  rotate_left
  · intro r hr s hs
    have q : s.length + C ≤ 1000000 := by omega
    simp [turnL, rowD, q]
  have hw : (List.range R).flatMap (fun r => (List.range C).map fun c => oD (f r c)) = (wanted R C f).map oD := by
    unfold wanted
    rw [List.map_map, places_map]
    rfl
  simp [-List.map_map, hw, enumD_l, enumL_map]
  have hz : (wanted R C f).zipIdx.length = R * C := by rw [List.length_zipIdx, wanted_len]
  have hzi : ∀ (i : Nat) (p : Option Nat × Nat), (wanted R C f).zipIdx[i]? = some p → p.2 = i := fun i p h => by
    rw [List.getElem?_zipIdx] at h
    cases e : (wanted R C f)[i]? with
    | none => rw [e] at h; cases h
    | some x => rw [e] at h; cases h; simp
  have hI : ∀ i p (s : List (List Nat)), (wanted R C f).zipIdx[i]? = some p → FillI n (0 + i) s → FillI n (0 + i + 1) (longer n t C p.2 p.1 s) := fun i p s hp h => by
    rw [Nat.zero_add] at h ⊢
    rw [hzi i p hp]
    exact longer_inv h
  have h0 : FillI n 0 [[]] := ⟨by simp, fun s hs => by rw [List.mem_singleton] at hs; subst hs; exact ⟨rfl, fun i hi => nomatch hi⟩⟩
  rw [for_foldi (fun s : List (List Nat) => [some (tlsD n t), some (fD R C f), some (.int (C : Nat)), some (.list ((wanted R C f).map oD)), none, some (.list (s.map nsD)), none, none, none, none, none, none, none]) (fun p : Option Nat × Nat => PyData.tuple [.int (p.2 : Nat), oD p.1]) (fun made p => longer n t C p.2 p.1 made) (FillI n) (wanted R C f).zipIdx [[]] 0 h0 hI (by rfl) (by rfl)]
  · simp
    rfl
  intro i p made hp hi
  obtain ⟨w, k⟩ := p
  have hk : k = i := hzi i _ hp
  subst hk
  rw [Nat.zero_add] at hi
  have hik : k < R * C := by rw [← hz]; exact (List.getElem?_eq_some_iff.mp hp).1
  have hpow : n ^ k * n ≤ 100000 := by
    rw [← Nat.pow_succ]
    exact Nat.le_trans (Nat.pow_le_pow_right hn (by omega)) hb
  simp [turnL, tgT, -List.map_map]
  rw [for_app (fun l : List D => [some (tlsD n t), some (fD R C f), some (.int (C : Nat)), some (.list ((wanted R C f).map oD)), none, some (.list (made.map nsD)), some (.int (k : Nat)), some (oD w), some (.list l), none, none, none, none]) nsD (fun s => ((List.range n).filter fun i => okAt t C s k w i).map fun i => nsD (s ++ [i])) n 200000 made [] (fun s _ => by rw [List.length_map]; exact Nat.le_trans (List.length_filter_le _ _) (by simp)) (by have := Nat.mul_le_mul_left n hi.len; rw [Nat.mul_comm n (n ^ k)] at this; simp; omega) (by rfl) (by rfl)]
  · simp [longer, List.map_flatMap, Function.comp_def]
  intro s hs l hl2
  obtain ⟨hs1, hs2⟩ := hi.mem s hs
  have hd : ∀ j, s.getD j 0 < n := fun j => by
    rw [List.getD_eq_getElem?_getD]
    cases e : s[j]? with
    | none => exact hn
    | some x => exact hs2 x (List.mem_of_getElem? e)
  simp [turnL, -List.map_map]
  rw [for_app (fun l : List D => [some (tlsD n t), some (fD R C f), some (.int (C : Nat)), some (.list ((wanted R C f).map oD)), none, some (.list (made.map nsD)), some (.int (k : Nat)), some (oD w), some (.list l), some (nsD s), none, none, none]) (fun r : Nat => PyData.tuple [.int (r : Nat), tlD (t r)]) (fun i => if okAt t C s k w i = true then [nsD (s ++ [i])] else []) 1 300000 (List.range n) l (fun i _ => by split <;> simp) (by simp; omega) (by rfl) (by rfl)]
  · have : ∀ z : List Nat, z.flatMap (fun i => if okAt t C s k w i = true then [nsD (s ++ [i])] else []) = (z.filter fun i => okAt t C s k w i).map fun i => nsD (s ++ [i]) := fun z => by
      induction z with
      | nil => rfl
      | cons x z ih => cases q : okAt t C s k w x <;> simp [q, ih]
    rw [this]
    simp
  intro j hj m hm
  have hj := List.mem_range.mp hj
  simp [turnL, tgT, in_two, hC.1, -List.map_map]
  have hm0 : (0 < (k : Int) % C) ↔ ¬ k % C = 0 := by
    rw [← Int.natCast_emod]
    omega
  have hk0 : ¬ k % C = 0 → 0 < k := fun h => by
    rcases Nat.eq_zero_or_pos k with z | z
    · subst z; simp at h
    · exact z
  have f1 : ¬ k % C = 0 → ixD (nsD s) (.int (-1)) = some (.int (s.getD (k - 1) 0 : Nat)) := fun h => ns_last s (k - 1) (by have := hk0 h; omega)
  have f2 : C ≤ k → ixD (nsD s) (.int ((k : Int) - C)) = some (.int (s.getD (k - C) 0 : Nat)) := fun h => by
    rw [show (k : Int) - C = ((k - C : Nat) : Int) by omega]
    exact ns_at s (k - C) (by omega)
  have f3 := ns_add s j (by omega)
  have d1 := hd (k - 1)
  have d2 := hd (k - C)
  have hm1 : m.length < 1000000 := by omega
  unfold okAt
  have hb2 : (w == none) = w.isNone := by cases w <;> rfl
  rw [hb2]
  generalize (w.isNone || w == some j) = b
  clear hI hzi hz hi hp hs hd hs1 hs2 h0
  generalize s.getD (k - 1) 0 = x1 at f1 d1 ⊢
  generalize s.getD (k - C) 0 = x2 at f2 d2 ⊢
  by_cases m0 : k % C = 0
  · have m0' : ¬ 0 < (k : Int) % C := fun z => hm0.mp z m0
    by_cases m1 : k < C
    · have m1' : ¬ C ≤ k := by omega
      cases b <;> simp [m0, m0', m1, m1', f3, hm1]
    · have m1' : C ≤ k := by omega
      have f2 := f2 m1'
      by_cases e2 : (t x2).2.2.1 = (t j).1 <;> cases b <;> simp [m0, m0', m1, m1', f2, f3, hm1, d2, nat_bne, e2]
  · have m0' : 0 < (k : Int) % C := hm0.mpr m0
    have f1 := f1 m0
    by_cases m1 : k < C
    · have m1' : ¬ C ≤ k := by omega
      by_cases e1 : (t x1).2.1 = (t j).2.2.2 <;> cases b <;> simp [m0, m0', m1, m1', f1, f3, hm1, d1, nat_bne, e1]
    · have m1' : C ≤ k := by omega
      have f2 := f2 m1'
      by_cases e1 : (t x1).2.1 = (t j).2.2.2 <;> by_cases e2 : (t x2).2.2.1 = (t j).1 <;> cases b <;> simp [m0, m0', m1, m1', f1, f2, f3, hm1, d1, d2, nat_bne, e1, e2]

/-! the law's as_floor -/
theorem asfloor_ok (R C : Nat) (s : List Nat) (hC : 0 < C ∧ C ≤ 100) (hR : R ≤ 100) (hs : s.length = R * C) : m_l_as_floor [nsD s, .int (C : Nat)] = .ok (fD R C fun r c => some (s.getD (r * C + c) 0)) := by
  unfold m_l_as_floor b_l_as_floor
  simp only [runD_ap]
  have hr3 := range3_ok R C hC hR
  rw [← hs] at hr3
  have hl : lenD [nsD s] = some (.int (s.length : Nat)) := by simp [nsD]
  have q : R ≤ 1000000 := by omega
  simp [-List.map_map, hl, hr3, q]
  rw [comp_map (fun r : Nat => PyData.int ((r * C : Nat) : Int)) (fun r => rowD C fun c => some (s.getD (r * C + c) 0)) (List.range R) (by simp) (fun r hr => by
    have hr := List.mem_range.mp hr
    have hb : r * C + C ≤ s.length := by
      rw [hs, ← Nat.succ_mul]
      exact Nat.mul_le_mul_right C hr
    have e : cutD (s.map fun i => PyData.int (i : Nat)) (some ((r * C : Nat) : Int)) (some (((r * C : Nat) : Int) + (C : Int))) = (List.range C).map fun c => oD (some (s.getD (r * C + c) 0)) := by
      rw [← Int.natCast_add, cut_nat, show r * C + C - r * C = C by omega]
      apply List.ext_getElem
      · simp; omega
      · intro i h1 h2
        simp at h2
        have : r * C + i < s.length := by omega
        simp [List.getD_eq_getElem?_getD, this]
    simp only [turnC, tgN_ap, ro_some, rb_ok]
    simp [nsD, -List.map_map] at e ⊢
    rw [e]
    rfl)]
  simp
  rfl

/-! the law's own cost -/
def rowN (C : Nat) (f : Nat → Option Nat) (wt : Nat → Nat) (g : Nat → Option Nat) : Nat := (((List.range C).filter fun c => !(f c == none || f c == g c)).map wt).sum
theorem costF_rows (R C : Nat) (f : Nat → Nat → Option Nat) (wt : Nat → Nat → Nat) (g : Nat → Nat → Option Nat) : costF R C f wt g = ((List.range R).map fun r => rowN C (f r) (wt r) (g r)).sum := by
  unfold costF places
  generalize List.range R = l
  induction l with
  | nil => rfl
  | cons r l ih =>
    rw [List.flatMap_cons, List.filter_append, List.map_append, List.sum_append, ih, List.map_cons, List.sum_cons]
    congr 1
    unfold rowN
    rw [List.filter_map, List.map_map]
    rfl
theorem sumD_nat {α : Type} (l : List α) (h : α → Nat) : sumD [.list (l.map fun x => .int (h x : Nat))] = some (.int ((l.map h).sum : Nat)) := by
  unfold sumD
  simp only [intsOf_mapf]
  show some (PyData.int _) = _
  congr 2
  induction l with
  | nil => rfl
  | cons x l ih => simp only [List.map_cons, List.sum_cons, ih, Int.natCast_add]
theorem notis_oD (a : Option Nat) : notIsD (oD a) .none = some (.bool (a != none)) := by cases a <;> rfl
theorem lcost_ok (R C : Nat) (f : Nat → Nat → Option Nat) (wt : Nat → Nat → Nat) (g : Nat → Nat → Option Nat) (hR : R ≤ 100) (hC : C ≤ 100) : m_l_cost [fD R C f, fD R C (wF wt), fD R C g] = .ok (.int (costF R C f wt g : Nat)) := by
  unfold m_l_cost b_l_cost
  simp only [runD_ap]
  have hz : zip3D [fD R C f, fD R C (wF wt), fD R C g] = some ((List.range R).map fun r => .tuple [rowD C (f r), rowD C (wF wt r), rowD C (g r)]) := by
    unfold fD
    rw [zip3D_t, zip3_range]
  simp [-List.map_map, hz, show R ≤ 1000000 by omega]
  rw [for_fold (fun c : Nat => [some (fD R C f), some (fD R C (wF wt)), some (fD R C g), some (.int (c : Nat)), none, none, none, none, none, none]) (fun r : Nat => PyData.tuple [rowD C (f r), rowD C (wF wt r), rowD C (g r)]) (fun c r => c + rowN C (f r) (wt r) (g r)) (fun _ => True) (List.range R) 0 trivial (fun _ _ _ _ => trivial) (by rfl) (by rfl) (fun r _ c _ => by
    have hz2 : zip3D [rowD C (f r), rowD C (wF wt r), rowD C (g r)] = some ((List.range C).map fun c => .tuple [oD (f r c), .int (wt r c : Nat), oD (g r c)]) := by
      unfold rowD
      rw [zip3D_t, zip3_range]
      rfl
    simp [-List.map_map, turnL, tgT, hz2, show C ≤ 1000000 by omega]
    rw [comp_filter (fun c : Nat => PyData.tuple [oD (f r c), .int (wt r c : Nat), oD (g r c)]) (fun c => !(f r c == none || f r c == g r c)) (fun c => .int (wt r c : Nat)) (List.range C) (by rfl) (fun c _ => by
      generalize f r c = a
      generalize g r c = b
      cases a with
      | none => simp [turnC, tgT]
      | some i =>
        cases b with
        | none =>
          have h2 := ne_oD (some i) none
          simp only [oD] at h2
          simp [turnC, tgT, h2]
        | some j =>
          have h2 := ne_oD (some i) (some j)
          simp only [oD] at h2
          by_cases e2 : i = j
          · subst e2
            simp [turnC, tgT, h2]
          · simp [turnC, tgT, h2, e2])]
    have hsum := sumD_nat ((List.range C).filter fun c => !(f r c == none || f r c == g r c)) (wt r)
    unfold rowN
    generalize (List.range C).filter (fun c => !(f r c == none || f r c == g r c)) = L at hsum ⊢
    simp [-List.map_map, -sumD_l, hsum])]
  have e : ∀ (l : List Nat) (c : Nat), l.foldl (fun c r => c + rowN C (f r) (wt r) (g r)) c = c + (l.map fun r => rowN C (f r) (wt r) (g r)).sum := fun l => by
    induction l with
    | nil => intro c; simp
    | cons x l ih => intro c; rw [List.foldl_cons, ih, List.map_cons, List.sum_cons]; omega
  have := e (List.range R) 0
  rw [Nat.zero_add] at this
  rw [costF_rows]
  simp [-List.map_map, this]

/-! look-ups in a table of classes -/
theorem lk_here (c : Str) (b : Bool) (l : List (Str × Bool)) : ((c, b) :: l).lookup c = some b := by simp [List.lookup_cons]
theorem lk_next {c e : Str} (b : Bool) (l : List (Str × Bool)) (h : decide (c = e) = false) : ((e, b) :: l).lookup c = l.lookup c := by simp [List.lookup_cons, ne_s h]

/-! the word of Unlike -/
@[simp] theorem cl_unlike (n : Nat) : cl n (.str "unlike") = true := cl_s n _ (by decide +kernel)
theorem ne_up : decide (("Unlike" : Str) = "NoPlace") = false := by decide +kernel
theorem ne_ut : decide (("Unlike" : Str) = "NoTile") = false := by decide +kernel
theorem ne_uf : decide (("Unlike" : Str) = "NoFill") = false := by decide +kernel
theorem word_unlike : m_l_word [excD "Unlike"] = .ok (.str "unlike") := by
  unfold m_l_word b_l_word
  simp only [runD_ap]
  have hc : countD (.list [.bool false, .bool false, .bool false, .bool false, .bool false, .bool true]) (.bool true) = some (.int 1) := by rfl
  have hi : indexD (.list [.bool false, .bool false, .bool false, .bool false, .bool false, .bool true]) (.bool true) = some (.int 5) := by rfl
  simp [lk_next _ _ ne_up, lk_next _ _ ne_ut, lk_next _ _ ne_uf, lk_here, hc, hi]

theorem fills_len (n : Nat) (t : Nat → Tl) (R C : Nat) (f : Nat → Nat → Option Nat) : (fillsL n t R C f).length ≤ n ^ (R * C) := by
  have h : ∀ (ws : List (Option Nat)) (j : Nat) (made : List (List Nat)), FillI n j made → FillI n (j + ws.length) ((ws.zipIdx j).foldl (fun made p => longer n t C p.2 p.1 made) made) := fun ws => by
    induction ws with
    | nil => exact fun j made h => h
    | cons w ws ih =>
      intro j made h
      have := ih (j + 1) _ (longer_inv (t := t) (C := C) (w := w) h)
      rw [List.length_cons, show j + (ws.length + 1) = j + 1 + ws.length by omega]
      exact this
  have := (h (wanted R C f) 0 [[]] ⟨by simp, fun s hs => by rw [List.mem_singleton] at hs; subst hs; exact ⟨rfl, fun i hi => nomatch hi⟩⟩).len
  rw [Nat.zero_add, wanted_len] at this
  exact this

/-! a row more -/
def downF (R : Nat) (f g : Nat → Nat → Option Nat) (r c : Nat) : Option Nat := if r < R then f r c else g (r - R) c
theorem add_fD (R m C : Nat) (f g : Nat → Nat → Option Nat) (h : R + m ≤ 200 := by omega) : addD (fD R C f) (fD m C g) = some (fD (R + m) C (downF R f g)) := by
  unfold fD
  have e : (fun r => rowD C (if r < R then f r else g (r - R))) = fun r => rowD C (downF R f g r) := by
    funext r
    have : (if r < R then f r else g (r - R)) = downF R f g r := by
      funext c
      unfold downF
      split <;> rfl
    rw [this]
  rw [addD_t, if_pos (by simp; omega), f_app, e]
theorem sl_fD (R C : Nat) (f : Nat → Nat → Option Nat) (hR : 0 < R) : slD (fD R C f) none (some 1) = some (fD 1 C f) := by
  obtain ⟨R, rfl⟩ : ∃ k, R = k + 1 := ⟨R - 1, by omega⟩
  unfold fD
  rw [List.range_succ_eq_map]
  show some (PyData.tuple (cutD _ none (some 1))) = _
  congr 2

/-! the law -/
@[simp] theorem cl_nofill (n : Nat) : cl n (.str "no fill") = true := cl_s n _ (by decide +kernel)
theorem word_noFill : m_l_word [excD "NoFill"] = .ok (.str "no fill") := by
  unfold m_l_word b_l_word
  simp only [runD_ap]
  have hc : countD (.list [.bool true, .bool false, .bool false, .bool false, .bool false, .bool false]) (.bool true) = some (.int 1) := by rfl
  have hi : indexD (.list [.bool true, .bool false, .bool false, .bool false, .bool false, .bool false]) (.bool true) = some (.int 0) := by rfl
  simp [lk_here, hc, hi]
section
variable (a b w c : D) (ha : okD a = .ok a) (hb : okD b = .ok b) (hw : okD w = .ok w) (hc : okD c = .ok c)
include ha hb hw hc
theorem do_ok (k : Nat) (d : D) (hd : okD d = .ok d) (h : (if k = 0 then m_least_cost [a, b, w] else if k = 1 then m_mended [a, b, w] else m_cost_of [b, w, c]) = .ok d) : m_l_do [.int (k : Nat), a, b, w, c] = .ok d := by
  unfold m_l_do b_l_do
  simp only [runD_ap]
  simp [ha, hb, hw, hc]
  rw [tryS_ok (d := d) (by rfl) (by
    by_cases h0 : k = 0
    · subst h0
      rw [if_pos rfl] at h
      simp [ha, hb, hw, hc, h]
    · by_cases h1 : k = 1
      · subst h1
        rw [if_neg (by omega), if_pos rfl] at h
        simp [ha, hb, hw, hc, h]
      · rw [if_neg h0, if_neg h1] at h
        have e0 : ((k : Int) == 0) = false := beq_eq_false_iff_ne.mpr (by omega)
        have e1 : ((k : Int) == 1) = false := beq_eq_false_iff_ne.mpr (by omega)
        simp [ha, hb, hw, hc, h, h0, h1]
        intro z
        omega)]
  simp [hd]
theorem do_err (k : Nat) (e wd : Str) (hcs : e ∈ (["NoFill", "NoPlace", "Unlike"] : List Str)) (hwd : m_l_word [excD e] = .ok (.str wd)) (h : (if k = 0 then m_least_cost [a, b, w] else if k = 1 then m_mended [a, b, w] else m_cost_of [b, w, c]) = .err e) : m_l_do [.int (k : Nat), a, b, w, c] = .ok (.str wd) := by
  unfold m_l_do b_l_do
  simp only [runD_ap]
  simp [ha, hb, hw, hc]
  rw [tryS_err (c := e) (by rfl) (by
    by_cases h0 : k = 0
    · subst h0
      rw [if_pos rfl] at h
      simp [ha, hb, hw, hc, h]
    · by_cases h1 : k = 1
      · subst h1
        rw [if_neg (by omega), if_pos rfl] at h
        simp [ha, hb, hw, hc, h]
      · rw [if_neg h0, if_neg h1] at h
        simp [ha, hb, hw, hc, h, h0, h1]
        intro z
        omega) hcs]
  simp [hwd]
end
theorem fls_cl (R C : Nat) (f : Nat → Nat → Option Nat) : cl 20 (fD R C f) = true := by
  simp [fD, rowD, List.all_map]
theorem ne_fD (R C : Nat) (f : Nat → Nat → Option Nat) : neD (fD R C f) (fD R C f) = some (.bool false) := neD_self (fls_cl R C f)
theorem size_ne (R C : Nat) : neD (.tuple [.int ((R + 1 : Nat) : Int), .int (C : Nat)]) (.tuple [.int (R : Nat), .int (C : Nat)]) = some (.bool true) := by
  rw [neD_cl (by rfl) (by rfl)]
  have : (((R + 1 : Nat) : Int) == (R : Int)) = false := beq_eq_false_iff_ne.mpr (by omega)
  show some (PyData.bool (!((((R + 1 : Nat) : Int) == (R : Int)) && (((C : Int) == (C : Int)) && true)))) = _
  rw [this]
  rfl
theorem look_bad (R C : Nat) (f g : Nat → Nat → Option Nat) (hR : 0 < R) : m_look_weights [fD R C f, fD (R + 1) C g] = .err "Unlike" := by
  have h1 := size_ok R C f hR
  have h2 := size_ok (R + 1) C g (by omega)
  unfold m_look_weights b_look_weights
  simp only [runD_ap]
  simp [-Int.natCast_add, h1, h2, size_ne]
def flS (R C : Nat) (s : List Nat) : D := fD R C fun r c => some (unF C s r c)
@[simp] theorem okD_flS (R C : Nat) (s : List Nat) : okD (flS R C s) = .ok (flS R C s) := nr rfl
theorem flS_cl (R C : Nat) (s : List Nat) : cl 20 (flS R C s) = true := fls_cl R C _
theorem ints_cl (l : List Int) : cl 20 (.list (l.map .int)) = true := by rw [cl_l, List.all_eq_true]; intro x hx; obtain ⟨z, _, rfl⟩ := List.mem_map.mp hx; rfl
theorem count_ints (l : List Int) (m : Int) : countD (.list (l.map .int)) (.int m) = some (.int ((l.countP fun x => x == m : Nat) : Int)) := by
  have h1 : SeqAt.shaped (.list (l.map PyData.int)) = true := cl_shaped (ints_cl l)
  have h2 : SeqAt.shaped (.int m) = true := cl_shaped (show cl 20 (.int m) = true by rfl)
  unfold countD
  simp only [if_pos (And.intro h1 h2), List.countP_map]
  rfl
theorem in_flS (R C : Nat) (L : List (List Nat)) (s : List Nat) (h : s ∈ L) : notInE (flS R C s) (.list (L.map (flS R C))) = some (.bool false) := by
  rw [ninE_l (flS_cl R C s) (by rw [cl_l, List.all_eq_true]; intro x hx; obtain ⟨z, _, rfl⟩ := List.mem_map.mp hx; simp [flS, fD, rowD, List.all_map])]
  have : ((L.map (flS R C)).any fun z => PyData.eqv z (flS R C s)) = true := by
    rw [List.any_eq_true]
    refine ⟨_, List.mem_map_of_mem h, ?_⟩
    have := eqD_self (flS_cl R C s)
    rw [eqD_cl (flS_cl R C s) (flS_cl R C s)] at this
    simpa using this
  rw [this]
  rfl
theorem least_bad (n R C : Nat) (t : Nat → Tl) (f g : Nat → Nat → Option Nat) (hR : 0 < R) : m_least_cost [tlsD n t, fD R C f, fD (R + 1) C g] = .err "Unlike" := by
  unfold m_least_cost b_least_cost
  simp only [runD_ap]
  simp [look_bad R C f g hR]
theorem mended_bad (n R C : Nat) (t : Nat → Tl) (f g : Nat → Nat → Option Nat) (hR : 0 < R) : m_mended [tlsD n t, fD R C f, fD (R + 1) C g] = .err "Unlike" := by
  unfold m_mended b_mended
  simp only [runD_ap]
  simp [look_bad R C f g hR]
theorem cost_bad (R C : Nat) (f g h : Nat → Nat → Option Nat) (hR : 0 < R) : m_cost_of [fD R C f, fD (R + 1) C g, fD R C h] = .err "Unlike" := by
  unfold m_cost_of b_cost_of
  simp only [runD_ap]
  simp [look_bad R C f g hR]
theorem cost_bad2 (R C : Nat) (f g h : Nat → Nat → Option Nat) (hR : 0 < R) : m_cost_of [fD R C f, fD R C g, fD (R + 1) C h] = .err "Unlike" := by
  have h1 := size_ok R C f hR
  have h2 := size_ok (R + 1) C h (by omega)
  have h3 := look_w_ok R C f g hR
  unfold m_cost_of b_cost_of
  simp only [runD_ap]
  simp [-Int.natCast_add, h1, h2, h3, size_ne]
theorem law_true (ns : List Int) : m_law [scr ns] = .ok (.bool true) := by
  unfold m_law b_law
  simp only [runD_ap]
  obtain ⟨n, t, ht, gt, hn⟩ := tiles_ok ns 0 4 (by omega) (by omega)
  obtain ⟨R, C, hs, hR, hC, hR3, hC4, hRC⟩ := sides_ok ns 90 (by omega)
  have hn0 := gt.pos
  have hn4 : n ≤ 4 := by omega
  have hp91 := pick_ok ns 91 2 (by omega) (by omega)
  have hl91 := pick_lt ns 91 2 (by omega)
  generalize pickV ns 91 2 = k2 at hp91 hl91
  obtain ⟨m, hm, hm0, hm2⟩ : ∃ m : Nat, (1 : Int) + (k2 : Nat) = (m : Nat) ∧ 0 < m ∧ m ≤ 2 := ⟨1 + k2, by omega, by omega, by omega⟩
  have hfl : m_l_floor [scr ns, .int 100, tlsD n t, .int (R : Nat), .int (C : Nat), .int (m : Nat)] = .ok (fD R C (drawF ns 100 n m)) := floor_ok ns 100 n m R C t (by omega) (by omega) (by omega) (by omega) (by omega)
  have hfl3 : m_l_floor [scr ns, .int 300, tlsD n t, .int (R : Nat), .int (C : Nat), .int 1] = .ok (fD R C (drawF ns 300 n 1)) := floor_ok ns 300 n 1 R C t (by omega) (by omega) (by omega) (by omega) (by omega)
  generalize drawF ns 100 n m = f at hfl
  generalize drawF ns 300 n 1 = o at hfl3
  have B1 : 0 < n ∧ n ≤ 16 := by omega
  have B2 : 0 < R ∧ R ≤ 9 := by omega
  have B3 : 0 < C ∧ C ≤ 4 := by omega
  have B4 : R * C ≤ 9 := by omega
  have hrR := range1_nat R (by omega)
  have hrC := range1_nat C (by omega)
  have hRl : R ≤ 1000000 := by omega
  have hCl : C ≤ 1000000 := by omega
  let wt : Nat → Nat → Nat := fun r c => pickV ns (200 + 7 * (r : Int) + (c : Int)) 5
  have hwt : ∀ r c : Nat, m_l_pick [scr ns, .int (200 + 7 * (r : Int) + (c : Int)), .int 5] = .ok (.int (wt r c : Nat)) := fun r c => pick_ok ns _ 5 (by omega) (by omega)
  have h1 : mulD (.tuple [.none]) (.int (C : Nat)) = some (rowD C fun _ => none) := by
    rw [mulD_t, if_pos ⟨by simp, by omega, by omega, by simp⟩, Int.toNat_natCast, rep_none]
    rfl
  have h2 : mulD (.tuple [rowD C fun _ => none]) (.int (R : Nat)) = some (fD R C noF) := by
    rw [mulD_t, if_pos ⟨by simp, by omega, by omega, by simp⟩, Int.toNat_natCast, rep_row]
    rfl
  have hfi := fills_ok n R C t noF hn0 (by omega) (by omega) (by
    have : n ^ (R * C) ≤ 4 ^ 6 := Nat.le_trans (Nat.pow_le_pow_right hn0 (by omega)) (Nat.pow_le_pow_left hn4 6)
    omega) (by omega)
  unfold b_law_0 b_law_1 b_law_2 b_law_3
  simp [-List.map_map, ht, hs, tgT, hp91, hm, hfl, hrR, hRl]
  rw [comp_map (fun r : Nat => PyData.int (r : Nat)) (fun r : Nat => rowD C (wF wt r)) (List.range R) (by rfl) (fun r hr => by
    simp [-List.map_map, turnC, tgN, hrC, hCl]
    rw [comp_map (fun c : Nat => PyData.int (c : Nat)) (fun c : Nat => oD (wF wt r c)) (List.range C) (by rfl) (fun c hc => by
      simp [turnC, tgN, hwt])]
    simp [rowD])]
  have hW : PyData.tuple ((List.range R).map fun r : Nat => rowD C (wF wt r)) = fD R C (wF wt) := rfl
  unfold b_law_4 b_law_5
  generalize wt = wt at *
  clear hwt
  have hlen : ∀ s ∈ fillsL n t R C noF, s.length = R * C := fun s hs => ((mem_fun hn0 hC s).mp hs).1
  generalize hL : fillsL n t R C noF = L at hfi hlen
  have hLl : L.length ≤ 1000000 := by
    have := fills_len n t R C noF
    have h4 : n ^ (R * C) ≤ 4 ^ 6 := Nat.le_trans (Nat.pow_le_pow_right hn0 (by omega)) (Nat.pow_le_pow_left hn4 6)
    rw [hL] at this
    omega
  simp [-List.map_map, hRl, hW, h1, h2, hfi, hLl]
  rw [comp_map nsD (flS R C) L (by rfl) (fun s hs => by
    have : m_l_as_floor [nsD s, .int (C : Nat)] = .ok (flS R C s) := asfloor_ok R C s (by omega) (by omega) (hlen s hs)
    simp [turnC, this])]
  simp [-List.map_map, hLl]
  have hlc : ∀ s, s.length = R * C → m_l_cost [fD R C f, fD R C (wF wt), flS R C s] = .ok (.int (cst (cAt C f wt) 0 s)) := fun s hs => by
    have := lcost_ok R C f wt (fun r c => some (unF C s r c)) (by omega) (by omega)
    rw [← cst_costF hC hs] at this
    exact this
  rw [comp_map (flS R C) (fun s => PyData.int (cst (cAt C f wt) 0 s)) L (by rfl) (fun s hs => by
    have := hlc s (hlen s hs)
    simp [turnC, this])]
  have hcl : (L.map fun s => PyData.int (cst (cAt C f wt) 0 s)) = (costL n t R C f wt).map .int := by
    unfold costL
    rw [hL, List.map_map]
    rfl
  rw [hcl]
  have okmc : ∀ o, okD (mcD o) = .ok (mcD o) := fun o => by cases o <;> rfl
  have dl : m_l_do [.int 0, tlsD n t, fD R C f, fD R C (wF wt), .none] = .ok (mcD (mcI (costL n t R C f wt))) := do_ok (tlsD n t) (fD R C f) (fD R C (wF wt)) .none (by rfl) (by simp) (by simp) (by rfl) 0 _ (okmc _) (by rw [if_pos rfl]; exact least_ok n R C t f wt B1 B2 B3 B4)
  have he := isEmpty_eq ((costL n t R C f wt).map .int) (ints_cl _)
  rw [List.length_map] at he
  have dc : m_l_do [.int 2, tlsD n t, fD R C f, fD R C (wF wt), fD R C o] = .ok (.int (costF R C f wt o : Nat)) := do_ok (tlsD n t) (fD R C f) (fD R C (wF wt)) (fD R C o) (by rfl) (by simp) (by simp) (by simp) 2 _ (by rfl) (by rw [if_neg (by omega), if_neg (by omega)]; exact cost_of_ok R C f wt o (by omega) (by omega))
  have lo := lcost_ok R C f wt o (by omega) (by omega)
  have hne : ∀ a : Int, neD (.int a) (.int a) = some (.bool false) := fun a => neD_self (by rfl)
  have sw := sl_fD R C (wF wt) hR
  have so := sl_fD R C o hR
  have aw := add_fD R 1 C (wF wt) (wF wt) (by omega)
  have ao := add_fD R 1 C o o (by omega)
  have hr3 : range1D [.int 3] = some ((List.range 3).map fun k => .int (k : Nat)) := range1_nat 3 (by omega)
  have hlu : neD (.list [.str "unlike", .str "unlike", .str "unlike"]) (.list [.str "unlike", .str "unlike", .str "unlike"]) = some (.bool false) := neD_self (by simp)
  have hul : eqD (.str "unlike") (.str "unlike") = some (.bool true) := eqD_self (by simp)
  have db : ∀ k : Nat, k < 3 → m_l_do [.int (k : Nat), tlsD n t, fD R C f, fD (R + 1) C (downF R (wF wt) (wF wt)), fD R C o] = .ok (.str "unlike") := fun k hk => do_err _ _ _ _ (by rfl) (by simp) (by simp) (by simp) k "Unlike" "unlike" (by simp) word_unlike (by
    by_cases e0 : k = 0
    · rw [if_pos e0]; exact least_bad n R C t f _ hR
    · rw [if_neg e0]
      by_cases e1 : k = 1
      · rw [if_pos e1]; exact mended_bad n R C t f _ hR
      · rw [if_neg e1]; exact cost_bad R C f _ _ hR)
  have db2 : m_l_do [.int 2, tlsD n t, fD R C f, fD R C (wF wt), fD (R + 1) C (downF R o o)] = .ok (.str "unlike") := do_err (tlsD n t) (fD R C f) (fD R C (wF wt)) (fD (R + 1) C (downF R o o)) (by rfl) (by simp) (by simp) (by simp) 2 "Unlike" "unlike" (by simp) word_unlike (by
    rw [if_neg (by omega), if_neg (by omega)]; exact cost_bad2 R C f _ _ hR)
  have key : ∀ x12 x13 : D, outR (b_law_11 [some (scr ns), some (tlsD n t), some (.int (R : Nat)), some (.int (C : Nat)), some (fD R C f), some (fD R C (wF wt)), none, none, some (.list (L.map (flS R C))), none, some (.list ((costL n t R C f wt).map .int)), none, some x12, some x13, none, none, none]) = .ok (.bool true) := by
    intro x12 x13
    unfold b_law_11 b_law_12 b_law_13 b_law_14
    simp [-List.map_map, hfl3, dc, lo, hne, sw, aw, hr3]
    rw [comp_map (fun k : Nat => PyData.int (k : Nat)) (fun _ => .str "unlike") (List.range 3) (by rfl) (fun k hk => by
      have := db k (List.mem_range.mp hk)
      simp [turnC, this])]
    simp [List.range_succ, hlu, so, ao, db2, hul]
  unfold b_law_6 b_law_7 b_law_8 b_law_9 b_law_10
  by_cases h0 : costL n t R C f wt = []
  · have dm : m_l_do [.int 1, tlsD n t, fD R C f, fD R C (wF wt), .none] = .ok (.str "no fill") := do_err (tlsD n t) (fD R C f) (fD R C (wF wt)) .none (by rfl) (by simp) (by simp) (by rfl) 1 "NoFill" "no fill" (by simp) word_noFill (by rw [if_neg (by omega), if_pos rfl]; exact mended_no n R C t f wt B1 B2 B3 B4 h0)
    have hk := key .none (.str "no fill")
    have hnf : neD (.str "no fill") (.str "no fill") = some (.bool false) := neD_self (by simp)
    have hnn : neD .none .none = some (.bool false) := by rfl
    rw [h0] at dl he hk ⊢
    have dl : m_l_do [.int 0, tlsD n t, fD R C f, fD R C (wF wt), .none] = .ok .none := dl
    simp only [List.map_nil] at he hk ⊢
    simp [-List.map_map, he, dl, dm, hnf, hnn]
    exact hk
  · obtain ⟨M, hM⟩ := least_some h0
    obtain ⟨hMm, hMl⟩ := least_iff.mp hM
    have hmc := mc_of_least hM
    obtain ⟨m', hm', ⟨x, hx, ex⟩, hmin⟩ := minLD_map (costL n t R C f wt) (fun x => x) h0
    have : m' = M := by
      have q1 := hMl x hx
      have q2 := hmin M hMm
      omega
    subst this
    have hm' : minLD [.list ((costL n t R C f wt).map .int)] = some (.int m') := hm'
    have hcn := count_ints (costL n t R C f wt) m'
    obtain ⟨s, hsf, hsM, hmd⟩ := mended_ok n R C t f wt B1 B2 B3 B4 m' hM
    rw [hL] at hsf
    have dm : m_l_do [.int 1, tlsD n t, fD R C f, fD R C (wF wt), .none] = .ok (flS R C s) := do_ok (tlsD n t) (fD R C f) (fD R C (wF wt)) .none (by rfl) (by simp) (by simp) (by rfl) 1 _ (okD_flS R C s) (by rw [if_neg (by omega), if_pos rfl]; exact hmd)
    have hin := in_flS R C L s hsf
    have hco := hlc s (hlen s hsf)
    rw [hsM] at hco
    rw [hmc] at dl
    have hz : ¬ (costL n t R C f wt).length = 0 := fun z => h0 (List.length_eq_zero_iff.mp z)
    generalize ((costL n t R C f wt).countP fun x => x == m') = cnt at hcn dl
    have dl : m_l_do [.int 0, tlsD n t, fD R C f, fD R C (wF wt), .none] = .ok (.tuple [.int m', .int (cnt : Nat)]) := dl
    have hk := key (.tuple [.int m', .int (cnt : Nat)]) (flS R C s)
    have ht2 := neD_self (d := .tuple [.int m', .int (cnt : Nat)]) (by rfl)
    generalize costL n t R C f wt = CL at *
    simp [-List.map_map, he, hz, hm', hcn, dl, ht2, dm, hin, hco, hne]
    exact hk

open PyProof.Rows hiding St
/-! ### the end -/
def spL (K : PySem.W.Frag) : Sp := fun vs H Q _ => ∃ (a : Addr) (ns : List Int), vs = [.ref a] ∧ SqL K H a (ns.map V.int) ∧ ns.length ≤ 63 ∧ ∀ H2, Q (.bl true) H2
theorem dpAll_ints (K : PySem.W.Frag) (H : Hp) : ∀ ns : List Int, DpAll K H (ns.map V.int) (ns.map .int)
  | [] => .nil
  | n :: ns => .cons (.int n) (dpAll_ints K H ns)
theorem spL_spD {K : PySem.W.Frag} {mg : Str → Option Value} (vs : List V) (H : Hp) (Q : VK) (E : XK) (h : spL K vs H Q E) : spD K mg 1 m_law vs H Q E := by
  obtain ⟨a, ns, rfl, hS, hl, k⟩ := h
  refine ⟨rfl, Mem.triv, H, [scr ns], ⟨.refl H, fun _ h => h.elim⟩, dqAll_of (.cons (.lst hS (dpAll_ints K H ns)) .nil), ?_⟩
  rw [law_true ns]
  intro F2 H2 _ v dv
  cases dv
  exact k _
theorem all_mk {l : PySem.W.OpenLaw} {w : World} {K : PySem.W.Frag} {h : Heap} {mg : Str → Option Value} {fa : Addr} (X : K.In h) (G : h.Ns mainGlobals mg) (hfa : mg "law" = some (.ref fa))
    {C_Counter : Addr} (aC_Counter : PySem.W.nsIn K mainGlobals "Counter" = some (some (.ref C_Counter))) (pg_Counter : PySem.W.plainGet K C_Counter Str.empty = true) (hd_Counter : PySem.W.hasDictIn K C_Counter = true) (po_Counter : PySem.W.plainOver K C_Counter = true) (sa_Counter : PySem.W.findIn K (.ref C_Counter) "__setattr__" = some (some (.builtin "object.__setattr__"))) (mk_Counter : PySem.W.makesIn K C_Counter = true) (kc_Counter : PySem.W.keepIn K (.ref C_Counter) = true)
    (na_Counter_tiles : PySem.W.findIn K (.ref C_Counter) "tiles" = some none)
    (na_Counter_goal : PySem.W.findIn K (.ref C_Counter) "goal" = some none)
    (na_Counter_places : PySem.W.findIn K (.ref C_Counter) "places" = some none)
    (na_Counter_columns : PySem.W.findIn K (.ref C_Counter) "columns" = some none)
    (na_Counter_known : PySem.W.findIn K (.ref C_Counter) "known" = some none)
    {C_Mender : Addr} (aC_Mender : PySem.W.nsIn K mainGlobals "Mender" = some (some (.ref C_Mender))) (pg_Mender : PySem.W.plainGet K C_Mender Str.empty = true) (hd_Mender : PySem.W.hasDictIn K C_Mender = true) (po_Mender : PySem.W.plainOver K C_Mender = true) (sa_Mender : PySem.W.findIn K (.ref C_Mender) "__setattr__" = some (some (.builtin "object.__setattr__"))) (mk_Mender : PySem.W.makesIn K C_Mender = true) (kc_Mender : PySem.W.keepIn K (.ref C_Mender) = true)
    (na_Mender_counter : PySem.W.findIn K (.ref C_Mender) "counter" = some none)
    (na_Mender_laid : PySem.W.findIn K (.ref C_Mender) "laid" = some none)
    (na_Mender_weights : PySem.W.findIn K (.ref C_Mender) "weights" = some none)
    (na_Mender_known : PySem.W.findIn K (.ref C_Mender) "known" = some none)
    {f0 : Addr} {od0 an0 : Option Addr} {sl0 : Array (Option Value)} {oc0 kV0 dc0 pm0 cd0 ct0 : Value}
    (a0 : PySem.W.nsIn K mainGlobals "_law_cell" = some (some (.ref f0))) (l0 : K.lookup f0 = some ⟨oc0, od0, .func (PySem.W.fnOf "_law_cell" "_law_cell" (defArgs s_l_cell) (defBody s_l_cell) (defScope s_l_cell) .none kV0 dc0 pm0 an0 cd0 ct0), sl0⟩) (c0 : PySem.W.codeIn K cd0 "_law_cell" = true) (k0 : PySem.W.keepIn K (.ref f0) = true)
    {f1 : Addr} {od1 an1 : Option Addr} {sl1 : Array (Option Value)} {oc1 kV1 dc1 pm1 cd1 ct1 : Value}
    (a1 : PySem.W.nsIn K mainGlobals "_law_pick" = some (some (.ref f1))) (l1 : K.lookup f1 = some ⟨oc1, od1, .func (PySem.W.fnOf "_law_pick" "_law_pick" (defArgs s_l_pick) (defBody s_l_pick) (defScope s_l_pick) .none kV1 dc1 pm1 an1 cd1 ct1), sl1⟩) (c1 : PySem.W.codeIn K cd1 "_law_pick" = true) (k1 : PySem.W.keepIn K (.ref f1) = true)
    {f2 : Addr} {od2 an2 : Option Addr} {sl2 : Array (Option Value)} {oc2 kV2 dc2 pm2 cd2 ct2 : Value}
    (a2 : PySem.W.nsIn K mainGlobals "_law_tiles" = some (some (.ref f2))) (l2 : K.lookup f2 = some ⟨oc2, od2, .func (PySem.W.fnOf "_law_tiles" "_law_tiles" (defArgs s_l_tiles) (defBody s_l_tiles) (defScope s_l_tiles) .none kV2 dc2 pm2 an2 cd2 ct2), sl2⟩) (c2 : PySem.W.codeIn K cd2 "_law_tiles" = true) (k2 : PySem.W.keepIn K (.ref f2) = true)
    {f3 : Addr} {od3 an3 : Option Addr} {sl3 : Array (Option Value)} {oc3 kV3 dc3 pm3 cd3 ct3 : Value}
    (a3 : PySem.W.nsIn K mainGlobals "_law_sides" = some (some (.ref f3))) (l3 : K.lookup f3 = some ⟨oc3, od3, .func (PySem.W.fnOf "_law_sides" "_law_sides" (defArgs s_l_sides) (defBody s_l_sides) (defScope s_l_sides) .none kV3 dc3 pm3 an3 cd3 ct3), sl3⟩) (c3 : PySem.W.codeIn K cd3 "_law_sides" = true) (k3 : PySem.W.keepIn K (.ref f3) = true)
    {f4 : Addr} {od4 an4 : Option Addr} {sl4 : Array (Option Value)} {oc4 kV4 dc4 pm4 cd4 ct4 : Value}
    (a4 : PySem.W.nsIn K mainGlobals "_law_floor" = some (some (.ref f4))) (l4 : K.lookup f4 = some ⟨oc4, od4, .func (PySem.W.fnOf "_law_floor" "_law_floor" (defArgs s_l_floor) (defBody s_l_floor) (defScope s_l_floor) .none kV4 dc4 pm4 an4 cd4 ct4), sl4⟩) (c4 : PySem.W.codeIn K cd4 "_law_floor" = true) (k4 : PySem.W.keepIn K (.ref f4) = true)
    {f5 : Addr} {od5 an5 : Option Addr} {sl5 : Array (Option Value)} {oc5 kV5 dc5 pm5 cd5 ct5 : Value}
    (a5 : PySem.W.nsIn K mainGlobals "_law_word" = some (some (.ref f5))) (l5 : K.lookup f5 = some ⟨oc5, od5, .func (PySem.W.fnOf "_law_word" "_law_word" (defArgs s_l_word) (defBody s_l_word) (defScope s_l_word) .none kV5 dc5 pm5 an5 cd5 ct5), sl5⟩) (c5 : PySem.W.codeIn K cd5 "_law_word" = true) (k5 : PySem.W.keepIn K (.ref f5) = true)
    {f6 : Addr} {od6 an6 : Option Addr} {sl6 : Array (Option Value)} {oc6 kV6 dc6 pm6 cd6 ct6 : Value}
    (a6 : PySem.W.findIn K (.ref C_Counter) "fitting" = some (some (.ref f6))) (i6 : PySem.W.isFn K (.ref f6) = true) (l6 : K.lookup f6 = some ⟨oc6, od6, .func (PySem.W.fnOf "fitting" "Counter.fitting" (defArgs s_Counter_fitting) (defBody s_Counter_fitting) (defScope s_Counter_fitting) .none kV6 dc6 pm6 an6 cd6 ct6), sl6⟩) (c6 : PySem.W.codeIn K cd6 "Counter.fitting" = true) (k6 : PySem.W.keepIn K (.ref f6) = true)
    {f7 : Addr} {od7 an7 : Option Addr} {sl7 : Array (Option Value)} {oc7 kV7 dc7 pm7 cd7 ct7 : Value}
    (a7 : PySem.W.findIn K (.ref C_Counter) "moved_on" = some (some (.ref f7))) (i7 : PySem.W.isFn K (.ref f7) = true) (l7 : K.lookup f7 = some ⟨oc7, od7, .func (PySem.W.fnOf "moved_on" "Counter.moved_on" (defArgs s_Counter_moved_on) (defBody s_Counter_moved_on) (defScope s_Counter_moved_on) .none kV7 dc7 pm7 an7 cd7 ct7), sl7⟩) (c7 : PySem.W.codeIn K cd7 "Counter.moved_on" = true) (k7 : PySem.W.keepIn K (.ref f7) = true)
    {f8 : Addr} {od8 an8 : Option Addr} {sl8 : Array (Option Value)} {oc8 kV8 dc8 pm8 cd8 ct8 : Value}
    (a8 : PySem.W.nsIn K mainGlobals "places_of" = some (some (.ref f8))) (l8 : K.lookup f8 = some ⟨oc8, od8, .func (PySem.W.fnOf "places_of" "places_of" (defArgs s_places_of) (defBody s_places_of) (defScope s_places_of) .none kV8 dc8 pm8 an8 cd8 ct8), sl8⟩) (c8 : PySem.W.codeIn K cd8 "places_of" = true) (k8 : PySem.W.keepIn K (.ref f8) = true)
    {f9 : Addr} {od9 an9 : Option Addr} {sl9 : Array (Option Value)} {oc9 kV9 dc9 pm9 cd9 ct9 : Value}
    (a9 : PySem.W.nsIn K mainGlobals "look_place" = some (some (.ref f9))) (l9 : K.lookup f9 = some ⟨oc9, od9, .func (PySem.W.fnOf "look_place" "look_place" (defArgs s_look_place) (defBody s_look_place) (defScope s_look_place) .none kV9 dc9 pm9 an9 cd9 ct9), sl9⟩) (c9 : PySem.W.codeIn K cd9 "look_place" = true) (k9 : PySem.W.keepIn K (.ref f9) = true)
    {f10 : Addr} {od10 an10 : Option Addr} {sl10 : Array (Option Value)} {oc10 kV10 dc10 pm10 cd10 ct10 : Value}
    (a10 : PySem.W.nsIn K mainGlobals "tile_at" = some (some (.ref f10))) (l10 : K.lookup f10 = some ⟨oc10, od10, .func (PySem.W.fnOf "tile_at" "tile_at" (defArgs s_tile_at) (defBody s_tile_at) (defScope s_tile_at) .none kV10 dc10 pm10 an10 cd10 ct10), sl10⟩) (c10 : PySem.W.codeIn K cd10 "tile_at" = true) (k10 : PySem.W.keepIn K (.ref f10) = true)
    {f11 : Addr} {od11 an11 : Option Addr} {sl11 : Array (Option Value)} {oc11 kV11 dc11 pm11 cd11 ct11 : Value}
    (a11 : PySem.W.findIn K (.ref C_Mender) "cost_at" = some (some (.ref f11))) (i11 : PySem.W.isFn K (.ref f11) = true) (l11 : K.lookup f11 = some ⟨oc11, od11, .func (PySem.W.fnOf "cost_at" "Mender.cost_at" (defArgs s_Mender_cost_at) (defBody s_Mender_cost_at) (defScope s_Mender_cost_at) .none kV11 dc11 pm11 an11 cd11 ct11), sl11⟩) (c11 : PySem.W.codeIn K cd11 "Mender.cost_at" = true) (k11 : PySem.W.keepIn K (.ref f11) = true)
    {f12 : Addr} {od12 an12 : Option Addr} {sl12 : Array (Option Value)} {oc12 kV12 dc12 pm12 cd12 ct12 : Value}
    (a12 : PySem.W.findIn K (.ref C_Mender) "reckoned" = some (some (.ref f12))) (i12 : PySem.W.isFn K (.ref f12) = true) (l12 : K.lookup f12 = some ⟨oc12, od12, .func (PySem.W.fnOf "reckoned" "Mender.reckoned" (defArgs s_Mender_reckoned) (defBody s_Mender_reckoned) (defScope s_Mender_reckoned) .none kV12 dc12 pm12 an12 cd12 ct12), sl12⟩) (c12 : PySem.W.codeIn K cd12 "Mender.reckoned" = true) (k12 : PySem.W.keepIn K (.ref f12) = true)
    {f13 : Addr} {od13 an13 : Option Addr} {sl13 : Array (Option Value)} {oc13 kV13 dc13 pm13 cd13 ct13 : Value}
    (a13 : PySem.W.findIn K (.ref C_Mender) "best" = some (some (.ref f13))) (i13 : PySem.W.isFn K (.ref f13) = true) (l13 : K.lookup f13 = some ⟨oc13, od13, .func (PySem.W.fnOf "best" "Mender.best" (defArgs s_Mender_best) (defBody s_Mender_best) (defScope s_Mender_best) .none kV13 dc13 pm13 an13 cd13 ct13), sl13⟩) (c13 : PySem.W.codeIn K cd13 "Mender.best" = true) (k13 : PySem.W.keepIn K (.ref f13) = true)
    {f14 : Addr} {od14 an14 : Option Addr} {sl14 : Array (Option Value)} {oc14 kV14 dc14 pm14 cd14 ct14 : Value}
    (a14 : PySem.W.nsIn K mainGlobals "size_of" = some (some (.ref f14))) (l14 : K.lookup f14 = some ⟨oc14, od14, .func (PySem.W.fnOf "size_of" "size_of" (defArgs s_size_of) (defBody s_size_of) (defScope s_size_of) .none kV14 dc14 pm14 an14 cd14 ct14), sl14⟩) (c14 : PySem.W.codeIn K cd14 "size_of" = true) (k14 : PySem.W.keepIn K (.ref f14) = true)
    {f15 : Addr} {od15 an15 : Option Addr} {sl15 : Array (Option Value)} {oc15 kV15 dc15 pm15 cd15 ct15 : Value}
    (a15 : PySem.W.findIn K (.ref C_Counter) "__init__" = some (some (.ref f15))) (i15 : PySem.W.isFn K (.ref f15) = true) (l15 : K.lookup f15 = some ⟨oc15, od15, .func (PySem.W.fnOf "__init__" "Counter.__init__" (defArgs s_Counter___init__) (defBody s_Counter___init__) (defScope s_Counter___init__) .none kV15 dc15 pm15 an15 cd15 ct15), sl15⟩) (c15 : PySem.W.codeIn K cd15 "Counter.__init__" = true) (k15 : PySem.W.keepIn K (.ref f15) = true)
    {f16 : Addr} {od16 an16 : Option Addr} {sl16 : Array (Option Value)} {oc16 kV16 dc16 pm16 cd16 ct16 : Value}
    (a16 : PySem.W.nsIn K mainGlobals "empty" = some (some (.ref f16))) (l16 : K.lookup f16 = some ⟨oc16, od16, .func (PySem.W.fnOf "empty" "empty" (defArgs s_empty) (defBody s_empty) (defScope s_empty) .none kV16 dc16 pm16 an16 cd16 ct16), sl16⟩) (c16 : PySem.W.codeIn K cd16 "empty" = true) (k16 : PySem.W.keepIn K (.ref f16) = true)
    {f17 : Addr} {od17 an17 : Option Addr} {sl17 : Array (Option Value)} {oc17 kV17 dc17 pm17 cd17 ct17 : Value}
    (a17 : PySem.W.findIn K (.ref C_Mender) "__init__" = some (some (.ref f17))) (i17 : PySem.W.isFn K (.ref f17) = true) (l17 : K.lookup f17 = some ⟨oc17, od17, .func (PySem.W.fnOf "__init__" "Mender.__init__" (defArgs s_Mender___init__) (defBody s_Mender___init__) (defScope s_Mender___init__) .none kV17 dc17 pm17 an17 cd17 ct17), sl17⟩) (c17 : PySem.W.codeIn K cd17 "Mender.__init__" = true) (k17 : PySem.W.keepIn K (.ref f17) = true)
    {f18 : Addr} {od18 an18 : Option Addr} {sl18 : Array (Option Value)} {oc18 kV18 dc18 pm18 cd18 ct18 : Value}
    (a18 : PySem.W.nsIn K mainGlobals "look_weights" = some (some (.ref f18))) (l18 : K.lookup f18 = some ⟨oc18, od18, .func (PySem.W.fnOf "look_weights" "look_weights" (defArgs s_look_weights) (defBody s_look_weights) (defScope s_look_weights) .none kV18 dc18 pm18 an18 cd18 ct18), sl18⟩) (c18 : PySem.W.codeIn K cd18 "look_weights" = true) (k18 : PySem.W.keepIn K (.ref f18) = true)
    {f19 : Addr} {od19 an19 : Option Addr} {sl19 : Array (Option Value)} {oc19 kV19 dc19 pm19 cd19 ct19 : Value}
    (a19 : PySem.W.nsIn K mainGlobals "least_cost" = some (some (.ref f19))) (l19 : K.lookup f19 = some ⟨oc19, od19, .func (PySem.W.fnOf "least_cost" "least_cost" (defArgs s_least_cost) (defBody s_least_cost) (defScope s_least_cost) .none kV19 dc19 pm19 an19 cd19 ct19), sl19⟩) (c19 : PySem.W.codeIn K cd19 "least_cost" = true) (k19 : PySem.W.keepIn K (.ref f19) = true)
    {f20 : Addr} {od20 an20 : Option Addr} {sl20 : Array (Option Value)} {oc20 kV20 dc20 pm20 cd20 ct20 : Value}
    (a20 : PySem.W.findIn K (.ref C_Mender) "way" = some (some (.ref f20))) (i20 : PySem.W.isFn K (.ref f20) = true) (l20 : K.lookup f20 = some ⟨oc20, od20, .func (PySem.W.fnOf "way" "Mender.way" (defArgs s_Mender_way) (defBody s_Mender_way) (defScope s_Mender_way) .none kV20 dc20 pm20 an20 cd20 ct20), sl20⟩) (c20 : PySem.W.codeIn K cd20 "Mender.way" = true) (k20 : PySem.W.keepIn K (.ref f20) = true)
    {f21 : Addr} {od21 an21 : Option Addr} {sl21 : Array (Option Value)} {oc21 kV21 dc21 pm21 cd21 ct21 : Value}
    (a21 : PySem.W.nsIn K mainGlobals "as_floor" = some (some (.ref f21))) (l21 : K.lookup f21 = some ⟨oc21, od21, .func (PySem.W.fnOf "as_floor" "as_floor" (defArgs s_as_floor) (defBody s_as_floor) (defScope s_as_floor) .none kV21 dc21 pm21 an21 cd21 ct21), sl21⟩) (c21 : PySem.W.codeIn K cd21 "as_floor" = true) (k21 : PySem.W.keepIn K (.ref f21) = true)
    {f22 : Addr} {od22 an22 : Option Addr} {sl22 : Array (Option Value)} {oc22 kV22 dc22 pm22 cd22 ct22 : Value}
    (a22 : PySem.W.nsIn K mainGlobals "mended" = some (some (.ref f22))) (l22 : K.lookup f22 = some ⟨oc22, od22, .func (PySem.W.fnOf "mended" "mended" (defArgs s_mended) (defBody s_mended) (defScope s_mended) .none kV22 dc22 pm22 an22 cd22 ct22), sl22⟩) (c22 : PySem.W.codeIn K cd22 "mended" = true) (k22 : PySem.W.keepIn K (.ref f22) = true)
    {f23 : Addr} {od23 an23 : Option Addr} {sl23 : Array (Option Value)} {oc23 kV23 dc23 pm23 cd23 ct23 : Value}
    (a23 : PySem.W.nsIn K mainGlobals "cost_of" = some (some (.ref f23))) (l23 : K.lookup f23 = some ⟨oc23, od23, .func (PySem.W.fnOf "cost_of" "cost_of" (defArgs s_cost_of) (defBody s_cost_of) (defScope s_cost_of) .none kV23 dc23 pm23 an23 cd23 ct23), sl23⟩) (c23 : PySem.W.codeIn K cd23 "cost_of" = true) (k23 : PySem.W.keepIn K (.ref f23) = true)
    {f24 : Addr} {od24 an24 : Option Addr} {sl24 : Array (Option Value)} {oc24 kV24 dc24 pm24 cd24 ct24 : Value}
    (a24 : PySem.W.nsIn K mainGlobals "_law_do" = some (some (.ref f24))) (l24 : K.lookup f24 = some ⟨oc24, od24, .func (PySem.W.fnOf "_law_do" "_law_do" (defArgs s_l_do) (defBody s_l_do) (defScope s_l_do) .none kV24 dc24 pm24 an24 cd24 ct24), sl24⟩) (c24 : PySem.W.codeIn K cd24 "_law_do" = true) (k24 : PySem.W.keepIn K (.ref f24) = true)
    {f25 : Addr} {od25 an25 : Option Addr} {sl25 : Array (Option Value)} {oc25 kV25 dc25 pm25 cd25 ct25 : Value}
    (a25 : PySem.W.nsIn K mainGlobals "_law_as_floor" = some (some (.ref f25))) (l25 : K.lookup f25 = some ⟨oc25, od25, .func (PySem.W.fnOf "_law_as_floor" "_law_as_floor" (defArgs s_l_as_floor) (defBody s_l_as_floor) (defScope s_l_as_floor) .none kV25 dc25 pm25 an25 cd25 ct25), sl25⟩) (c25 : PySem.W.codeIn K cd25 "_law_as_floor" = true) (k25 : PySem.W.keepIn K (.ref f25) = true)
    {f26 : Addr} {od26 an26 : Option Addr} {sl26 : Array (Option Value)} {oc26 kV26 dc26 pm26 cd26 ct26 : Value}
    (a26 : PySem.W.nsIn K mainGlobals "_law_cost" = some (some (.ref f26))) (l26 : K.lookup f26 = some ⟨oc26, od26, .func (PySem.W.fnOf "_law_cost" "_law_cost" (defArgs s_l_cost) (defBody s_l_cost) (defScope s_l_cost) .none kV26 dc26 pm26 an26 cd26 ct26), sl26⟩) (c26 : PySem.W.codeIn K cd26 "_law_cost" = true) (k26 : PySem.W.keepIn K (.ref f26) = true)
    {f27 : Addr} {od27 an27 : Option Addr} {sl27 : Array (Option Value)} {oc27 kV27 dc27 pm27 cd27 ct27 : Value}
    (a27 : PySem.W.nsIn K mainGlobals "_law_fills" = some (some (.ref f27))) (l27 : K.lookup f27 = some ⟨oc27, od27, .func (PySem.W.fnOf "_law_fills" "_law_fills" (defArgs s_l_fills) (defBody s_l_fills) (defScope s_l_fills) .none kV27 dc27 pm27 an27 cd27 ct27), sl27⟩) (c27 : PySem.W.codeIn K cd27 "_law_fills" = true) (k27 : PySem.W.keepIn K (.ref f27) = true)
    {f28 : Addr} {od28 an28 : Option Addr} {sl28 : Array (Option Value)} {oc28 kV28 dc28 pm28 cd28 ct28 : Value}
    (a28 : PySem.W.nsIn K mainGlobals "law" = some (some (.ref f28))) (l28 : K.lookup f28 = some ⟨oc28, od28, .func (PySem.W.fnOf "law" "law" (defArgs s_law) (defBody s_law) (defScope s_law) .none kV28 dc28 pm28 an28 cd28 ct28), sl28⟩) (c28 : PySem.W.codeIn K cd28 "law" = true) (k28 : PySem.W.keepIn K (.ref f28) = true)
    (z_ValueError : PySem.W.nsIn K mainGlobals "ValueError" = some none)
    (z_enumerate : PySem.W.nsIn K mainGlobals "enumerate" = some none)
    (z_isinstance : PySem.W.nsIn K mainGlobals "isinstance" = some none)
    (z_len : PySem.W.nsIn K mainGlobals "len" = some none)
    (z_list : PySem.W.nsIn K mainGlobals "list" = some none)
    (z_min : PySem.W.nsIn K mainGlobals "min" = some none)
    (z_range : PySem.W.nsIn K mainGlobals "range" = some none)
    (z_sum : PySem.W.nsIn K mainGlobals "sum" = some none)
    (z_tuple : PySem.W.nsIn K mainGlobals "tuple" = some none)
    (z_zip : PySem.W.nsIn K mainGlobals "zip" = some none)
    {C_FloorError : Addr}
    (xg_FloorError : PySem.W.nsIn K mainGlobals "FloorError" = some (some (.ref C_FloorError)))
    (xb_FloorError : PySem.W.subIn K (.ref C_FloorError) (.type "BaseException") = some true)
    (xt_FloorError : PySem.W.typeIn K (.ref C_FloorError) = some (.type "type"))
    (xi_FloorError : PySem.W.isClsIn K C_FloorError = true)
    (xs_FloorError : PySem.W.subIn K (.ref C_FloorError) (.ref C_FloorError) = some true)
    (xd_FloorError : PySem.W.hasDictIn K C_FloorError = true)
    {C_NoFill : Addr}
    (xg_NoFill : PySem.W.nsIn K mainGlobals "NoFill" = some (some (.ref C_NoFill)))
    (xq_NoFill : PySem.W.excIn K C_NoFill [.type "ValueError", .type "Exception", .type "BaseException", .type "object"] "ValueError.__new__" = true)
    (xk_NoFill : PySem.W.keepIn K (.ref C_NoFill) = true)
    (xb_NoFill : PySem.W.subIn K (.ref C_NoFill) (.type "BaseException") = some true)
    (xt_NoFill : PySem.W.typeIn K (.ref C_NoFill) = some (.type "type"))
    (xi_NoFill : PySem.W.isClsIn K C_NoFill = true)
    (xs_NoFill : PySem.W.subIn K (.ref C_NoFill) (.ref C_NoFill) = some true)
    (xd_NoFill : PySem.W.hasDictIn K C_NoFill = true)
    (eg_NoFill : PySem.W.findIn K (.ref C_NoFill) "__getattribute__" = some (some (.builtin "BaseException.__getattribute__")))
    (ek_NoFill : PySem.W.findIn K (.ref C_NoFill) "__getattr__" = some none)
    (ea_NoFill : PySem.W.findIn K (.ref C_NoFill) "__class__" = some (some (.builtin "object.__class__")))
    (em_NoFill : PySem.W.mroIn K C_NoFill (.type "object") = some true)
    {C_NoPlace : Addr}
    (xg_NoPlace : PySem.W.nsIn K mainGlobals "NoPlace" = some (some (.ref C_NoPlace)))
    (xq_NoPlace : PySem.W.excIn K C_NoPlace [.type "ValueError", .type "Exception", .type "BaseException", .type "object"] "ValueError.__new__" = true)
    (xk_NoPlace : PySem.W.keepIn K (.ref C_NoPlace) = true)
    (xb_NoPlace : PySem.W.subIn K (.ref C_NoPlace) (.type "BaseException") = some true)
    (xt_NoPlace : PySem.W.typeIn K (.ref C_NoPlace) = some (.type "type"))
    (xi_NoPlace : PySem.W.isClsIn K C_NoPlace = true)
    (xs_NoPlace : PySem.W.subIn K (.ref C_NoPlace) (.ref C_NoPlace) = some true)
    (xd_NoPlace : PySem.W.hasDictIn K C_NoPlace = true)
    (eg_NoPlace : PySem.W.findIn K (.ref C_NoPlace) "__getattribute__" = some (some (.builtin "BaseException.__getattribute__")))
    (ek_NoPlace : PySem.W.findIn K (.ref C_NoPlace) "__getattr__" = some none)
    (ea_NoPlace : PySem.W.findIn K (.ref C_NoPlace) "__class__" = some (some (.builtin "object.__class__")))
    (em_NoPlace : PySem.W.mroIn K C_NoPlace (.type "object") = some true)
    {C_NoText : Addr}
    (xg_NoText : PySem.W.nsIn K mainGlobals "NoText" = some (some (.ref C_NoText)))
    (xt_NoText : PySem.W.typeIn K (.ref C_NoText) = some (.type "type"))
    (xi_NoText : PySem.W.isClsIn K C_NoText = true)
    (xs_NoText : PySem.W.subIn K (.ref C_NoText) (.ref C_NoText) = some true)
    {C_NoTile : Addr}
    (xg_NoTile : PySem.W.nsIn K mainGlobals "NoTile" = some (some (.ref C_NoTile)))
    (xt_NoTile : PySem.W.typeIn K (.ref C_NoTile) = some (.type "type"))
    (xi_NoTile : PySem.W.isClsIn K C_NoTile = true)
    (xs_NoTile : PySem.W.subIn K (.ref C_NoTile) (.ref C_NoTile) = some true)
    {C_Nothing : Addr}
    (xg_Nothing : PySem.W.nsIn K mainGlobals "Nothing" = some (some (.ref C_Nothing)))
    (xt_Nothing : PySem.W.typeIn K (.ref C_Nothing) = some (.type "type"))
    (xi_Nothing : PySem.W.isClsIn K C_Nothing = true)
    (xs_Nothing : PySem.W.subIn K (.ref C_Nothing) (.ref C_Nothing) = some true)
    {C_Unlike : Addr}
    (xg_Unlike : PySem.W.nsIn K mainGlobals "Unlike" = some (some (.ref C_Unlike)))
    (xq_Unlike : PySem.W.excIn K C_Unlike [.type "ValueError", .type "Exception", .type "BaseException", .type "object"] "ValueError.__new__" = true)
    (xk_Unlike : PySem.W.keepIn K (.ref C_Unlike) = true)
    (xb_Unlike : PySem.W.subIn K (.ref C_Unlike) (.type "BaseException") = some true)
    (xt_Unlike : PySem.W.typeIn K (.ref C_Unlike) = some (.type "type"))
    (xi_Unlike : PySem.W.isClsIn K C_Unlike = true)
    (xs_Unlike : PySem.W.subIn K (.ref C_Unlike) (.ref C_Unlike) = some true)
    (xd_Unlike : PySem.W.hasDictIn K C_Unlike = true)
    (eg_Unlike : PySem.W.findIn K (.ref C_Unlike) "__getattribute__" = some (some (.builtin "BaseException.__getattribute__")))
    (ek_Unlike : PySem.W.findIn K (.ref C_Unlike) "__getattr__" = some none)
    (ea_Unlike : PySem.W.findIn K (.ref C_Unlike) "__class__" = some (some (.builtin "object.__class__")))
    (em_Unlike : PySem.W.mroIn K C_Unlike (.type "object") = some true)
    (eN : PySem.W.specialIn K (.builtin "object.__class__") "__get__" = some (some (.builtin "getset_descriptor.__get__")))
    (eT : PySem.W.takesIn K (.builtin "object.__class__") = some true)
    (ps_NoFill_FloorError : PySem.W.subIn K (.ref C_NoFill) (.ref C_FloorError) = some true)
    (ps_NoFill_NoFill : PySem.W.subIn K (.ref C_NoFill) (.ref C_NoFill) = some true)
    (ps_NoFill_NoPlace : PySem.W.subIn K (.ref C_NoFill) (.ref C_NoPlace) = some false)
    (ps_NoFill_NoText : PySem.W.subIn K (.ref C_NoFill) (.ref C_NoText) = some false)
    (ps_NoFill_NoTile : PySem.W.subIn K (.ref C_NoFill) (.ref C_NoTile) = some false)
    (ps_NoFill_Nothing : PySem.W.subIn K (.ref C_NoFill) (.ref C_Nothing) = some false)
    (ps_NoFill_Unlike : PySem.W.subIn K (.ref C_NoFill) (.ref C_Unlike) = some false)
    (ps_NoPlace_FloorError : PySem.W.subIn K (.ref C_NoPlace) (.ref C_FloorError) = some true)
    (ps_NoPlace_NoFill : PySem.W.subIn K (.ref C_NoPlace) (.ref C_NoFill) = some false)
    (ps_NoPlace_NoPlace : PySem.W.subIn K (.ref C_NoPlace) (.ref C_NoPlace) = some true)
    (ps_NoPlace_NoText : PySem.W.subIn K (.ref C_NoPlace) (.ref C_NoText) = some false)
    (ps_NoPlace_NoTile : PySem.W.subIn K (.ref C_NoPlace) (.ref C_NoTile) = some false)
    (ps_NoPlace_Nothing : PySem.W.subIn K (.ref C_NoPlace) (.ref C_Nothing) = some false)
    (ps_NoPlace_Unlike : PySem.W.subIn K (.ref C_NoPlace) (.ref C_Unlike) = some false)
    (ps_Unlike_FloorError : PySem.W.subIn K (.ref C_Unlike) (.ref C_FloorError) = some true)
    (ps_Unlike_NoFill : PySem.W.subIn K (.ref C_Unlike) (.ref C_NoFill) = some false)
    (ps_Unlike_NoPlace : PySem.W.subIn K (.ref C_Unlike) (.ref C_NoPlace) = some false)
    (ps_Unlike_NoText : PySem.W.subIn K (.ref C_Unlike) (.ref C_NoText) = some false)
    (ps_Unlike_NoTile : PySem.W.subIn K (.ref C_Unlike) (.ref C_NoTile) = some false)
    (ps_Unlike_Nothing : PySem.W.subIn K (.ref C_Unlike) (.ref C_Nothing) = some false)
    (ps_Unlike_Unlike : PySem.W.subIn K (.ref C_Unlike) (.ref C_Unlike) = some true)
    (pv_NoFill : PySem.W.subIn K (.ref C_NoFill) (.type "ValueError") = some true)
    (pv_NoPlace : PySem.W.subIn K (.ref C_NoPlace) (.type "ValueError") = some true)
    (pv_Unlike : PySem.W.subIn K (.ref C_Unlike) (.type "ValueError") = some true)
    : ∃ fd : FuncData, (∀ (s : Shared) (v : Value), BindsTo s fd ⟨[v], []⟩ [("_law_script", v)]) ∧ ∀ base : Heap, K.In base → base.Ns mainGlobals mg → FnOk l.prog w K mg base (L2.CX l.prog w) 28 fa fd ["_law_script"] (spL K) := by
  have e := hfa.symm.trans (PySem.W.mg_of X G a28)
  cases e
  have F0 := fun_mk (st := s_l_cell) l0 c0 k0
  have B0 := F0.binds (ps := ["_law_script", "_law_k"]) fun _ _ _ _ _ _ us hl => match us, hl with | [_, _], _ => rfl
  have F1 := fun_mk (st := s_l_pick) l1 c1 k1
  have B1 := F1.binds (ps := ["_law_script", "_law_k", "_law_many"]) fun _ _ _ _ _ _ us hl => match us, hl with | [_, _, _], _ => rfl
  have F2 := fun_mk (st := s_l_tiles) l2 c2 k2
  have B2 := F2.binds (ps := ["_law_script", "_law_at", "_law_most"]) fun _ _ _ _ _ _ us hl => match us, hl with | [_, _, _], _ => rfl
  have F3 := fun_mk (st := s_l_sides) l3 c3 k3
  have B3 := F3.binds (ps := ["_law_script", "_law_at"]) fun _ _ _ _ _ _ us hl => match us, hl with | [_, _], _ => rfl
  have F4 := fun_mk (st := s_l_floor) l4 c4 k4
  have B4 := F4.binds (ps := ["_law_script", "_law_at", "_law_tiles_here", "_law_rows", "_law_columns", "_law_many"]) fun _ _ _ _ _ _ us hl => match us, hl with | [_, _, _, _, _, _], _ => rfl
  have F5 := fun_mk (st := s_l_word) l5 c5 k5
  have B5 := F5.binds (ps := ["_law_kept"]) fun _ _ _ _ _ _ us hl => match us, hl with | [_], _ => rfl
  have F6 := fun_mk (st := s_Counter_fitting) l6 c6 k6
  have B6 := F6.binds (ps := ["self", "at", "last"]) fun _ _ _ _ _ _ us hl => match us, hl with | [_, _, _], _ => rfl
  have F7 := fun_mk (st := s_Counter_moved_on) l7 c7 k7
  have B7 := F7.binds (ps := ["self", "last", "number"]) fun _ _ _ _ _ _ us hl => match us, hl with | [_, _, _], _ => rfl
  have F8 := fun_mk (st := s_places_of) l8 c8 k8
  have B8 := F8.binds (ps := ["floor"]) fun _ _ _ _ _ _ us hl => match us, hl with | [_], _ => rfl
  have F9 := fun_mk (st := s_look_place) l9 c9 k9
  have B9 := F9.binds (ps := ["floor", "place"]) fun _ _ _ _ _ _ us hl => match us, hl with | [_, _], _ => rfl
  have F10 := fun_mk (st := s_tile_at) l10 c10 k10
  have B10 := F10.binds (ps := ["floor", "place"]) fun _ _ _ _ _ _ us hl => match us, hl with | [_, _], _ => rfl
  have F11 := fun_mk (st := s_Mender_cost_at) l11 c11 k11
  have B11 := F11.binds (ps := ["self", "at", "number"]) fun _ _ _ _ _ _ us hl => match us, hl with | [_, _, _], _ => rfl
  have F12 := fun_mk (st := s_Mender_reckoned) l12 c12 k12
  have B12 := F12.binds (ps := ["self", "at", "last"]) fun _ _ _ _ _ _ us hl => match us, hl with | [_, _, _], _ => rfl
  have F13 := fun_mk (st := s_Mender_best) l13 c13 k13
  have B13 := F13.binds (ps := ["self", "at", "last"]) fun _ _ _ _ _ _ us hl => match us, hl with | [_, _, _], _ => rfl
  have F14 := fun_mk (st := s_size_of) l14 c14 k14
  have B14 := F14.binds (ps := ["floor"]) fun _ _ _ _ _ _ us hl => match us, hl with | [_], _ => rfl
  have F15 := fun_mk (st := s_Counter___init__) l15 c15 k15
  have B15 := F15.binds (ps := ["self", "tiles", "floor"]) fun _ _ _ _ _ _ us hl => match us, hl with | [_, _, _], _ => rfl
  have F16 := fun_mk (st := s_empty) l16 c16 k16
  have B16 := F16.binds (ps := ["rows", "columns"]) fun _ _ _ _ _ _ us hl => match us, hl with | [_, _], _ => rfl
  have F17 := fun_mk (st := s_Mender___init__) l17 c17 k17
  have B17 := F17.binds (ps := ["self", "tiles", "floor", "weights"]) fun _ _ _ _ _ _ us hl => match us, hl with | [_, _, _, _], _ => rfl
  have F18 := fun_mk (st := s_look_weights) l18 c18 k18
  have B18 := F18.binds (ps := ["floor", "weights"]) fun _ _ _ _ _ _ us hl => match us, hl with | [_, _], _ => rfl
  have F19 := fun_mk (st := s_least_cost) l19 c19 k19
  have B19 := F19.binds (ps := ["tiles", "floor", "weights"]) fun _ _ _ _ _ _ us hl => match us, hl with | [_, _, _], _ => rfl
  have F20 := fun_mk (st := s_Mender_way) l20 c20 k20
  have B20 := F20.binds (ps := ["self"]) fun _ _ _ _ _ _ us hl => match us, hl with | [_], _ => rfl
  have F21 := fun_mk (st := s_as_floor) l21 c21 k21
  have B21 := F21.binds (ps := ["numbers", "columns"]) fun _ _ _ _ _ _ us hl => match us, hl with | [_, _], _ => rfl
  have F22 := fun_mk (st := s_mended) l22 c22 k22
  have B22 := F22.binds (ps := ["tiles", "floor", "weights"]) fun _ _ _ _ _ _ us hl => match us, hl with | [_, _, _], _ => rfl
  have F23 := fun_mk (st := s_cost_of) l23 c23 k23
  have B23 := F23.binds (ps := ["floor", "weights", "whole"]) fun _ _ _ _ _ _ us hl => match us, hl with | [_, _, _], _ => rfl
  have F24 := fun_mk (st := s_l_do) l24 c24 k24
  have B24 := F24.binds (ps := ["_law_what", "_law_tiles_here", "_law_floor_here", "_law_weights", "_law_whole"]) fun _ _ _ _ _ _ us hl => match us, hl with | [_, _, _, _, _], _ => rfl
  have F25 := fun_mk (st := s_l_as_floor) l25 c25 k25
  have B25 := F25.binds (ps := ["_law_numbers", "_law_columns"]) fun _ _ _ _ _ _ us hl => match us, hl with | [_, _], _ => rfl
  have F26 := fun_mk (st := s_l_cost) l26 c26 k26
  have B26 := F26.binds (ps := ["_law_floor_here", "_law_weights", "_law_whole"]) fun _ _ _ _ _ _ us hl => match us, hl with | [_, _, _], _ => rfl
  have F27 := fun_mk (st := s_l_fills) l27 c27 k27
  have B27 := F27.binds (ps := ["_law_tiles_here", "_law_floor_here"]) fun _ _ _ _ _ _ us hl => match us, hl with | [_, _], _ => rfl
  have F28 := fun_mk (st := s_law) l28 c28 k28
  have B28 := F28.binds (ps := ["_law_script"]) fun _ _ _ _ _ _ us hl => match us, hl with | [_], _ => rfl
  let T : Txt l.prog w K mg := {
    k_Counter := ⟨C_Counter, aC_Counter, PySem.W.mg_of X G aC_Counter, ⟨pg_Counter, hd_Counter, po_Counter, sa_Counter⟩, mk_Counter, kc_Counter, fun f hf => by
      simp only [List.mem_cons, List.not_mem_nil, or_false] at hf
      rcases hf with rfl | rfl | rfl | rfl | rfl
      · exact na_Counter_tiles
      · exact na_Counter_goal
      · exact na_Counter_places
      · exact na_Counter_columns
      · exact na_Counter_known⟩
    k_Mender := ⟨C_Mender, aC_Mender, PySem.W.mg_of X G aC_Mender, ⟨pg_Mender, hd_Mender, po_Mender, sa_Mender⟩, mk_Mender, kc_Mender, fun f hf => by
      simp only [List.mem_cons, List.not_mem_nil, or_false] at hf
      rcases hf with rfl | rfl | rfl | rfl
      · exact na_Mender_counter
      · exact na_Mender_laid
      · exact na_Mender_weights
      · exact na_Mender_known⟩
    l_cell := ⟨f0, _, F0, PySem.W.mg_of X G a0, B0⟩
    l_pick := ⟨f1, _, F1, PySem.W.mg_of X G a1, B1⟩
    l_tiles := ⟨f2, _, F2, PySem.W.mg_of X G a2, B2⟩
    l_sides := ⟨f3, _, F3, PySem.W.mg_of X G a3, B3⟩
    l_floor := ⟨f4, _, F4, PySem.W.mg_of X G a4, B4⟩
    l_word := ⟨f5, _, F5, PySem.W.mg_of X G a5, B5⟩
    Counter_fitting := ⟨f6, _, F6, ⟨a6, i6, k6⟩, B6⟩
    Counter_moved_on := ⟨f7, _, F7, ⟨a7, i7, k7⟩, B7⟩
    places_of := ⟨f8, _, F8, PySem.W.mg_of X G a8, B8⟩
    look_place := ⟨f9, _, F9, PySem.W.mg_of X G a9, B9⟩
    tile_at := ⟨f10, _, F10, PySem.W.mg_of X G a10, B10⟩
    Mender_cost_at := ⟨f11, _, F11, ⟨a11, i11, k11⟩, B11⟩
    Mender_reckoned := ⟨f12, _, F12, ⟨a12, i12, k12⟩, B12⟩
    Mender_best := ⟨f13, _, F13, ⟨a13, i13, k13⟩, B13⟩
    size_of := ⟨f14, _, F14, PySem.W.mg_of X G a14, B14⟩
    Counter___init__ := ⟨f15, _, F15, ⟨a15, i15, k15⟩, B15⟩
    empty := ⟨f16, _, F16, PySem.W.mg_of X G a16, B16⟩
    Mender___init__ := ⟨f17, _, F17, ⟨a17, i17, k17⟩, B17⟩
    look_weights := ⟨f18, _, F18, PySem.W.mg_of X G a18, B18⟩
    least_cost := ⟨f19, _, F19, PySem.W.mg_of X G a19, B19⟩
    Mender_way := ⟨f20, _, F20, ⟨a20, i20, k20⟩, B20⟩
    as_floor := ⟨f21, _, F21, PySem.W.mg_of X G a21, B21⟩
    mended := ⟨f22, _, F22, PySem.W.mg_of X G a22, B22⟩
    cost_of := ⟨f23, _, F23, PySem.W.mg_of X G a23, B23⟩
    l_do := ⟨f24, _, F24, PySem.W.mg_of X G a24, B24⟩
    l_as_floor := ⟨f25, _, F25, PySem.W.mg_of X G a25, B25⟩
    l_cost := ⟨f26, _, F26, PySem.W.mg_of X G a26, B26⟩
    l_fills := ⟨f27, _, F27, PySem.W.mg_of X G a27, B27⟩
    law := ⟨fa, _, F28, PySem.W.mg_of X G a28, B28⟩
    b_ValueError := PySem.W.mg_none_of X G z_ValueError
    b_enumerate := PySem.W.mg_none_of X G z_enumerate
    b_isinstance := PySem.W.mg_none_of X G z_isinstance
    b_len := PySem.W.mg_none_of X G z_len
    b_list := PySem.W.mg_none_of X G z_list
    b_min := PySem.W.mg_none_of X G z_min
    b_range := PySem.W.mg_none_of X G z_range
    b_sum := PySem.W.mg_none_of X G z_sum
    b_tuple := PySem.W.mg_none_of X G z_tuple
    b_zip := PySem.W.mg_none_of X G z_zip
    x_NoFill := ⟨C_NoFill, PySem.W.mg_of X G xg_NoFill, xq_NoFill, xk_NoFill, xb_NoFill, xt_NoFill⟩
    x_NoPlace := ⟨C_NoPlace, PySem.W.mg_of X G xg_NoPlace, xq_NoPlace, xk_NoPlace, xb_NoPlace, xt_NoPlace⟩
    x_Unlike := ⟨C_Unlike, PySem.W.mg_of X G xg_Unlike, xq_Unlike, xk_Unlike, xb_Unlike, xt_Unlike⟩
    q_NoFill := ⟨C_NoFill, xg_NoFill, PySem.W.mg_of X G xg_NoFill, xi_NoFill, xt_NoFill, xs_NoFill⟩
    q_NoPlace := ⟨C_NoPlace, xg_NoPlace, PySem.W.mg_of X G xg_NoPlace, xi_NoPlace, xt_NoPlace, xs_NoPlace⟩
    q_NoText := ⟨C_NoText, xg_NoText, PySem.W.mg_of X G xg_NoText, xi_NoText, xt_NoText, xs_NoText⟩
    q_NoTile := ⟨C_NoTile, xg_NoTile, PySem.W.mg_of X G xg_NoTile, xi_NoTile, xt_NoTile, xs_NoTile⟩
    q_Nothing := ⟨C_Nothing, xg_Nothing, PySem.W.mg_of X G xg_Nothing, xi_Nothing, xt_Nothing, xs_Nothing⟩
    q_Unlike := ⟨C_Unlike, xg_Unlike, PySem.W.mg_of X G xg_Unlike, xi_Unlike, xt_Unlike, xs_Unlike⟩
    p_FloorError := ⟨⟨C_FloorError, xg_FloorError, PySem.W.mg_of X G xg_FloorError, xi_FloorError, xt_FloorError, xs_FloorError⟩, xb_FloorError, xd_FloorError⟩
    w_NoFill := ⟨⟨C_NoFill, xg_NoFill, PySem.W.mg_of X G xg_NoFill, xi_NoFill, xt_NoFill, xs_NoFill⟩, ⟨eg_NoFill, ek_NoFill, xb_NoFill, xd_NoFill, ea_NoFill, eN, eT, em_NoFill⟩⟩
    w_NoPlace := ⟨⟨C_NoPlace, xg_NoPlace, PySem.W.mg_of X G xg_NoPlace, xi_NoPlace, xt_NoPlace, xs_NoPlace⟩, ⟨eg_NoPlace, ek_NoPlace, xb_NoPlace, xd_NoPlace, ea_NoPlace, eN, eT, em_NoPlace⟩⟩
    w_Unlike := ⟨⟨C_Unlike, xg_Unlike, PySem.W.mg_of X G xg_Unlike, xi_Unlike, xt_Unlike, xs_Unlike⟩, ⟨eg_Unlike, ek_Unlike, xb_Unlike, xd_Unlike, ea_Unlike, eN, eT, em_Unlike⟩⟩
    s_NoFill_FloorError := ps_NoFill_FloorError
    s_NoFill_NoFill := ps_NoFill_NoFill
    s_NoFill_NoPlace := ps_NoFill_NoPlace
    s_NoFill_NoText := ps_NoFill_NoText
    s_NoFill_NoTile := ps_NoFill_NoTile
    s_NoFill_Nothing := ps_NoFill_Nothing
    s_NoFill_Unlike := ps_NoFill_Unlike
    s_NoPlace_FloorError := ps_NoPlace_FloorError
    s_NoPlace_NoFill := ps_NoPlace_NoFill
    s_NoPlace_NoPlace := ps_NoPlace_NoPlace
    s_NoPlace_NoText := ps_NoPlace_NoText
    s_NoPlace_NoTile := ps_NoPlace_NoTile
    s_NoPlace_Nothing := ps_NoPlace_Nothing
    s_NoPlace_Unlike := ps_NoPlace_Unlike
    s_Unlike_FloorError := ps_Unlike_FloorError
    s_Unlike_NoFill := ps_Unlike_NoFill
    s_Unlike_NoPlace := ps_Unlike_NoPlace
    s_Unlike_NoText := ps_Unlike_NoText
    s_Unlike_NoTile := ps_Unlike_NoTile
    s_Unlike_Nothing := ps_Unlike_Nothing
    s_Unlike_Unlike := ps_Unlike_Unlike
    v_NoFill := pv_NoFill
    v_NoPlace := pv_NoPlace
    v_Unlike := pv_Unlike
  }
  exact ⟨_, fun s v => .of_eq rfl, fun base _ _ => (ok_law T).imp spL_spD⟩
theorem walk {l : PySem.W.OpenLaw} {p : Program} {loose : List Str} {XP : (Str → Option Value) → Heap → Prop} {YP : World → Heap → Prop} {d : DefRec} {K : Params → PySem.W.Frag} (hn : l.most = some 63)
    (hdf : d.params.defaults = []) (hY : ∀ (w : World) (h : Heap), YP w h → (K w.params).In h)
    (F : ∀ (w : World) (mg : Str → Option Value) (fa : Addr) (h : Heap), (K w.params).In h → h.Ns mainGlobals mg → mg d.name = some (.ref fa) →
      ∃ fd : FuncData, (∀ (s : Shared) (u : Value), BindsTo s fd ⟨[u], []⟩ [("_law_script", u)]) ∧ ∀ base : Heap, (K w.params).In base → base.Ns mainGlobals mg → FnOk l.prog w (K w.params) mg base (L2.CX l.prog w) 28 fa fd ["_law_script"] (spL (K w.params))) :
    PySem.W.WalkO p loose XP YP l.row.toRowW d [] (fun f vs => PySem.call f vs) := by
  refine L2.walk_of (n := 63) (k := 28) (x := "_law_script") (CX := fun w => L2.CX l.prog w) (sp := fun w => spL (K w.params)) hn (by decide) hdf ⟨rfl, by decide, by decide⟩ hY F ?_ ?_
  · exact fun _ _ a ns hl _ hS => ⟨a, ns, rfl, hS, hl, fun _ => rfl⟩
  · intro w H s e s' z
    obtain ⟨a, B, H', cls, d', _, _, _, _, _, _, _, z⟩ := z
    exact z
end LW

open PySem PySem.W PyProof.Rows in
set_option maxRecDepth 100000 in
set_option maxHeartbeats 0 in
theorem PySem.Challenge.cw_floorfits_k30_whole_mended_holds : PySem.Challenge.rw_floorfits_k30_whole_mended.Holds := by
  w_on; o_law; k_head; (case hw => w_witness2)
  k_fill
  refine LW.walk (l := PySem.Challenge.rw_floorfits_k30_whole_mended) rfl rfl (fun w h Y => PySem.W.kIn_of Y) ?F
  case F =>
    intro w mg fa h KX G hmg
    refine' LW.all_mk KX G hmg ?aC_Counter ?pg_Counter ?hd_Counter ?po_Counter ?sa_Counter ?mk_Counter ?kc_Counter ?na_Counter_tiles ?na_Counter_goal ?na_Counter_places ?na_Counter_columns ?na_Counter_known ?aC_Mender ?pg_Mender ?hd_Mender ?po_Mender ?sa_Mender ?mk_Mender ?kc_Mender ?na_Mender_counter ?na_Mender_laid ?na_Mender_weights ?na_Mender_known ?a0 ?l0 ?c0 ?k0 ?a1 ?l1 ?c1 ?k1 ?a2 ?l2 ?c2 ?k2 ?a3 ?l3 ?c3 ?k3 ?a4 ?l4 ?c4 ?k4 ?a5 ?l5 ?c5 ?k5 ?a6 ?i6 ?l6 ?c6 ?k6 ?a7 ?i7 ?l7 ?c7 ?k7 ?a8 ?l8 ?c8 ?k8 ?a9 ?l9 ?c9 ?k9 ?a10 ?l10 ?c10 ?k10 ?a11 ?i11 ?l11 ?c11 ?k11 ?a12 ?i12 ?l12 ?c12 ?k12 ?a13 ?i13 ?l13 ?c13 ?k13 ?a14 ?l14 ?c14 ?k14 ?a15 ?i15 ?l15 ?c15 ?k15 ?a16 ?l16 ?c16 ?k16 ?a17 ?i17 ?l17 ?c17 ?k17 ?a18 ?l18 ?c18 ?k18 ?a19 ?l19 ?c19 ?k19 ?a20 ?i20 ?l20 ?c20 ?k20 ?a21 ?l21 ?c21 ?k21 ?a22 ?l22 ?c22 ?k22 ?a23 ?l23 ?c23 ?k23 ?a24 ?l24 ?c24 ?k24 ?a25 ?l25 ?c25 ?k25 ?a26 ?l26 ?c26 ?k26 ?a27 ?l27 ?c27 ?k27 ?a28 ?l28 ?c28 ?k28 ?z_ValueError ?z_enumerate ?z_isinstance ?z_len ?z_list ?z_min ?z_range ?z_sum ?z_tuple ?z_zip ?xg_FloorError ?xb_FloorError ?xt_FloorError ?xi_FloorError ?xs_FloorError ?xd_FloorError ?xg_NoFill ?xq_NoFill ?xk_NoFill ?xb_NoFill ?xt_NoFill ?xi_NoFill ?xs_NoFill ?xd_NoFill ?eg_NoFill ?ek_NoFill ?ea_NoFill ?em_NoFill ?xg_NoPlace ?xq_NoPlace ?xk_NoPlace ?xb_NoPlace ?xt_NoPlace ?xi_NoPlace ?xs_NoPlace ?xd_NoPlace ?eg_NoPlace ?ek_NoPlace ?ea_NoPlace ?em_NoPlace ?xg_NoText ?xt_NoText ?xi_NoText ?xs_NoText ?xg_NoTile ?xt_NoTile ?xi_NoTile ?xs_NoTile ?xg_Nothing ?xt_Nothing ?xi_Nothing ?xs_Nothing ?xg_Unlike ?xq_Unlike ?xk_Unlike ?xb_Unlike ?xt_Unlike ?xi_Unlike ?xs_Unlike ?xd_Unlike ?eg_Unlike ?ek_Unlike ?ea_Unlike ?em_Unlike ?eN ?eT ?ps_NoFill_FloorError ?ps_NoFill_NoFill ?ps_NoFill_NoPlace ?ps_NoFill_NoText ?ps_NoFill_NoTile ?ps_NoFill_Nothing ?ps_NoFill_Unlike ?ps_NoPlace_FloorError ?ps_NoPlace_NoFill ?ps_NoPlace_NoPlace ?ps_NoPlace_NoText ?ps_NoPlace_NoTile ?ps_NoPlace_Nothing ?ps_NoPlace_Unlike ?ps_Unlike_FloorError ?ps_Unlike_NoFill ?ps_Unlike_NoPlace ?ps_Unlike_NoText ?ps_Unlike_NoTile ?ps_Unlike_Nothing ?ps_Unlike_Unlike ?pv_NoFill ?pv_NoPlace ?pv_Unlike
    (case aC_Counter => k_is)
    (case pg_Counter => k_is)
    (case hd_Counter => k_is)
    (case po_Counter => k_is)
    (case sa_Counter => k_is)
    (case mk_Counter => k_is)
    (case kc_Counter => k_is)
    (case na_Counter_tiles => k_is)
    (case na_Counter_goal => k_is)
    (case na_Counter_places => k_is)
    (case na_Counter_columns => k_is)
    (case na_Counter_known => k_is)
    (case aC_Mender => k_is)
    (case pg_Mender => k_is)
    (case hd_Mender => k_is)
    (case po_Mender => k_is)
    (case sa_Mender => k_is)
    (case mk_Mender => k_is)
    (case kc_Mender => k_is)
    (case na_Mender_counter => k_is)
    (case na_Mender_laid => k_is)
    (case na_Mender_weights => k_is)
    (case na_Mender_known => k_is)
    (case a0 => k_is)
    (case l0 => k_is)
    (case c0 => k_is)
    (case k0 => k_is)
    (case a1 => k_is)
    (case l1 => k_is)
    (case c1 => k_is)
    (case k1 => k_is)
    (case a2 => k_is)
    (case l2 => k_is)
    (case c2 => k_is)
    (case k2 => k_is)
    (case a3 => k_is)
    (case l3 => k_is)
    (case c3 => k_is)
    (case k3 => k_is)
    (case a4 => k_is)
    (case l4 => k_is)
    (case c4 => k_is)
    (case k4 => k_is)
    (case a5 => k_is)
    (case l5 => k_is)
    (case c5 => k_is)
    (case k5 => k_is)
    (case a6 => k_is)
    (case i6 => k_is)
    (case l6 => k_is)
    (case c6 => k_is)
    (case k6 => k_is)
    (case a7 => k_is)
    (case i7 => k_is)
    (case l7 => k_is)
    (case c7 => k_is)
    (case k7 => k_is)
    (case a8 => k_is)
    (case l8 => k_is)
    (case c8 => k_is)
    (case k8 => k_is)
    (case a9 => k_is)
    (case l9 => k_is)
    (case c9 => k_is)
    (case k9 => k_is)
    (case a10 => k_is)
    (case l10 => k_is)
    (case c10 => k_is)
    (case k10 => k_is)
    (case a11 => k_is)
    (case i11 => k_is)
    (case l11 => k_is)
    (case c11 => k_is)
    (case k11 => k_is)
    (case a12 => k_is)
    (case i12 => k_is)
    (case l12 => k_is)
    (case c12 => k_is)
    (case k12 => k_is)
    (case a13 => k_is)
    (case i13 => k_is)
    (case l13 => k_is)
    (case c13 => k_is)
    (case k13 => k_is)
    (case a14 => k_is)
    (case l14 => k_is)
    (case c14 => k_is)
    (case k14 => k_is)
    (case a15 => k_is)
    (case i15 => k_is)
    (case l15 => k_is)
    (case c15 => k_is)
    (case k15 => k_is)
    (case a16 => k_is)
    (case l16 => k_is)
    (case c16 => k_is)
    (case k16 => k_is)
    (case a17 => k_is)
    (case i17 => k_is)
    (case l17 => k_is)
    (case c17 => k_is)
    (case k17 => k_is)
    (case a18 => k_is)
    (case l18 => k_is)
    (case c18 => k_is)
    (case k18 => k_is)
    (case a19 => k_is)
    (case l19 => k_is)
    (case c19 => k_is)
    (case k19 => k_is)
    (case a20 => k_is)
    (case i20 => k_is)
    (case l20 => k_is)
    (case c20 => k_is)
    (case k20 => k_is)
    (case a21 => k_is)
    (case l21 => k_is)
    (case c21 => k_is)
    (case k21 => k_is)
    (case a22 => k_is)
    (case l22 => k_is)
    (case c22 => k_is)
    (case k22 => k_is)
    (case a23 => k_is)
    (case l23 => k_is)
    (case c23 => k_is)
    (case k23 => k_is)
    (case a24 => k_is)
    (case l24 => k_is)
    (case c24 => k_is)
    (case k24 => k_is)
    (case a25 => k_is)
    (case l25 => k_is)
    (case c25 => k_is)
    (case k25 => k_is)
    (case a26 => k_is)
    (case l26 => k_is)
    (case c26 => k_is)
    (case k26 => k_is)
    (case a27 => k_is)
    (case l27 => k_is)
    (case c27 => k_is)
    (case k27 => k_is)
    (case a28 => k_is)
    (case l28 => k_is)
    (case c28 => k_is)
    (case k28 => k_is)
    (case z_ValueError => k_is)
    (case z_enumerate => k_is)
    (case z_isinstance => k_is)
    (case z_len => k_is)
    (case z_list => k_is)
    (case z_min => k_is)
    (case z_range => k_is)
    (case z_sum => k_is)
    (case z_tuple => k_is)
    (case z_zip => k_is)
    (case xg_FloorError => k_is)
    (case xb_FloorError => k_is)
    (case xt_FloorError => k_is)
    (case xi_FloorError => k_is)
    (case xs_FloorError => k_is)
    (case xd_FloorError => k_is)
    (case xg_NoFill => k_is)
    (case xq_NoFill => k_exc)
    (case xk_NoFill => k_is)
    (case xb_NoFill => k_is)
    (case xt_NoFill => k_is)
    (case xi_NoFill => k_is)
    (case xs_NoFill => k_is)
    (case xd_NoFill => k_is)
    (case eg_NoFill => k_is)
    (case ek_NoFill => k_is)
    (case ea_NoFill => k_is)
    (case em_NoFill => k_is)
    (case xg_NoPlace => k_is)
    (case xq_NoPlace => k_exc)
    (case xk_NoPlace => k_is)
    (case xb_NoPlace => k_is)
    (case xt_NoPlace => k_is)
    (case xi_NoPlace => k_is)
    (case xs_NoPlace => k_is)
    (case xd_NoPlace => k_is)
    (case eg_NoPlace => k_is)
    (case ek_NoPlace => k_is)
    (case ea_NoPlace => k_is)
    (case em_NoPlace => k_is)
    (case xg_NoText => k_is)
    (case xt_NoText => k_is)
    (case xi_NoText => k_is)
    (case xs_NoText => k_is)
    (case xg_NoTile => k_is)
    (case xt_NoTile => k_is)
    (case xi_NoTile => k_is)
    (case xs_NoTile => k_is)
    (case xg_Nothing => k_is)
    (case xt_Nothing => k_is)
    (case xi_Nothing => k_is)
    (case xs_Nothing => k_is)
    (case xg_Unlike => k_is)
    (case xq_Unlike => k_exc)
    (case xk_Unlike => k_is)
    (case xb_Unlike => k_is)
    (case xt_Unlike => k_is)
    (case xi_Unlike => k_is)
    (case xs_Unlike => k_is)
    (case xd_Unlike => k_is)
    (case eg_Unlike => k_is)
    (case ek_Unlike => k_is)
    (case ea_Unlike => k_is)
    (case em_Unlike => k_is)
    (case eN => k_is)
    (case eT => k_is)
    (case ps_NoFill_FloorError => k_is)
    (case ps_NoFill_NoFill => k_is)
    (case ps_NoFill_NoPlace => k_is)
    (case ps_NoFill_NoText => k_is)
    (case ps_NoFill_NoTile => k_is)
    (case ps_NoFill_Nothing => k_is)
    (case ps_NoFill_Unlike => k_is)
    (case ps_NoPlace_FloorError => k_is)
    (case ps_NoPlace_NoFill => k_is)
    (case ps_NoPlace_NoPlace => k_is)
    (case ps_NoPlace_NoText => k_is)
    (case ps_NoPlace_NoTile => k_is)
    (case ps_NoPlace_Nothing => k_is)
    (case ps_NoPlace_Unlike => k_is)
    (case ps_Unlike_FloorError => k_is)
    (case ps_Unlike_NoFill => k_is)
    (case ps_Unlike_NoPlace => k_is)
    (case ps_Unlike_NoText => k_is)
    (case ps_Unlike_NoTile => k_is)
    (case ps_Unlike_Nothing => k_is)
    (case ps_Unlike_Unlike => k_is)
    (case pv_NoFill => k_is)
    (case pv_NoPlace => k_is)
    (case pv_Unlike => k_is)

