import PyProof.Rows.All
import Wide.All
import OpenK.AllK
import Wide.FinOn
import HandS.ForMost
import HandS.ForExc
import HandS.Lambda
import HandS.SortInts
import HandS.SortRule
import HandS.Wide
import HandS.Strs
import HandS.IsInst
import HandS.Zip
import HandS.TupAny
import HandS.Deep
import HandS.Style
import HandS.Walk
import HandS.ExcCtx
import HandS.SetFor
import HandS.EndTab
import HandS.ExcOwn
import HandS.Hot
import HandS.HotCalls
import HandS.Comp
import HandS.ExcIs
import KE.SortKeyHeap
import KE.KSortKey
import PyProof.Rows.TupSub
import HandS.Conv
import KE.DataMinMax
import PySem.Challenge.RW_cordboard_k30_whole_hours
set_option Elab.async false
set_option linter.all false
set_option maxRecDepth 100000
set_option maxHeartbeats 8000000
/-! # A layer of plain data over HandS: values are trees of data (PyData); lists that a def fills are owned by a slot. -/
namespace DL
open PySem L2

abbrev D := PyData
abbrev St := L2.St

/-! ## results -/
inductive Er where
  | stuck
  | exc (c : String)
inductive M (α : Type) where
  | ok (a : α)
  | er (e : Er)
def bnd {α β : Type} (m : M α) (f : α → M β) : M β := match m with
  | .ok a => f a
  | .er e => .er e
@[simp] theorem bnd_ok {α β : Type} (a : α) (f : α → M β) : bnd (.ok a) f = f a := rfl
@[simp] theorem bnd_er {α β : Type} (e : Er) (f : α → M β) : bnd (.er e : M α) f = .er e := rfl
abbrev stuck {α : Type} : M α := .er .stuck

/-! ## data over a heap of which some is hidden -/
/-- the heap without what is owned -/
noncomputable def hide (O : Addr → Prop) (H : Hp) : Hp := fun a => open Classical in if O a then none else H a
theorem hide_some {O : Addr → Prop} {H : Hp} {a : Addr} {o : HO} : hide O H a = some o ↔ ¬ O a ∧ H a = some o := by
  unfold hide
  by_cases h : O a
  · simp [h]
  · simp [h]
/-- all but the tables of code objects stays -/
abbrev Kept (H H' : Hp) : Prop := LamX.ExtN H H'

mutual
/-- data as it lies: lists that are tracked, tuples, and what needs no heap -/
inductive Rp (K : PySem.W.Frag) (H : Hp) : V → D → Prop
  | non : Rp K H .non .none
  | bl (b : Bool) : Rp K H (.bl b) (.bool b)
  | int (i : Int) : Rp K H (.int i) (.int i)
  | str (x : Str) : Rp K H (.str x) (.str x)
  | lst {a : Addr} {xs : List V} {ds : List D} : Rd H a (.lst xs) → RpAll K H xs ds → Rp K H (.ref a) (.list ds)
  | tup {a : Addr} {xs : List V} {ds : List D} : SqT K H a xs → RpAll K H xs ds → Rp K H (.ref a) (.tuple ds)
inductive RpAll (K : PySem.W.Frag) (H : Hp) : List V → List D → Prop
  | nil : RpAll K H [] []
  | cons {v : V} {vs : List V} {d : D} {ds : List D} : Rp K H v d → RpAll K H vs ds → RpAll K H (v :: vs) (d :: ds)
end
mutual
theorem Rp.dp {K : PySem.W.Frag} {H : Hp} : ∀ (d : D) (v : V), Rp K H v d → Dp K H v d
  | .none, _, h => by cases h; exact .non
  | .bool _, _, h => by cases h; exact .bl _
  | .int _, _, h => by cases h; exact .int _
  | .str _, _, h => by cases h; exact .str _
  | .list ds, _, h => by
    cases h with
    | lst hs ha => exact .lst (.inl hs) (RpAll.dp ds _ ha)
  | .tuple ds, _, h => by
    cases h with
    | tup hs ha => exact .tup hs (RpAll.dp ds _ ha)
  | .dict _, _, h => by cases h
theorem RpAll.dp {K : PySem.W.Frag} {H : Hp} : ∀ (ds : List D) (vs : List V), RpAll K H vs ds → DpAll K H vs ds
  | [], _, h => by cases h; exact .nil
  | d :: ds, _, h => by
    cases h with
    | cons h1 h2 => exact .cons (Rp.dp d _ h1) (RpAll.dp ds _ h2)
end

mutual
theorem Rp_mono {K : PySem.W.Frag} {H H' : Hp} (k : Kept H H') : ∀ (d : D) (v : V), Rp K H v d → Rp K H' v d
  | .none, _, h => by cases h; exact .non
  | .bool _, _, h => by cases h; exact .bl _
  | .int _, _, h => by cases h; exact .int _
  | .str _, _, h => by cases h; exact .str _
  | .list ds, _, h => by
    cases h with
    | lst hs ha =>
      refine .lst ?_ (RpAll_mono k ds _ ha)
      rcases hs with hs | ⟨o, hs⟩
      · exact .inl (k _ _ hs (fun _ z => by cases z))
      · exact .inr ⟨o, k _ _ hs (fun _ z => by cases z)⟩
  | .tuple ds, _, h => by
    cases h with
    | tup hs ha =>
      refine .tup ?_ (RpAll_mono k ds _ ha)
      rcases hs with (hs | ⟨o, hs⟩) | hs
      · exact .inl (.inl (k _ _ hs (fun _ z => by cases z)))
      · exact .inl (.inr ⟨o, k _ _ hs (fun _ z => by cases z)⟩)
      · exact .inr hs
  | .dict _, _, h => by cases h
theorem RpAll_mono {K : PySem.W.Frag} {H H' : Hp} (k : Kept H H') : ∀ (ds : List D) (vs : List V), RpAll K H vs ds → RpAll K H' vs ds
  | [], _, h => by cases h; exact .nil
  | d :: ds, _, h => by
    cases h with
    | cons h1 h2 => exact .cons (Rp_mono k d _ h1) (RpAll_mono k ds _ h2)
end
/-- nothing stands there but, perhaps, a table -/
def Nw (H : Hp) (a : Addr) : Prop := ∀ o, H a = some o → ∃ ps, o = .tbl ps
theorem Nw.of {H : Hp} {a : Addr} (h : H a = none) : Nw H a := fun o e => by rw [h] at e; cases e
theorem Nw.back {H H' : Hp} {a : Addr} (n : Nw H' a) (k : Kept H H') : Nw H a := fun o e => Classical.byContradiction fun z => z (n o (k a o e fun ps q => z ⟨ps, q⟩))
theorem kept_of {H H' : Hp} (s : Same H H') : Kept H H' := fun b o h _ => s b o h

theorem RpAll.len {K : PySem.W.Frag} {H : Hp} {vs : List V} {ds : List D} (h : RpAll K H vs ds) : vs.length = ds.length := by
  induction ds generalizing vs with
  | nil => cases h; rfl
  | cons d ds ih =>
    cases h with
    | cons _ h2 => simp [ih h2]
theorem RpAll.get {K : PySem.W.Frag} {H : Hp} {vs : List V} {ds : List D} (h : RpAll K H vs ds) {i : Nat} {d : D} (e : ds[i]? = some d) : ∃ v, vs[i]? = some v ∧ Rp K H v d := by
  induction ds generalizing vs i with
  | nil => simp at e
  | cons x ds ih =>
    cases h with
    | cons h1 h2 =>
      cases i with
      | zero => simp at e; subst e; exact ⟨_, rfl, h1⟩
      | succ i => simpa using ih h2 (by simpa using e)
theorem RpAll.get' {K : PySem.W.Frag} {H : Hp} {vs : List V} {ds : List D} (h : RpAll K H vs ds) {i : Nat} {v : V} (e : vs[i]? = some v) : ∃ d, ds[i]? = some d ∧ Rp K H v d := by
  induction ds generalizing vs i with
  | nil => cases h; simp at e
  | cons x ds ih =>
    cases h with
    | cons h1 h2 =>
      cases i with
      | zero => simp at e; subst e; exact ⟨_, rfl, h1⟩
      | succ i => simpa using ih h2 (by simpa using e)
theorem RpAll.append {K : PySem.W.Frag} {H : Hp} {vs ws : List V} {ds es : List D} (h : RpAll K H vs ds) (h' : RpAll K H ws es) : RpAll K H (vs ++ ws) (ds ++ es) := by
  induction ds generalizing vs with
  | nil => cases h; exact h'
  | cons x ds ih =>
    cases h with
    | cons h1 h2 => exact .cons h1 (ih h2)
theorem RpAll.take {K : PySem.W.Frag} {H : Hp} {vs : List V} {ds : List D} (h : RpAll K H vs ds) (n : Nat) : RpAll K H (vs.take n) (ds.take n) := by
  induction ds generalizing vs n with
  | nil => cases h; simpa using RpAll.nil
  | cons x ds ih =>
    cases h with
    | cons h1 h2 =>
      cases n with
      | zero => simpa using RpAll.nil
      | succ n => simpa using RpAll.cons h1 (ih h2 n)
theorem RpAll.drop {K : PySem.W.Frag} {H : Hp} {vs : List V} {ds : List D} (h : RpAll K H vs ds) (n : Nat) : RpAll K H (vs.drop n) (ds.drop n) := by
  induction ds generalizing vs n with
  | nil => cases h; simpa using RpAll.nil
  | cons x ds ih =>
    cases h with
    | cons h1 h2 =>
      cases n with
      | zero => simpa using RpAll.cons h1 h2
      | succ n => simpa using ih h2 n
theorem RpAll.set {K : PySem.W.Frag} {H : Hp} {vs : List V} {ds : List D} (h : RpAll K H vs ds) (i : Nat) {v : V} {d : D} (hv : Rp K H v d) : RpAll K H (vs.set i v) (ds.set i d) := by
  induction ds generalizing vs i with
  | nil => cases h; simpa using RpAll.nil
  | cons x ds ih =>
    cases h with
    | cons h1 h2 =>
      cases i with
      | zero => simpa using RpAll.cons hv h2
      | succ i => simpa using RpAll.cons h1 (ih h2 i)
theorem RpAll.reverse {K : PySem.W.Frag} {H : Hp} {vs : List V} {ds : List D} (h : RpAll K H vs ds) : RpAll K H vs.reverse ds.reverse := by
  induction ds generalizing vs with
  | nil => cases h; exact .nil
  | cons x ds ih =>
    cases h with
    | cons h1 h2 => simpa using (ih h2).append (.cons h1 .nil)
theorem RpAll.ints {K : PySem.W.Frag} {H : Hp} {vs : List V} {ns : List Int} (h : RpAll K H vs (ns.map PyData.int)) : vs = ns.map V.int := by
  induction ns generalizing vs with
  | nil => cases h; rfl
  | cons n ns ih =>
    cases h with
    | cons h1 h2 => cases h1; rw [ih h2]; rfl
theorem RpAll.ofInts {K : PySem.W.Frag} {H : Hp} (ns : List Int) : RpAll K H (ns.map V.int) (ns.map PyData.int) := by
  induction ns with
  | nil => exact .nil
  | cons n ns ih => exact .cons (.int n) ih

/-- data that needs no heap -/
def flat : D → Bool
  | .list _ => false
  | .tuple _ => false
  | .dict _ => false
  | _ => true
theorem Rp.flat {K : PySem.W.Frag} {H H' : Hp} {v : V} {d : D} (h : Rp K H v d) (f : flat d = true) : Rp K H' v d := by
  cases h with
  | non => exact .non
  | bl b => exact .bl b
  | int i => exact .int i
  | str x => exact .str x
  | lst _ _ => simp [DL.flat] at f
  | tup _ _ => simp [DL.flat] at f

/-! ## the state of a def -/
inductive Sl where
  /-- unknown, or not yet assigned -/
  | un
  /-- this very object -/
  | adr (a : Addr)
  /-- data that is never changed -/
  | dat (d : D)
  /-- a list of ints that is never changed, wherever it lies -/
  | scr (ns : List Int)
  /-- a list that this slot alone holds -/
  | lst (ds : List D)
  /-- a dict that this slot alone holds -/
  | dic (kvs : List (Key × D))
abbrev En := List Sl

/-- the keys are the same, the values are told by the data -/
def KvD (K : PySem.W.Frag) (H : Hp) (ws : List (Key × V)) (kvs : List (Key × D)) : Prop := ws.map (·.1) = kvs.map (·.1) ∧ RpAll K H (ws.map (·.2)) (kvs.map (·.2))
theorem KvD.mono {K : PySem.W.Frag} {H H' : Hp} {ws : List (Key × V)} {kvs : List (Key × D)} (k : Kept H H') (h : KvD K H ws kvs) : KvD K H' ws kvs := ⟨h.1, RpAll_mono k _ _ h.2⟩

/-- what is fixed through a def's run: what the caller hides, the heap at the entry, the tables -/
structure Bs where
  K : PySem.W.Frag
  O0 : Addr → Prop
  H0 : Hp
  T : List (Addr × Str)

/-- a slot's value, by what is told of it -/
def SlotR (B : Bs) (O : Addr → Prop) (H : Hp) (s : Sl) (ov : Option V) : Prop := match s with
  | .un => True
  | .adr a => ov = some (.ref a)
  | .dat d => ∃ v, ov = some v ∧ Rp B.K (hide O H) v d
  | .scr ns => ∃ a, ov = some (.ref a) ∧ SqL B.K (hide O H) a (ns.map V.int)
  | .lst ds => ∃ a vs, ov = some (.ref a) ∧ O a ∧ ¬ B.O0 a ∧ Nw B.H0 a ∧ H a = some (.lst vs) ∧ RpAll B.K (hide O H) vs ds
  | .dic kvs => ∃ a ws, ov = some (.ref a) ∧ O a ∧ ¬ B.O0 a ∧ Nw B.H0 a ∧ H a = some (.dK ws) ∧ KvD B.K (hide O H) ws kvs
/-- whether it owns what it refers to -/
def owns : Sl → Bool
  | .lst _ => true
  | .dic _ => true
  | _ => false

/-- all lists are of a size that lists can have -/
def Sz (H : Hp) : Prop := ∀ a xs, (H a = some (.lst xs) ∨ ∃ o, H a = some (.frz o (.lst xs))) → xs.length ≤ sizeLine

structure Ok (B : Bs) (O : Addr → Prop) (σ : St) (H : Hp) (ε : En) : Prop where
  keep : Kept B.H0 H
  tabs : LamX.Tabs B.T H
  size : Sz H
  sub : ∀ a, B.O0 a → O a
  dom : ∀ a, O a → ∃ o, H a = some o ∧ ∀ ps, o ≠ .tbl ps
  len : σ.length = ε.length
  slot : ∀ (i : Nat) (s : Sl) (ov : Option V), ε[i]? = some s → σ[i]? = some ov → SlotR B O H s ov
  sep : ∀ (i j : Nat) (s u : Sl) (v : V), i ≠ j → ε[i]? = some s → ε[j]? = some u → owns s = true → owns u = true → σ[i]? = some (some v) → σ[j]? = some (some v) → False

/-- more heap: all stays, lists' sizes and tables are kept right -/
structure Ext (T : List (Addr × Str)) (H H' : Hp) : Prop where
  kept : Kept H H'
  tabs : LamX.Tabs T H → LamX.Tabs T H'
  size : Sz H → Sz H'
theorem Ext.refl (T : List (Addr × Str)) (H : Hp) : Ext T H H := ⟨LamX.ExtN.refl H, id, id⟩
theorem Ext.trans {T : List (Addr × Str)} {H H1 H2 : Hp} (a : Ext T H H1) (b : Ext T H1 H2) : Ext T H H2 := ⟨a.kept.trans b.kept, fun t => b.tabs (a.tabs t), fun t => b.size (a.size t)⟩
/-- a new object -/
theorem Ext.laid {T : List (Addr × Str)} {H : Hp} {p : Addr} {o : HO} (n : H p = none) (hz : ∀ xs, (o = .lst xs ∨ ∃ u, o = .frz u (.lst xs)) → xs.length ≤ sizeLine) : Ext T H (upd H p o) := by
  have s : Same H (upd H p o) := fun b u e => by rw [upd_ne (ne_of_none e n)]; exact e
  refine ⟨kept_of s, fun t => t.ext s, fun z a xs h => ?_⟩
  by_cases ha : a = p
  · subst ha
    rw [upd_same] at h
    rcases h with h | ⟨u, h⟩
    · exact hz xs (.inl (Option.some.inj h))
    · exact hz xs (.inr ⟨u, Option.some.inj h⟩)
  · rw [upd_ne ha] at h
    exact z a xs h
theorem Ext.lst {T : List (Addr × Str)} {H : Hp} {p : Addr} {xs : List V} (n : H p = none) (hz : xs.length ≤ sizeLine) : Ext T H (upd H p (.lst xs)) :=
  Ext.laid n fun ys h => by
    rcases h with h | ⟨u, h⟩
    · cases h; exact hz
    · cases h
theorem Ext.tup {T : List (Addr × Str)} {H : Hp} {p : Addr} {xs : List V} (n : H p = none) : Ext T H (upd H p (.tup xs)) :=
  Ext.laid n fun ys h => by
    rcases h with h | ⟨u, h⟩
    · cases h
    · cases h

theorem Kept.hide {O : Addr → Prop} {H H' : Hp} (k : Kept H H') : Kept (hide O H) (hide O H') := fun b o h n => by
  obtain ⟨h1, h2⟩ := hide_some.mp h
  exact hide_some.mpr ⟨h1, k b o h2 n⟩
theorem kept_unhide {O O' : Addr → Prop} {H : Hp} (s : ∀ a, O' a → O a) : Kept (hide O H) (hide O' H) := fun b o h _ => by
  obtain ⟨h1, h2⟩ := hide_some.mp h
  exact hide_some.mpr ⟨fun z => h1 (s _ z), h2⟩
theorem kept_hide0 {O : Addr → Prop} {H : Hp} : Kept (hide O H) H := fun b o h _ => (hide_some.mp h).2
/-- what is owned anew is new -/
theorem kept_own {O O' : Addr → Prop} {H H' : Hp} (k : Kept H H') (n : ∀ a, O' a → O a ∨ Nw H a) : Kept (hide O H) (hide O' H') := fun b o h nt => by
  obtain ⟨h1, h2⟩ := hide_some.mp h
  refine hide_some.mpr ⟨fun z => ?_, k b o h2 nt⟩
  rcases n b z with q | q
  · exact h1 q
  · obtain ⟨ps, e⟩ := q o h2
    exact nt ps e

theorem sqL_kept {K : PySem.W.Frag} {H H' : Hp} (k : Kept H H') {a : Addr} {xs : List V} (h : SqL K H a xs) : SqL K H' a xs := by
  rcases h with (h | ⟨o, h⟩) | h
  · exact .inl (.inl (k _ _ h (fun _ z => by cases z)))
  · exact .inl (.inr ⟨o, k _ _ h (fun _ z => by cases z)⟩)
  · exact .inr h
theorem SlotR.mono {B : Bs} {O O' : Addr → Prop} {H H' : Hp} {s : Sl} {ov : Option V} (h : SlotR B O H s ov) (k : Kept (hide O H) (hide O' H')) (kO : ∀ a o, O a → H a = some o → (∀ ps, o ≠ .tbl ps) → O' a ∧ H' a = some o) : SlotR B O' H' s ov := by
  cases s with
  | un => trivial
  | adr a => exact h
  | dat d => obtain ⟨v, e, hd⟩ := h; exact ⟨v, e, Rp_mono k _ _ hd⟩
  | scr ns => obtain ⟨a, e, hq⟩ := h; exact ⟨a, e, sqL_kept k hq⟩
  | lst ds =>
    obtain ⟨a, vs, e, h1, h2, h3, h4, h5⟩ := h
    obtain ⟨k1, k2⟩ := kO a _ h1 h4 (fun _ z => by cases z)
    exact ⟨a, vs, e, k1, h2, h3, k2, RpAll_mono k _ _ h5⟩
  | dic kvs =>
    obtain ⟨a, ws, e, h1, h2, h3, h4, h5⟩ := h
    obtain ⟨k1, k2⟩ := kO a _ h1 h4 (fun _ z => by cases z)
    exact ⟨a, ws, e, k1, h2, h3, k2, h5.mono k⟩

section
variable {B : Bs} {O O' : Addr → Prop} {σ : St} {H H' : Hp} {ε : En}
/-- the same state over more heap, of which some that is new may be owned -/
theorem Ok.ext (ok : Ok B O σ H ε) (e : Ext B.T H H') (s : ∀ a, O a → O' a) (n : ∀ a, O' a → O a ∨ (Nw H a ∧ ∃ o, H' a = some o ∧ ∀ ps, o ≠ .tbl ps)) : Ok B O' σ H' ε := by
  refine ⟨ok.keep.trans e.kept, e.tabs ok.tabs, e.size ok.size, fun a h => s a (ok.sub a h), fun a h => ?_, ok.len, fun i sl ov h1 h2 => ?_, ok.sep⟩
  · rcases n a h with q | ⟨_, q⟩
    · obtain ⟨o, h1, h2⟩ := ok.dom a q
      exact ⟨o, e.kept a o h1 h2, h2⟩
    · exact q
  · exact (ok.slot i sl ov h1 h2).mono (kept_own e.kept fun a z => (n a z).imp id (·.1)) fun a o h3 h4 h5 => ⟨s a h3, e.kept a o h4 h5⟩
theorem Ok.more (ok : Ok B O σ H ε) (e : Ext B.T H H') : Ok B O σ H' ε := ok.ext e (fun _ h => h) fun _ h => .inl h
theorem Ok.not0 (ok : Ok B O σ H ε) {a : Addr} (h : Nw H a) : ¬ O a := fun z => by
  obtain ⟨o, h1, h2⟩ := ok.dom a z
  obtain ⟨ps, e⟩ := h o h1
  exact h2 ps e
end
end DL

/-! ## expressions -/
namespace DL
open PySem L2

structure Pm where
  b : Bs
  C : String → Addr
  E : XK
/-- no exception may leave -/
abbrev Pm.n (P : Pm) : Pm := { P with E := E0 }

/-- what an exception leaves behind -/
structure Bye (B : Bs) (H' : Hp) : Prop where
  kept : Kept B.H0 H'
  tabs : LamX.Tabs B.T H'
  size : Sz H'
def outE (P : Pm) : Er → Prop
  | .stuck => False
  | .exc c => ∀ H', Bye P.b H' → P.E (.ref (P.C c)) none H'

/-- readable: data that stays, or a list at the top that may be changed later -/
def RS (B : Bs) (O : Addr → Prop) (H : Hp) (v : V) (d : D) : Prop :=
  Rp B.K (hide O H) v d ∨ ∃ a vs ds, v = .ref a ∧ d = .list ds ∧ ¬ B.O0 a ∧ H a = some (.lst vs) ∧ RpAll B.K (hide O H) vs ds
/-- a value, now -/
def QS (B : Bs) (H : Hp) (v : V) (d : D) : Prop := Rp B.K (hide B.O0 H) v d

def tP (P : Pm) (f : En → M D) : TE := fun σ H Q => ∃ O ε, Ok P.b O σ H ε ∧ match f ε with
  | .ok d => ∀ v H', Ext P.b.T H H' → RS P.b O H' v d → Q v H'
  | .er e => outE P e
def tS (P : Pm) (f : En → M D) : TE := fun σ H Q => ∃ O ε, Ok P.b O σ H ε ∧ match f ε with
  | .ok d => ∀ v H', Ext P.b.T H H' → Rp P.b.K (hide O H') v d → Q v H'
  | .er e => outE P e
def tQ (P : Pm) (f : En → M D) : TE := fun σ H Q => ∃ O ε, Ok P.b O σ H ε ∧ match f ε with
  | .ok d => ∀ v H', Ext P.b.T H H' → QS P.b H' v d → Q v H'
  | .er e => outE P e
/-- a new list -/
def tN (P : Pm) (f : En → M (List D)) : TE := fun σ H Q => ∃ O ε, Ok P.b O σ H ε ∧ match f ε with
  | .ok ds => ∀ a vs H', Ext P.b.T H H' → Nw H a → H' a = some (.lst vs) → RpAll P.b.K (hide (fun b => O b ∨ b = a) H') vs ds → Q (.ref a) H'
  | .er e => outE P e
/-- a test -/
def tT (P : Pm) (f : En → M Bool) : TT := fun σ H Q => ∃ O ε, Ok P.b O σ H ε ∧ match f ε with
  | .ok b => ∀ H', Ext P.b.T H H' → Q b H'
  | .er e => outE P e
def tAS (P : Pm) (f : En → M (List D)) : TA := fun σ H Q => ∃ O ε, Ok P.b O σ H ε ∧ match f ε with
  | .ok ds => ∀ vs H', Ext P.b.T H H' → RpAll P.b.K (hide O H') vs ds → Q vs H'
  | .er e => outE P e
def tAQ (P : Pm) (f : En → M (List D)) : TA := fun σ H Q => ∃ O ε, Ok P.b O σ H ε ∧ match f ε with
  | .ok ds => ∀ vs H', Ext P.b.T H H' → RpAll P.b.K (hide P.b.O0 H') vs ds → Q vs H'
  | .er e => outE P e

section
variable {X : Cx} {e : Expr}
theorem _root_.L2.PE.wk {t t' : TE} (h : PE X e t) (w : ∀ σ H Q, t' σ H Q → t σ H Q) : PE X e t' := ⟨fun pins s σ H Q I q => h.run pins s σ H Q I (w σ H Q q)⟩
theorem _root_.L2.PT.wk {t t' : TT} (h : PT X e t) (w : ∀ σ H Q, t' σ H Q → t σ H Q) : PT X e t' := ⟨fun pins s σ H Q I q => h.run pins s σ H Q I (w σ H Q q)⟩
theorem _root_.L2.PW.wk {t t' : TT} (h : PW X e t) (w : ∀ σ H Q, t' σ H Q → t σ H Q) : PW X e t' := ⟨fun z pins s σ H Q I q => h.run z pins s σ H Q I (w σ H Q q)⟩
theorem _root_.L2.PA.wk {es : List Expr} {t t' : TA} (h : PA X es t) (w : ∀ σ H Q, t' σ H Q → t σ H Q) : PA X es t' := ⟨fun z pins s σ H Q I q => h.run z pins s σ H Q I (w σ H Q q)⟩
end

section
variable {B : Bs} {O : Addr → Prop} {σ : St} {H H' : Hp} {ε : En} {v : V} {d : D}
theorem RS.q (s : ∀ a, B.O0 a → O a) (h : RS B O H v d) : QS B H v d := by
  rcases h with h | ⟨a, vs, ds, rfl, rfl, n, ha, hd⟩
  · exact Rp_mono (kept_unhide s) _ _ h
  · exact .lst (.inl (hide_some.mpr ⟨n, ha⟩)) (RpAll_mono (kept_unhide s) _ _ hd)
theorem RS.more {T : List (Addr × Str)} (h : RS B O H v d) (e : Ext T H H') : RS B O H' v d := by
  rcases h with h | ⟨a, vs, ds, rfl, rfl, n, ha, hd⟩
  · exact .inl (Rp_mono e.kept.hide _ _ h)
  · exact .inr ⟨a, vs, ds, rfl, rfl, n, e.kept a _ ha (fun _ z => by cases z), RpAll_mono e.kept.hide _ _ hd⟩
theorem QS.more {T : List (Addr × Str)} (h : QS B H v d) (e : Ext T H H') : QS B H' v d := Rp_mono e.kept.hide _ _ h
theorem QS.now (h : QS B H v d) : Rp B.K H v d := Rp_mono kept_hide0 _ _ h
end

/-! ### from one kind to another -/
section
variable {X : Cx} {e : Expr} {P : Pm} {f : En → M D} {fs : En → M (List D)}
@[simp] def frz (fs : En → M (List D)) : En → M D := fun ε => bnd (fs ε) fun ds => .ok (.list ds)
theorem toS (h : PE X e (tN P fs)) : PE X e (tS P (frz fs)) := h.wk fun σ H Q ⟨O, ε, ok, q⟩ => ⟨O, ε, ok, by
  unfold frz at q
  cases hf : fs ε with
  | er x => rw [hf] at q; exact q
  | ok ds =>
    rw [hf] at q
    intro a vs H' ext hn ha hd
    refine q (.ref a) H' ext (.lst (.inl (hide_some.mpr ⟨ok.not0 hn, ha⟩)) (RpAll_mono (kept_unhide fun b z => .inl z) _ _ hd))⟩
theorem toP (h : PE X e (tS P f)) : PE X e (tP P f) := h.wk fun σ H Q ⟨O, ε, ok, q⟩ => ⟨O, ε, ok, by
  cases hf : f ε with
  | er x => rw [hf] at q; exact q
  | ok d => rw [hf] at q; exact fun v H' ext hd => q v H' ext (.inl hd)⟩
theorem toQ (h : PE X e (tP P f)) : PE X e (tQ P f) := h.wk fun σ H Q ⟨O, ε, ok, q⟩ => ⟨O, ε, ok, by
  cases hf : f ε with
  | er x => rw [hf] at q; exact q
  | ok d => rw [hf] at q; exact fun v H' ext hd => q v H' ext (hd.q ok.sub)⟩
/-- a value that needs no heap stays -/
@[simp] def flatF (f : En → M D) : En → M D := fun ε => bnd (f ε) fun d => if flat d = true then .ok d else stuck
theorem flS (h : PE X e (tQ P f)) : PE X e (tS P (flatF f)) := h.wk fun σ H Q ⟨O, ε, ok, q⟩ => ⟨O, ε, ok, by
  unfold flatF at q
  cases hf : f ε with
  | er x => rw [hf] at q; exact q
  | ok d =>
    rw [hf] at q
    intro v H' ext hd
    by_cases hfl : flat d = true
    · simp only [bnd_ok, hfl, if_true] at q
      exact q v H' ext (hd.flat hfl)
    · simp only [bnd_ok, hfl] at q
      exact False.elim q⟩
end

/-! ### names and constants -/
section
variable {X : Cx} {P : Pm}
@[simp] def rdS (i : Nat) : En → M D := fun ε => match ε[i]? with
  | some (.dat d) => .ok d
  | _ => stuck
@[simp] def rdP (i : Nat) : En → M D := fun ε => match ε[i]? with
  | some (.dat d) => .ok d
  | some (.lst ds) => .ok (.list ds)
  | _ => stuck
theorem slotAt {B : Bs} {O : Addr → Prop} {σ : St} {H : Hp} {ε : En} (ok : Ok B O σ H ε) {i : Nat} {s : Sl} (h : ε[i]? = some s) : ∃ ov, σ[i]? = some ov ∧ SlotR B O H s ov := by
  have hi : i < σ.length := by rw [ok.len]; exact (List.getElem?_eq_some_iff.mp h).1
  exact ⟨σ[i], List.getElem?_eq_getElem hi, ok.slot i s _ h (List.getElem?_eq_getElem hi)⟩
theorem dv_S {i : Nat} {e : Expr} (h : PE X e (tVar i)) : PE X e (tS P (rdS i)) := h.wk fun σ H Q ⟨O, ε, ok, q⟩ => by
  unfold rdS at q
  cases hs : ε[i]? with
  | none => rw [hs] at q; exact False.elim q
  | some s =>
    rw [hs] at q
    obtain ⟨ov, ho, hr⟩ := slotAt ok hs
    cases s with
    | un => exact False.elim q
    | adr a => exact False.elim q
    | lst ds => exact False.elim q
    | dic kvs => exact False.elim q
    | scr ns => exact False.elim q
    | dat d =>
      obtain ⟨v, rfl, hd⟩ := hr
      exact ⟨v, ho, q v H (Ext.refl _ _) hd⟩
theorem dv_P {i : Nat} {e : Expr} (h : PE X e (tVar i)) : PE X e (tP P (rdP i)) := h.wk fun σ H Q ⟨O, ε, ok, q⟩ => by
  unfold rdP at q
  cases hs : ε[i]? with
  | none => rw [hs] at q; exact False.elim q
  | some s =>
    rw [hs] at q
    obtain ⟨ov, ho, hr⟩ := slotAt ok hs
    cases s with
    | un => exact False.elim q
    | adr a => exact False.elim q
    | dic kvs => exact False.elim q
    | scr ns => exact False.elim q
    | dat d =>
      obtain ⟨v, rfl, hd⟩ := hr
      exact ⟨v, ho, q v H (Ext.refl _ _) (.inl hd)⟩
    | lst ds =>
      obtain ⟨a, vs, rfl, _, h2, _, h4, h5⟩ := hr
      exact ⟨.ref a, ho, q (.ref a) H (Ext.refl _ _) (.inr ⟨a, vs, ds, rfl, rfl, h2, h4, h5⟩)⟩
/-- a value that is known -/
@[simp] def kn (d : D) : En → M D := fun _ => .ok d
theorem dc {e : Expr} {v : V} {d : D} (h : PE X e (tC v)) (hd : ∀ H, Rp P.b.K H v d) : PE X e (tS P (kn d)) := h.wk fun σ H Q ⟨O, ε, ok, q⟩ => q v H (Ext.refl _ _) (hd _)
theorem dc_int {i j pos} : PE X (.Constant (.int i) j pos) (tS P (kn (.int i))) := dc pe_int fun _ => .int i
theorem dc_bl {b j pos} : PE X (.Constant (.bool b) j pos) (tS P (kn (.bool b))) := dc pe_bl fun _ => .bl b
theorem dc_non {j pos} : PE X (.Constant .none j pos) (tS P (kn .none)) := dc pe_non fun _ => .non
theorem dc_str {x j pos} : PE X (.Constant (.str x) j pos) (tS P (kn (.str x))) := dc pe_str fun _ => .str x
end

/-! ### two operands, one that needs no heap back -/
def opt {α : Type} : Option α → M α
  | some a => .ok a
  | none => stuck
@[simp] theorem opt_some {α : Type} (a : α) : opt (some a) = .ok a := rfl
@[simp] theorem opt_none {α : Type} : opt (none : Option α) = stuck := rfl
@[simp] def f2 (sem : D → D → Option D) (f g : En → M D) : En → M D := fun ε => bnd (f ε) fun x => bnd (g ε) fun y => opt (sem x y)
@[simp] def f1 (sem : D → Option D) (f : En → M D) : En → M D := fun ε => bnd (f ε) fun x => opt (sem x)
def SemF (K : PySem.W.Frag) (r : R2) (sem : D → D → Option D) : Prop := ∀ x y d e z H (Q : VK), Rp K H x d → Rp K H y e → sem d e = some z → (∀ v, (∀ H', Rp K H' v z) → Q v H) → r x y H Q
section
variable {X : Cx} {P : Pm} {a b : Expr} {f g : En → M D} {sem : D → D → Option D} {r : R2} {pos : Pos}
theorem seq2 {σ : St} {H : Hp} {Q : VK} {k : V → V → Hp → Prop} (hs : ∀ x y d e z H', Rp P.b.K H' x d → Rp P.b.K H' y e → sem d e = some z → (∀ v, (∀ H'', Rp P.b.K H'' v z) → Q v H') → k x y H') (h : tS P (f2 sem f g) σ H Q) :
    tQ P f σ H fun x H1 => tQ P g σ H1 fun y H2 => k x y H2 := by
  obtain ⟨O, ε, ok, q⟩ := h
  unfold f2 at q
  refine ⟨O, ε, ok, ?_⟩
  cases hf : f ε with
  | er x => rw [hf] at q; exact q
  | ok d =>
    rw [hf] at q
    intro x H1 e1 hx
    refine ⟨O, ε, ok.more e1, ?_⟩
    cases hg : g ε with
    | er y => rw [bnd_ok, hg] at q; exact q
    | ok e =>
      rw [bnd_ok, hg, bnd_ok] at q
      intro y H2 e2 hy
      cases hz : sem d e with
      | none => rw [hz] at q; exact False.elim q
      | some z =>
        rw [hz] at q
        exact hs x y d e z H2 (hx.more e2).now hy.now hz fun v hv => q v H2 (e1.trans e2) (hv _)
theorem d_op {op : Operator} (ho : OpR X (binaryOp op) r) (hs : SemF P.b.K r sem) (ha : PE X a (tQ P f)) (hb : PE X b (tQ P g)) : PE X (.BinOp a op b pos) (tS P (f2 sem f g)) :=
  (pe_op ho ha hb).wk fun σ H Q h => seq2 (fun x y d e z H' h1 h2 h3 h4 => hs x y d e z H' Q h1 h2 h3 h4) h
theorem d_cmp {op : CmpOp} (ho : OpR X (compareOp op) r) (hs : SemF P.b.K r sem) (ha : PE X a (tQ P f)) (hb : PE X b (tQ P g)) (hm : behindInMarks op b = false) : PE X (.Compare a [op] [b] pos) (tS P (f2 sem f g)) :=
  (pe_cmpR ho ha hb hm).wk fun σ H Q h => seq2 (fun x y d e z H' h1 h2 h3 h4 => hs x y d e z H' Q h1 h2 h3 h4) h
end

/-! ### the meanings -/
def sAdd : D → D → Option D
  | .int i, .int j => some (.int (i + j))
  | _, _ => none
def sSub : D → D → Option D
  | .int i, .int j => some (.int (i - j))
  | _, _ => none
def sMod : D → D → Option D
  | .int i, .int j => if 0 < j then some (.int (i % j)) else none
  | _, _ => none
def sDiv : D → D → Option D
  | .int i, .int j => if 0 < j ∧ j < 36893488147419103232 then some (.int (i / j)) else none
  | _, _ => none
def big : Int := 2 ^ 200
def sMul : D → D → Option D
  | .int i, .int j => if (-18446744073709551616 < i ∧ i < 18446744073709551616) ∨ (-18446744073709551616 < j ∧ j < 18446744073709551616) ∨ (0 ≤ i ∧ i < big ∧ 0 ≤ j ∧ j < big) then some (.int (i * j)) else none
  | _, _ => none
def sPow : D → D → Option D
  | .int i, .int j => if 0 ≤ j ∧ j ≤ 1000 ∧ 0 ≤ i ∧ i < 1000 then some (.int (i ^ j.toNat)) else none
  | _, _ => none
def sLt : D → D → Option D
  | .int i, .int j => some (.bool (decide (i < j)))
  | _, _ => none
def sLe : D → D → Option D
  | .int i, .int j => some (.bool (decide (i ≤ j)))
  | _, _ => none
def sGt : D → D → Option D
  | .int i, .int j => some (.bool (decide (j < i)))
  | _, _ => none
def sGe : D → D → Option D
  | .int i, .int j => some (.bool (decide (j ≤ i)))
  | _, _ => none
def sEq (d e : D) : Option D := if SeqAt.shaped d = true ∧ SeqAt.shaped e = true then some (.bool (PyData.eqv d e)) else none
def sNe (d e : D) : Option D := if SeqAt.shaped d = true ∧ SeqAt.shaped e = true then some (.bool (!PyData.eqv d e)) else none
def isNone : D → Bool
  | .none => true
  | _ => false
def sIs (d e : D) : Option D := if isNone e = true then some (.bool (isNone d)) else none
def sIsNot (d e : D) : Option D := if isNone e = true then some (.bool (!isNone d)) else none
def sIn (d : D) : D → Option D
  | .list ds => if SeqAt.shaped d = true ∧ SeqAt.shaped (.list ds) = true then some (.bool (ds.any fun e => PyData.eqv e d)) else none
  | _ => none
def sNotIn (d : D) : D → Option D
  | .list ds => if SeqAt.shaped d = true ∧ SeqAt.shaped (.list ds) = true then some (.bool (!ds.any fun e => PyData.eqv e d)) else none
  | _ => none

section
variable {K : PySem.W.Frag}
theorem sm_rI0 {g : Int → Int → V} {gd : Int → Int → D} {sem : D → D → Option D} (hg : ∀ i j H, Rp K H (g i j) (gd i j)) (h : ∀ d e z, sem d e = some z → ∃ i j, d = .int i ∧ e = .int j ∧ z = gd i j) : SemF K (rI0 g) sem := by
  intro x y d e z H Q hx hy hz k
  obtain ⟨i, j, rfl, rfl, rfl⟩ := h d e z hz
  cases hx
  cases hy
  exact ⟨i, j, rfl, rfl, k _ fun H' => hg i j H'⟩
theorem sm_rI {C : Int → Int → Prop} {g : Int → Int → V} {gd : Int → Int → D} {sem : D → D → Option D} (hg : ∀ i j H, Rp K H (g i j) (gd i j)) (h : ∀ d e z, sem d e = some z → ∃ i j, d = .int i ∧ e = .int j ∧ C i j ∧ z = gd i j) : SemF K (rI C g) sem := by
  intro x y d e z H Q hx hy hz k
  obtain ⟨i, j, rfl, rfl, hc, rfl⟩ := h d e z hz
  cases hx
  cases hy
  exact ⟨i, j, rfl, rfl, hc, k _ fun H' => hg i j H'⟩
theorem sm_add : SemF K (rI0 fun i j => .int (i + j)) sAdd := sm_rI0 (gd := fun i j => .int (i + j)) (fun i j H => .int _) fun d e z h => by
  unfold sAdd at h
  split at h
  · exact ⟨_, _, rfl, rfl, (Option.some.inj h).symm⟩
  · cases h
theorem sm_sub : SemF K (rI0 fun i j => .int (i - j)) sSub := sm_rI0 (gd := fun i j => .int (i - j)) (fun i j H => .int _) fun d e z h => by
  unfold sSub at h
  split at h
  · exact ⟨_, _, rfl, rfl, (Option.some.inj h).symm⟩
  · cases h
theorem sm_mod : SemF K (rI (fun _ j => 0 < j) fun i j => .int (i % j)) sMod := sm_rI (gd := fun i j => .int (i % j)) (fun i j H => .int _) fun d e z h => by
  unfold sMod at h
  split at h
  · split at h
    · exact ⟨_, _, rfl, rfl, by assumption, (Option.some.inj h).symm⟩
    · cases h
  · cases h
theorem sm_div : SemF K (rI CDivW fun i j => .int (i / j)) sDiv := sm_rI (gd := fun i j => .int (i / j)) (fun i j H => .int _) fun d e z h => by
  unfold sDiv at h
  split at h
  · split at h
    · rename_i i j hc
      refine ⟨_, _, rfl, rfl, wide_div (b := 66) hc.1 ?_ (by decide) (by decide), (Option.some.inj h).symm⟩
      have : (2 : Nat) ^ 66 = 73786976294838206464 := by decide
      omega
    · cases h
  · cases h
theorem sm_mul : SemF K (fun x y H Q => rI CMul (fun i j => .int (i * j)) x y H Q ∨ rI CMulW (fun i j => .int (i * j)) x y H Q) sMul := by
  intro x y d e z H Q hx hy hz k
  unfold sMul at hz
  split at hz
  · split at hz
    · rename_i i j hc
      cases hz
      cases hx
      cases hy
      have e64 : (2 : Int) ^ 64 = 18446744073709551616 := by decide
      rcases hc with hc | hc | hc
      · exact .inl ⟨i, j, rfl, rfl, .inl (by rw [e64]; exact hc), k _ fun H' => .int _⟩
      · exact .inl ⟨i, j, rfl, rfl, .inr (by rw [e64]; exact hc), k _ fun H' => .int _⟩
      · obtain ⟨h1, h2, h3, h4⟩ := hc
        refine .inr ⟨i, j, rfl, rfl, wide_mul (a := 200) (b := 200) ?_ ?_ (by decide) (by decide) (by decide), k _ fun H' => .int _⟩
        · unfold big at h2
          have : ((2 ^ 200 : Nat) : Int) = 2 ^ 200 := by rw [Int.natCast_pow]; rfl
          omega
        · unfold big at h4
          have : ((2 ^ 200 : Nat) : Int) = 2 ^ 200 := by rw [Int.natCast_pow]; rfl
          omega
    · cases hz
  · cases hz
theorem sm_pow : SemF K (rI CPow fun i j => .int (i ^ j.toNat)) sPow := sm_rI (gd := fun i j => .int (i ^ j.toNat)) (fun i j H => .int _) fun d e z h => by
  unfold sPow at h
  split at h
  · split at h
    · rename_i i j hc
      refine ⟨_, _, rfl, rfl, ⟨hc.1, by omega, ?_⟩, (Option.some.inj h).symm⟩
      have : (2 : Nat) ^ 64 = 18446744073709551616 := by decide
      omega
    · cases h
  · cases h
theorem sm_cmp {g : Int → Int → Bool} {sem : D → D → Option D} (h : ∀ d e z, sem d e = some z → ∃ i j, d = .int i ∧ e = .int j ∧ z = .bool (g i j)) : SemF K (rI0 fun i j => .bl (g i j)) sem := sm_rI0 (gd := fun i j => .bool (g i j)) (fun i j H => .bl _) h
theorem sm_lt : SemF K (rI0 fun i j => .bl (decide (i < j))) sLt := sm_cmp fun d e z h => by
  unfold sLt at h
  split at h
  · exact ⟨_, _, rfl, rfl, (Option.some.inj h).symm⟩
  · cases h
theorem sm_le : SemF K (rI0 fun i j => .bl (decide (i ≤ j))) sLe := sm_cmp fun d e z h => by
  unfold sLe at h
  split at h
  · exact ⟨_, _, rfl, rfl, (Option.some.inj h).symm⟩
  · cases h
theorem sm_gt : SemF K (rI0 fun i j => .bl (decide (j < i))) sGt := sm_cmp (g := fun i j => decide (j < i)) fun d e z h => by
  unfold sGt at h
  split at h
  · exact ⟨_, _, rfl, rfl, (Option.some.inj h).symm⟩
  · cases h
theorem sm_ge : SemF K (rI0 fun i j => .bl (decide (j ≤ i))) sGe := sm_cmp (g := fun i j => decide (j ≤ i)) fun d e z h => by
  unfold sGe at h
  split at h
  · exact ⟨_, _, rfl, rfl, (Option.some.inj h).symm⟩
  · cases h
theorem sm_eq : SemF K (rEqD K) sEq := by
  intro x y d e z H Q hx hy hz k
  unfold sEq at hz
  split at hz
  · rename_i hc
    cases hz
    exact ⟨d, e, hx.dp, hy.dp, hc.1, hc.2, k _ fun H' => .bl _⟩
  · cases hz
theorem sm_ne : SemF K (rNeD K) sNe := by
  intro x y d e z H Q hx hy hz k
  unfold sNe at hz
  split at hz
  · rename_i hc
    cases hz
    exact ⟨d, e, hx.dp, hy.dp, hc.1, hc.2, k _ fun H' => .bl _⟩
  · cases hz
theorem isNone_iff {H : Hp} {x : V} {d : D} (h : Rp K H x d) : decide (x = .non) = isNone d := by
  cases h <;> rfl
theorem isNone_e {d : D} (h : isNone d = true) : d = .none := by
  cases d <;> first | rfl | cases h
theorem sm_is : SemF K (fun x y H Q => y = .non ∧ Q (.bl (decide (x = .non))) H) sIs := by
  intro x y d e z H Q hx hy hz k
  unfold sIs at hz
  split at hz
  · rename_i hc
    cases hz
    rw [isNone_e hc] at hy
    cases hy
    refine ⟨rfl, ?_⟩
    rw [isNone_iff hx]
    exact k _ fun H' => .bl _
  · cases hz
theorem sm_isnot : SemF K (fun x y H Q => y = .non ∧ Q (.bl (!decide (x = .non))) H) sIsNot := by
  intro x y d e z H Q hx hy hz k
  unfold sIsNot at hz
  split at hz
  · rename_i hc
    cases hz
    rw [isNone_e hc] at hy
    cases hy
    refine ⟨rfl, ?_⟩
    rw [isNone_iff hx]
    exact k _ fun H' => .bl _
  · cases hz
end
end DL

/-! ## tests, and, or, not, if-expressions, chains, `in` -/
namespace DL
open PySem L2

section
variable {X : Cx} {P : Pm} {a b c e : Expr} {f g h : En → M D} {p q : En → M Bool} {pos : Pos}
def tb : D → Option Bool
  | .bool b => some b
  | _ => none
@[simp] theorem tb_bool (b : Bool) : tb (.bool b) = some b := rfl
theorem tb_eq {d : D} {b : Bool} (h : tb d = some b) : d = .bool b := by
  cases d <;> first | (cases h; rfl) | cases h
@[simp] def tst (f : En → M D) : En → M Bool := fun ε => bnd (f ε) fun d => opt (tb d)
theorem tQ_tst {σ : St} {H : Hp} {Q : Bool → Hp → Prop} (h : tT P (tst f) σ H Q) : tQ P f σ H fun x H1 => ∃ k, x = .bl k ∧ Q k H1 := by
  obtain ⟨O, ε, ok, w⟩ := h
  refine ⟨O, ε, ok, ?_⟩
  unfold tst at w
  cases hf : f ε with
  | er x => rw [hf] at w; exact w
  | ok d =>
    rw [hf, bnd_ok] at w
    intro v H' ext hv
    cases hb : tb d with
    | none => rw [hb] at w; exact False.elim w
    | some k =>
      rw [hb] at w
      rw [tb_eq hb] at hv
      cases hv
      exact ⟨k, rfl, w H' ext⟩
/-- any expression but a comparison, and, or, not, as a test -/
theorem t_val (he : PE X e (tQ P f)) (hz : ∀ whole, isTrue e X.env whole = (do let v ← whole; standAt e.pos; holding [v] (truthy v)) := by intro _; rfl) : PT X e (tT P (tst f)) := (pt_val he hz).wk fun σ H Q w => tQ_tst w
theorem tT_f2 {sem : D → D → Option D} {r : R2} (hs : SemF P.b.K r sem) {σ : St} {H : Hp} {Q : Bool → Hp → Prop} (w : tT P (tst (f2 sem f g)) σ H Q) : tTest (tOp r (tQ P f) (tQ P g)) σ H Q := by
  have w2 := tQ_tst w
  have w3 : tS P (f2 sem f g) σ H fun x H1 => ∃ k, x = .bl k ∧ Q k H1 := by
    obtain ⟨O, ε, ok, w'⟩ := w2
    refine ⟨O, ε, ok, ?_⟩
    cases hf : f2 sem f g ε with
    | er x => rw [hf] at w'; exact w'
    | ok d => rw [hf] at w'; exact fun v H' ext hv => w' v H' ext (Rp_mono (kept_unhide ok.sub) _ _ hv)
  exact seq2 (fun x y d e z H' h1 h2 h3 h4 => hs x y d e z H' _ h1 h2 h3 h4) w3
theorem t_cmp {op : CmpOp} {r : R2} {sem : D → D → Option D} (ho : OpR X (compareOp op) r) (hs : SemF P.b.K r sem) (ha : PE X a (tQ P f)) (hb : PE X b (tQ P g)) (hm : behindInMarks op b = false) : PT X (.Compare a [op] [b] pos) (tT P (tst (f2 sem f g))) :=
  (pt_cmpR ho ha hb hm).wk fun σ H Q w => tT_f2 hs w
@[simp] def notT (p : En → M Bool) : En → M Bool := fun ε => bnd (p ε) fun b => .ok (!b)
theorem t_not (hp : PT X a (tT P p)) : PT X (.UnaryOp .Not a pos) (tT P (notT p)) := (pt_not hp).wk fun σ H Q ⟨O, ε, ok, w⟩ => ⟨O, ε, ok, by
  unfold notT at w
  cases hf : p ε with
  | er x => rw [hf] at w; exact w
  | ok b => rw [hf] at w; exact fun H' ext => w H' ext⟩
@[simp] def andT (p q : En → M Bool) : En → M Bool := fun ε => bnd (p ε) fun b => if b then q ε else .ok false
@[simp] def orT (p q : En → M Bool) : En → M Bool := fun ε => bnd (p ε) fun b => if b then .ok true else q ε
theorem t_and1 (hp : PT X a (tT P p)) : PW X (.BoolOp .And [a] pos) (tT P p) := pw_and1 hp
theorem t_or1 (hp : PT X a (tT P p)) : PW X (.BoolOp .Or [a] pos) (tT P p) := pw_or1 hp
theorem t_and {rest : List Expr} (hp : PT X a (tT P p)) (hq : PW X (.BoolOp .And (b :: rest) pos) (tT P q)) : PW X (.BoolOp .And (a :: b :: rest) pos) (tT P (andT p q)) := (pw_and hp hq).wk fun σ H Q ⟨O, ε, ok, w⟩ => ⟨O, ε, ok, by
  unfold andT at w
  cases hf : p ε with
  | er x => rw [hf] at w; exact w
  | ok k =>
    rw [hf, bnd_ok] at w
    intro H' ext
    cases k with
    | false => exact w H' ext
    | true =>
      refine ⟨O, ε, ok.more ext, ?_⟩
      simp only [if_true] at w
      cases hg : q ε with
      | er x => rw [hg] at w; exact w
      | ok k2 => rw [hg] at w; exact fun H'' ext2 => w H'' (ext.trans ext2)⟩
theorem t_or {rest : List Expr} (hp : PT X a (tT P p)) (hq : PW X (.BoolOp .Or (b :: rest) pos) (tT P q)) : PW X (.BoolOp .Or (a :: b :: rest) pos) (tT P (orT p q)) := (pw_or hp hq).wk fun σ H Q ⟨O, ε, ok, w⟩ => ⟨O, ε, ok, by
  unfold orT at w
  cases hf : p ε with
  | er x => rw [hf] at w; exact w
  | ok k =>
    rw [hf, bnd_ok] at w
    intro H' ext
    cases k with
    | true => exact w H' ext
    | false =>
      refine ⟨O, ε, ok.more ext, ?_⟩
      simp only [Bool.false_eq_true, if_false] at w
      cases hg : q ε with
      | er x => rw [hg] at w; exact w
      | ok k2 => rw [hg] at w; exact fun H'' ext2 => w H'' (ext.trans ext2)⟩
/-- a test of which the value is wanted -/
@[simp] def val (p : En → M Bool) : En → M D := fun ε => bnd (p ε) fun b => .ok (.bool b)

/-! ### and, or, not as values -/
@[simp] def andV (f g : En → M D) : En → M D := fun ε => bnd (f ε) fun d => bnd (opt (tb d)) fun b => if b then g ε else .ok (.bool false)
@[simp] def orV (f g : En → M D) : En → M D := fun ε => bnd (f ε) fun d => bnd (opt (tb d)) fun b => if b then .ok (.bool true) else g ε
@[simp] def notV (f : En → M D) : En → M D := fun ε => bnd (f ε) fun d => bnd (opt (tb d)) fun b => .ok (.bool (!b))
theorem d_one {op : PySem.BoolOp} (hf : PE X a (tS P f)) : PE X (.BoolOp op [a] pos) (tS P f) := pe_one hf
theorem d_and {rest : List Expr} (hf : PE X a (tQ P f)) (hg : PE X (.BoolOp .And (b :: rest) pos) (tS P g)) : PE X (.BoolOp .And (a :: b :: rest) pos) (tS P (andV f g)) := (pe_and hf hg).wk fun σ H Q ⟨O, ε, ok, w⟩ => ⟨O, ε, ok, by
  unfold andV at w
  cases hf : f ε with
  | er x => rw [hf] at w; exact w
  | ok d =>
    rw [hf, bnd_ok] at w
    intro v H' ext hv
    cases hb : tb d with
    | none => rw [hb] at w; exact False.elim w
    | some k =>
      rw [hb] at w
      rw [tb_eq hb] at hv
      cases hv
      refine ⟨k, rfl, ?_⟩
      cases k with
      | false =>
        rw [if_neg Bool.false_ne_true]
        exact w (.bl false) H' ext (.bl false)
      | true =>
        rw [if_pos rfl]
        refine ⟨O, ε, ok.more ext, ?_⟩
        simp only [opt_some, bnd_ok, if_true] at w
        cases hg : g ε with
        | er x => rw [hg] at w; exact w
        | ok k2 => rw [hg] at w; exact fun v H'' ext2 hv => w v H'' (ext.trans ext2) hv⟩
theorem d_or {rest : List Expr} (hf : PE X a (tQ P f)) (hg : PE X (.BoolOp .Or (b :: rest) pos) (tS P g)) : PE X (.BoolOp .Or (a :: b :: rest) pos) (tS P (orV f g)) := (pe_or hf hg).wk fun σ H Q ⟨O, ε, ok, w⟩ => ⟨O, ε, ok, by
  unfold orV at w
  cases hf : f ε with
  | er x => rw [hf] at w; exact w
  | ok d =>
    rw [hf, bnd_ok] at w
    intro v H' ext hv
    cases hb : tb d with
    | none => rw [hb] at w; exact False.elim w
    | some k =>
      rw [hb] at w
      rw [tb_eq hb] at hv
      cases hv
      refine ⟨k, rfl, ?_⟩
      cases k with
      | true =>
        rw [if_pos rfl]
        exact w (.bl true) H' ext (.bl true)
      | false =>
        rw [if_neg Bool.false_ne_true]
        refine ⟨O, ε, ok.more ext, ?_⟩
        simp only [opt_some, bnd_ok, Bool.false_eq_true, if_false] at w
        cases hg : g ε with
        | er x => rw [hg] at w; exact w
        | ok k2 => rw [hg] at w; exact fun v H'' ext2 hv => w v H'' (ext.trans ext2) hv⟩
theorem d_not (hf : PE X a (tQ P f)) : PE X (.UnaryOp .Not a pos) (tS P (notV f)) := (pe_not hf).wk fun σ H Q ⟨O, ε, ok, w⟩ => ⟨O, ε, ok, by
  unfold notV at w
  cases hf : f ε with
  | er x => rw [hf] at w; exact w
  | ok d =>
    rw [hf, bnd_ok] at w
    intro v H' ext hv
    cases hb : tb d with
    | none => rw [hb] at w; exact False.elim w
    | some k =>
      rw [hb] at w
      rw [tb_eq hb] at hv
      cases hv
      exact ⟨k, rfl, w (.bl (!k)) H' ext (.bl _)⟩⟩

/-! ### a if t else b -/
@[simp] def ifE (p : En → M Bool) (f g : En → M D) : En → M D := fun ε => bnd (p ε) fun b => if b then f ε else g ε
theorem d_if (hc : PT X c (tT P p)) (ha : PE X a (tS P f)) (hb : PE X b (tS P g)) : PE X (.IfExp c a b pos) (tS P (ifE p f g)) := (pe_ifExp hc ha hb).wk fun σ H Q ⟨O, ε, ok, w⟩ => ⟨O, ε, ok, by
  unfold ifE at w
  cases hf : p ε with
  | er x => rw [hf] at w; exact w
  | ok k =>
    rw [hf, bnd_ok] at w
    intro H' ext
    cases k with
    | true =>
      rw [if_pos rfl] at w ⊢
      refine ⟨O, ε, ok.more ext, ?_⟩
      cases hg : f ε with
      | er x => rw [hg] at w; exact w
      | ok k2 => rw [hg] at w; exact fun v H'' ext2 hv => w v H'' (ext.trans ext2) hv
    | false =>
      rw [if_neg Bool.false_ne_true] at w ⊢
      refine ⟨O, ε, ok.more ext, ?_⟩
      cases hg : g ε with
      | er x => rw [hg] at w; exact w
      | ok k2 => rw [hg] at w; exact fun v H'' ext2 hv => w v H'' (ext.trans ext2) hv⟩

/-! ### a < b < c -/
@[simp] def ch (s1 s2 : D → D → Option D) (f g h : En → M D) : En → M D := fun ε => bnd (f ε) fun x => bnd (g ε) fun y => bnd (opt (s1 x y)) fun z => bnd (opt (tb z)) fun k =>
  if k then bnd (h ε) fun u => opt (s2 y u) else .ok (.bool false)
theorem ch_seq {r r' : R2} {s1 s2 : D → D → Option D} (hs : SemF P.b.K r s1) (hs' : SemF P.b.K r' s2) {σ : St} {H : Hp} {Q : VK} (w : tS P (ch s1 s2 f g h) σ H Q) : tChain r r' (tQ P f) (tQ P g) (tQ P h) σ H Q := by
  obtain ⟨O, ε, ok, w⟩ := w
  unfold ch at w
  refine ⟨O, ε, ok, ?_⟩
  cases hf : f ε with
  | er x => rw [hf] at w; exact w
  | ok d =>
    rw [hf] at w
    intro x H1 e1 hx
    refine ⟨O, ε, ok.more e1, ?_⟩
    cases hg : g ε with
    | er y => rw [bnd_ok, hg] at w; exact w
    | ok e =>
      rw [bnd_ok, hg, bnd_ok] at w
      intro y H2 e2 hy
      cases hz : s1 d e with
      | none => rw [hz] at w; exact False.elim w
      | some z =>
        rw [hz, opt_some, bnd_ok] at w
        refine hs x y d e z H2 _ (hx.more e2).now hy.now hz fun v hv => ?_
        cases hb : tb z with
        | none => rw [hb] at w; exact False.elim w
        | some k =>
          rw [hb, opt_some, bnd_ok] at w
          have hv' := hv H2
          rw [tb_eq hb] at hv'
          cases hv'
          refine ⟨k, rfl, ?_⟩
          cases k with
          | false =>
            rw [if_neg Bool.false_ne_true] at w ⊢
            exact w (.bl false) H2 (e1.trans e2) (.bl false)
          | true =>
            rw [if_pos rfl] at w ⊢
            refine ⟨O, ε, ok.more (e1.trans e2), ?_⟩
            cases hh : h ε with
            | er x => rw [hh] at w; exact w
            | ok u =>
              rw [hh, bnd_ok] at w
              intro w' H3 e3 hw
              cases hz2 : s2 e u with
              | none => rw [hz2] at w; exact False.elim w
              | some z2 =>
                rw [hz2] at w
                exact hs' y w' e u z2 H3 _ (hy.more e3).now hw.now hz2 fun v hv => w v H3 ((e1.trans e2).trans e3) (hv _)
theorem d_chain {op op' : CmpOp} {r r' : R2} {s1 s2 : D → D → Option D} (ho : OpR X (compareOp op) r) (ho' : OpR X (compareOp op') r') (hs : SemF P.b.K r s1) (hs' : SemF P.b.K r' s2) (ha : PE X a (tQ P f)) (hb : PE X b (tQ P g)) (hc : PE X c (tQ P h)) (hm : lastMarks [op, op'] [b, c] = false := by with_unfolding_all rfl) :
    PE X (.Compare a [op, op'] [b, c] pos) (tS P (ch s1 s2 f g h)) := (pe_chain ho ho' ha hb hc hm).wk fun σ H Q w => ch_seq hs hs' w
theorem t_chain {op op' : CmpOp} {r r' : R2} {s1 s2 : D → D → Option D} (ho : OpR X (compareOp op) r) (ho' : OpR X (compareOp op') r') (hs : SemF P.b.K r s1) (hs' : SemF P.b.K r' s2) (ha : PE X a (tQ P f)) (hb : PE X b (tQ P g)) (hc : PE X c (tQ P h)) (hm : lastMarks [op, op'] [b, c] = false := by with_unfolding_all rfl) :
    PT X (.Compare a [op, op'] [b, c] pos) (tT P (tst (ch s1 s2 f g h))) := (pt_chain ho ho' ha hb hc hm).wk fun σ H Q w => by
  have w2 := tQ_tst w
  refine ch_seq hs hs' ?_
  obtain ⟨O, ε, ok, w'⟩ := w2
  refine ⟨O, ε, ok, ?_⟩
  cases hf : ch s1 s2 f g h ε with
  | er x => rw [hf] at w'; exact w'
  | ok d => rw [hf] at w'; exact fun v H' ext hv => w' v H' ext (Rp_mono (kept_unhide ok.sub) _ _ hv)
end
end DL

/-! ## in, isinstance, built-in functions, indices, slices, displays, + -/
namespace DL
open PySem L2

/-! ### in -/
def sInA (d : D) : D → Option D
  | .list ds => if SeqAt.shaped d = true ∧ SeqAt.shaped (.list ds) = true then some (.bool (ds.any fun e => PyData.eqv e d)) else none
  | .tuple ds => if flat d = true ∧ ds.all flat = true then some (.bool (ds.any fun e => PyData.eqv e d)) else none
  | .str z => match d with
    | .str y => some (.bool (!(Builtin.Str.occurrences z y 0 z.length 1).isEmpty))
    | _ => none
  | _ => none
def sNotInA (d e : D) : Option D := match sInA d e with
  | some (.bool b) => some (.bool (!b))
  | _ => none
abbrev rInA (K : PySem.W.Frag) : R2 := fun x y H Q => rInD K x y H Q ∨ (rIn K false x y H Q ∨ ∃ i j, x = .str i ∧ y = .str j ∧ Q (.bl (!(Builtin.Str.occurrences j i 0 j.length 1).isEmpty)) H)
abbrev rNotInA (K : PySem.W.Frag) : R2 := fun x y H Q => rNotInD K x y H Q ∨ (rIn K true x y H Q ∨ ∃ i j, x = .str i ∧ y = .str j ∧ Q (.bl (!(!(Builtin.Str.occurrences j i 0 j.length 1).isEmpty))) H)
theorem op_inA {X : Cx} (hu : X.A.units + 65 < cLine) : OpR X (compareOp .In) (rInA X.K) := OpR.or (op_inD hu) (OpR.or op_in_seq op_in_str)
theorem op_notInA {X : Cx} (hu : X.A.units + 65 < cLine) : OpR X (compareOp .NotIn) (rNotInA X.K) := OpR.or (op_notInD hu) (OpR.or op_notIn_seq op_notin_str)
theorem flatV_of {K : PySem.W.Frag} {H : Hp} {v : V} {d : D} (h : Rp K H v d) (f : flat d = true) : flatV v = true := by
  cases h <;> first | rfl | (exact (Bool.false_ne_true f).elim)
theorem eqV_of {K : PySem.W.Frag} {H : Hp} {v w : V} {d e : D} (h : Rp K H v d) (h' : Rp K H w e) (f : flat d = true) (f' : flat e = true) : eqV v w = PyData.eqv d e := by
  cases h <;> first
    | (exact (Bool.false_ne_true f).elim)
    | (cases h' <;> first
        | (exact (Bool.false_ne_true f').elim)
        | (simp [eqV, PyData.eqv]))
theorem flats_of {K : PySem.W.Frag} {H : Hp} {v : V} {d : D} (h : Rp K H v d) (f : flat d = true) : ∀ (ds : List D) (vs : List V), RpAll K H vs ds → ds.all flat = true → vs.all flatV = true ∧ inV v vs = ds.any fun e => PyData.eqv e d
  | [], _, hs, _ => by cases hs; exact ⟨rfl, rfl⟩
  | e :: ds, _, hs, fs => by
    cases hs with
    | cons h1 h2 =>
      rw [List.all_cons, Bool.and_eq_true] at fs
      obtain ⟨a1, a2⟩ := flats_of h f ds _ h2 fs.2
      refine ⟨by rw [List.all_cons, flatV_of h1 fs.1, a1]; rfl, ?_⟩
      unfold inV at a2 ⊢
      rw [List.any_cons, List.any_cons, a2, eqV_of h1 h fs.1 f]
theorem sm_inA {K : PySem.W.Frag} : SemF K (rInA K) sInA := by
  intro x y d e z H Q hx hy hz k
  cases hy with
  | lst hs ha =>
    simp only [sInA] at hz
    split at hz
    · rename_i hc
      cases hz
      exact .inl ⟨d, _, hx.dp, (Rp.lst hs ha).dp, hc.1, hc.2, k _ fun H' => .bl _⟩
    · cases hz
  | tup hs ha =>
    simp only [sInA] at hz
    split at hz
    · rename_i hc
      cases hz
      obtain ⟨a1, a2⟩ := flats_of hx hc.1 _ _ ha hc.2
      refine .inr (.inl ⟨_, _, rfl, .inr hs, flatV_of hx hc.1, a1, ?_⟩)
      rw [if_neg Bool.false_ne_true, a2]
      exact k _ fun H' => .bl _
    · cases hz
  | str s =>
    cases hx with
    | str y =>
      simp only [sInA] at hz
      cases hz
      exact .inr (.inr ⟨_, _, rfl, rfl, k _ fun H' => .bl _⟩)
    | _ => simp only [sInA] at hz; cases hz
  | _ => simp only [sInA] at hz; cases hz
theorem sm_notInA {K : PySem.W.Frag} : SemF K (rNotInA K) sNotInA := by
  intro x y d e z H Q hx hy hz k
  unfold sNotInA at hz
  cases hy with
  | lst hs ha =>
    simp only [sInA] at hz
    split at hz
    · rename_i b hb
      cases hz
      split at hb
      · rename_i hc
        cases hb
        exact .inl ⟨d, _, hx.dp, (Rp.lst hs ha).dp, hc.1, hc.2, k _ fun H' => .bl _⟩
      · cases hb
    · cases hz
  | tup hs ha =>
    simp only [sInA] at hz
    split at hz
    · rename_i b hb
      cases hz
      split at hb
      · rename_i hc
        cases hb
        obtain ⟨a1, a2⟩ := flats_of hx hc.1 _ _ ha hc.2
        refine .inr (.inl ⟨_, _, rfl, .inr hs, flatV_of hx hc.1, a1, ?_⟩)
        rw [if_pos rfl, a2]
        exact k _ fun H' => .bl _
      · cases hb
    · cases hz
  | str s =>
    cases hx with
    | str y =>
      simp only [sInA] at hz
      cases hz
      exact .inr (.inr ⟨_, _, rfl, rfl, k _ fun H' => .bl _⟩)
    | _ => simp only [sInA] at hz; cases hz
  | _ => simp only [sInA] at hz; cases hz

/-! ### isinstance of a built-in class -/
def tyN : D → String
  | .none => "NoneType"
  | .bool _ => "bool"
  | .int _ => "int"
  | .str _ => "str"
  | .list _ => "list"
  | .tuple _ => "tuple"
  | .dict _ => "dict"
theorem tyX_of {K : PySem.W.Frag} {H : Hp} {v : V} {d : D} (h : Rp K H v d) : TyX K H v (.type (tyN d)) := by
  cases h with
  | non => exact .base .non
  | bl b => exact .base (.bl b)
  | int i => exact .base (.int i)
  | str x => exact .base (.str x)
  | lst hs ha =>
    rcases hs with hs | ⟨o, hs⟩
    · exact .base (.lst hs)
    · exact .base (.frz hs)
  | tup hs ha =>
    rcases hs with (hs | ⟨o, hs⟩) | ⟨o, its, n, hk, hc, _⟩
    · exact .base (.tup hs)
    · exact .fTuple hs
    · exact .kTuple hk hc
/-- the answers of isinstance, of the classes that data has -/
def isB (T : String) (d : D) : Bool := (kitB (tyN d) T).getD false
def isOkT (T : String) : Bool := (kitB "NoneType" T).isSome && (kitB "bool" T).isSome && (kitB "int" T).isSome && (kitB "str" T).isSome && (kitB "list" T).isSome && (kitB "tuple" T).isSome && (kitB "dict" T).isSome
theorem kit_of_ok {T : String} (h : isOkT T = true) (d : D) : kitB (tyN d) T = some (isB T d) := by
  unfold isOkT at h
  simp only [Bool.and_eq_true] at h
  obtain ⟨⟨⟨⟨⟨⟨h1, h2⟩, h3⟩, h4⟩, h5⟩, h6⟩, h7⟩ := h
  unfold isB
  cases d <;> simp only [tyN] <;> (first
    | (obtain ⟨b, e⟩ := Option.isSome_iff_exists.mp h1; rw [e]; rfl)
    | (obtain ⟨b, e⟩ := Option.isSome_iff_exists.mp h2; rw [e]; rfl)
    | (obtain ⟨b, e⟩ := Option.isSome_iff_exists.mp h3; rw [e]; rfl)
    | (obtain ⟨b, e⟩ := Option.isSome_iff_exists.mp h4; rw [e]; rfl)
    | (obtain ⟨b, e⟩ := Option.isSome_iff_exists.mp h5; rw [e]; rfl)
    | (obtain ⟨b, e⟩ := Option.isSome_iff_exists.mp h6; rw [e]; rfl)
    | (obtain ⟨b, e⟩ := Option.isSome_iff_exists.mp h7; rw [e]; rfl))
def bInt : D → Bool
  | .int _ => true
  | .bool _ => true
  | _ => false
def bBool : D → Bool
  | .bool _ => true
  | _ => false
def bStr : D → Bool
  | .str _ => true
  | _ => false
def bList : D → Bool
  | .list _ => true
  | _ => false
def bTup : D → Bool
  | .tuple _ => true
  | _ => false
def bDict : D → Bool
  | .dict _ => true
  | _ => false
theorem is_int (d : D) : kitB (tyN d) "int" = some (bInt d) := by
  cases d with
  | none => exact (by decide +kernel : kitB "NoneType" "int" = some false)
  | bool _ => exact (by decide +kernel : kitB "bool" "int" = some true)
  | int _ => exact (by decide +kernel : kitB "int" "int" = some true)
  | str _ => exact (by decide +kernel : kitB "str" "int" = some false)
  | list _ => exact (by decide +kernel : kitB "list" "int" = some false)
  | tuple _ => exact (by decide +kernel : kitB "tuple" "int" = some false)
  | dict _ => exact (by decide +kernel : kitB "dict" "int" = some false)
theorem is_bool (d : D) : kitB (tyN d) "bool" = some (bBool d) := by
  cases d with
  | none => exact (by decide +kernel : kitB "NoneType" "bool" = some false)
  | bool _ => exact (by decide +kernel : kitB "bool" "bool" = some true)
  | int _ => exact (by decide +kernel : kitB "int" "bool" = some false)
  | str _ => exact (by decide +kernel : kitB "str" "bool" = some false)
  | list _ => exact (by decide +kernel : kitB "list" "bool" = some false)
  | tuple _ => exact (by decide +kernel : kitB "tuple" "bool" = some false)
  | dict _ => exact (by decide +kernel : kitB "dict" "bool" = some false)
theorem is_str (d : D) : kitB (tyN d) "str" = some (bStr d) := by
  cases d with
  | none => exact (by decide +kernel : kitB "NoneType" "str" = some false)
  | bool _ => exact (by decide +kernel : kitB "bool" "str" = some false)
  | int _ => exact (by decide +kernel : kitB "int" "str" = some false)
  | str _ => exact (by decide +kernel : kitB "str" "str" = some true)
  | list _ => exact (by decide +kernel : kitB "list" "str" = some false)
  | tuple _ => exact (by decide +kernel : kitB "tuple" "str" = some false)
  | dict _ => exact (by decide +kernel : kitB "dict" "str" = some false)
theorem is_list (d : D) : kitB (tyN d) "list" = some (bList d) := by
  cases d with
  | none => exact (by decide +kernel : kitB "NoneType" "list" = some false)
  | bool _ => exact (by decide +kernel : kitB "bool" "list" = some false)
  | int _ => exact (by decide +kernel : kitB "int" "list" = some false)
  | str _ => exact (by decide +kernel : kitB "str" "list" = some false)
  | list _ => exact (by decide +kernel : kitB "list" "list" = some true)
  | tuple _ => exact (by decide +kernel : kitB "tuple" "list" = some false)
  | dict _ => exact (by decide +kernel : kitB "dict" "list" = some false)
theorem is_tup (d : D) : kitB (tyN d) "tuple" = some (bTup d) := by
  cases d with
  | none => exact (by decide +kernel : kitB "NoneType" "tuple" = some false)
  | bool _ => exact (by decide +kernel : kitB "bool" "tuple" = some false)
  | int _ => exact (by decide +kernel : kitB "int" "tuple" = some false)
  | str _ => exact (by decide +kernel : kitB "str" "tuple" = some false)
  | list _ => exact (by decide +kernel : kitB "list" "tuple" = some false)
  | tuple _ => exact (by decide +kernel : kitB "tuple" "tuple" = some true)
  | dict _ => exact (by decide +kernel : kitB "dict" "tuple" = some false)
theorem is_dict (d : D) : kitB (tyN d) "dict" = some (bDict d) := by
  cases d with
  | none => exact (by decide +kernel : kitB "NoneType" "dict" = some false)
  | bool _ => exact (by decide +kernel : kitB "bool" "dict" = some false)
  | int _ => exact (by decide +kernel : kitB "int" "dict" = some false)
  | str _ => exact (by decide +kernel : kitB "str" "dict" = some false)
  | list _ => exact (by decide +kernel : kitB "list" "dict" = some false)
  | tuple _ => exact (by decide +kernel : kitB "tuple" "dict" = some false)
  | dict _ => exact (by decide +kernel : kitB "dict" "dict" = some true)

section
variable {X : Cx} {P : Pm} {a b e : Expr} {f g : En → M D} {pos p : Pos}
@[simp] def isF (b : D → Bool) (f : En → M D) : En → M D := fun ε => bnd (f ε) fun d => .ok (.bool (b d))
theorem d_isi {T : String} {tn : Str} {p2 : Pos} {bT : D → Bool} (hT : ∀ d, kitB (tyN d) T = some (bT d)) (hi : X.mg "isinstance" = none) (ht : X.mg tn = none) (hv : bootBuiltins tn = some (.type T)) (ha : PE X a (tQ P f)) (hK : P.b.K = X.K := by rfl)
    (hg : Gl X "isinstance" := by rfl) (hg2 : Gl X tn := by rfl) (hn : tn ≠ "__name__" := by decide) (hd : (tn == ("__debug__" : Str)) = false := by decide)
    (hst : starEach (a :: [.Name tn p2]) X.env = (false, eval a X.env) :: starEach [.Name tn p2] X.env := by rfl) :
    PE X (.Call (.Name "isinstance" p) [a, .Name tn p2] [] pos) (tS P (isF bT f)) :=
  (pe_callB (id := "isinstance") call_isi hg hi (by decide +kernel) (pa_cons ha (pa_cons (pe_bltn (v := .ty T) hg2 ht hv rfl hn hd) pa_nil) hst) (he := hst)).wk fun σ H Q ⟨O, ε, ok, w⟩ => ⟨O, ε, ok, by
    unfold isF at w
    cases hf : f ε with
    | er x => rw [hf] at w; exact w
    | ok d =>
      rw [hf, bnd_ok] at w
      intro v H' ext hv
      refine ⟨v, .ty T, .type (tyN d), .type T, bT d, rfl, .ty T, ?_, kit_ty (hT d), w (.bl (bT d)) H' ext (.bl _)⟩
      rw [← hK]
      exact tyX_of (QS.now hv)⟩
end

/-! ### a built-in function of one value -/
def SemC (K : PySem.W.Frag) (r : List V → Hp → VK → Prop) (sem : D → Option D) : Prop := ∀ x d z H (Q : VK), Rp K H x d → sem d = some z → (∀ v, (∀ H', Rp K H' v z) → Q v H) → r [x] H Q
theorem seq1 {P : Pm} {f : En → M D} {sem : D → Option D} {σ : St} {H : Hp} {Q : VK} {k : V → Hp → Prop} (hs : ∀ x d z H', Rp P.b.K H' x d → sem d = some z → (∀ v, (∀ H'', Rp P.b.K H'' v z) → Q v H') → k x H') (h : tS P (f1 sem f) σ H Q) : tQ P f σ H k := by
  obtain ⟨O, ε, ok, q⟩ := h
  unfold f1 at q
  refine ⟨O, ε, ok, ?_⟩
  cases hf : f ε with
  | er x => rw [hf] at q; exact q
  | ok d =>
    rw [hf, bnd_ok] at q
    intro x H1 e1 hx
    cases hz : sem d with
    | none => rw [hz] at q; exact False.elim q
    | some z =>
      rw [hz] at q
      exact hs x d z H1 hx.now hz fun v hv => q v H1 e1 (hv _)
section
variable {X : Cx} {P : Pm} {a : Expr} {f : En → M D} {sem : D → Option D} {r : List V → Hp → VK → Prop} {x : Str} {id T : String} {p pos : Pos}
theorem d_call1 (hc : CallR X (.builtin id) r) (hs : SemC P.b.K r sem) (hm : X.mg x = none) (hv : bootBuiltins x = some (.builtin id)) (ha : PE X a (tQ P f)) (hg : Gl X x := by rfl) (hn : x ≠ "__name__" := by decide) (hdb : (x == ("__debug__" : Str)) = false := by decide)
    (hst : starEach [a] X.env = (false, eval a X.env) :: starEach [] X.env := by rfl) : PE X (.Call (.Name x p) [a] [] pos) (tS P (f1 sem f)) :=
  (pe_callB hc hg hm hv (pa_cons ha pa_nil hst) hn hdb (he := hst)).wk fun σ H Q h => seq1 (fun x d z H' h1 h2 h3 => hs x d z H' Q h1 h2 h3) h
theorem d_callT1 (hc : CallR X (.type T) r) (hs : SemC P.b.K r sem) (hm : X.mg x = none) (hv : bootBuiltins x = some (.type T)) (ha : PE X a (tQ P f)) (hg : Gl X x := by rfl) (hn : x ≠ "__name__" := by decide) (hdb : (x == ("__debug__" : Str)) = false := by decide)
    (hst : starEach [a] X.env = (false, eval a X.env) :: starEach [] X.env := by rfl) : PE X (.Call (.Name x p) [a] [] pos) (tS P (f1 sem f)) :=
  (pe_callTy hc hg hm hv (pa_cons ha pa_nil hst) hn hdb (he := hst)).wk fun σ H Q h => seq1 (fun x d z H' h1 h2 h3 => hs x d z H' Q h1 h2 h3) h
end
def sLen : D → Option D
  | .list ds => some (.int ds.length)
  | .tuple ds => some (.int ds.length)
  | .str z => if z.length ≤ sizeLine then some (.int z.length) else none
  | _ => none
def ints? : List D → Option (List Int)
  | [] => some []
  | .int i :: r => (ints? r).map (i :: ·)
  | _ :: _ => none
def bools? : List D → Option (List Bool)
  | [] => some []
  | .bool b :: r => (bools? r).map (b :: ·)
  | _ :: _ => none
@[simp] theorem ints?_map (ns : List Int) : ints? (ns.map PyData.int) = some ns := by
  induction ns with
  | nil => rfl
  | cons n ns ih => simp [ints?, ih]
@[simp] theorem bools?_map (bs : List Bool) : bools? (bs.map PyData.bool) = some bs := by
  induction bs with
  | nil => rfl
  | cons n ns ih => simp [bools?, ih]
theorem ints?_eq : ∀ {ds : List D} {ns : List Int}, ints? ds = some ns → ds = ns.map PyData.int
  | [], ns, h => by simp [ints?] at h; subst h; rfl
  | d :: ds, ns, h => by
    cases d with
    | int i =>
      simp only [ints?, Option.map_eq_some_iff] at h
      obtain ⟨r, h1, rfl⟩ := h
      rw [ints?_eq h1]; rfl
    | _ => simp [ints?] at h
theorem bools?_eq : ∀ {ds : List D} {ns : List Bool}, bools? ds = some ns → ds = ns.map PyData.bool
  | [], ns, h => by simp [bools?] at h; subst h; rfl
  | d :: ds, ns, h => by
    cases d with
    | bool i =>
      simp only [bools?, Option.map_eq_some_iff] at h
      obtain ⟨r, h1, rfl⟩ := h
      rw [bools?_eq h1]; rfl
    | _ => simp [bools?] at h
theorem RpAll.bools {K : PySem.W.Frag} {H : Hp} {vs : List V} {ns : List Bool} (h : RpAll K H vs (ns.map PyData.bool)) : vs = ns.map V.bl := by
  induction ns generalizing vs with
  | nil => cases h; rfl
  | cons n ns ih =>
    cases h with
    | cons h1 h2 => cases h1; rw [ih h2]; rfl
def sAll : D → Option D
  | .list ds => (bools? ds).map fun bs => .bool (bs.all id)
  | _ => none
def sAny : D → Option D
  | .list ds => (bools? ds).map fun bs => .bool (bs.any id)
  | _ => none
def sSum : D → Option D
  | .list ds => (ints? ds).map fun ns => .int ns.sum
  | _ => none
def maxI (n : Int) (ns : List Int) : Int := ns.foldl (fun a b => if a < b then b else a) n
def minI (n : Int) (ns : List Int) : Int := ns.foldl (fun a b => if b < a then b else a) n
theorem maxI_spec : ∀ (ns : List Int) (n : Int), (maxI n ns = n ∨ maxI n ns ∈ ns) ∧ n ≤ maxI n ns ∧ ∀ y ∈ ns, y ≤ maxI n ns
  | [], n => ⟨.inl rfl, Int.le_refl n, fun y h => by cases h⟩
  | m :: ns, n => by
    have ih := maxI_spec ns (if n < m then m else n)
    have e : maxI n (m :: ns) = maxI (if n < m then m else n) ns := rfl
    rw [e]
    obtain ⟨h1, h2, h3⟩ := ih
    refine ⟨?_, ?_, fun y hy => ?_⟩
    · rcases h1 with h1 | h1
      · rw [h1]
        split
        · exact .inr List.mem_cons_self
        · exact .inl rfl
      · exact .inr (List.mem_cons_of_mem _ h1)
    · refine Int.le_trans ?_ h2
      split <;> omega
    · rcases List.mem_cons.mp hy with rfl | hy
      · refine Int.le_trans ?_ h2
        split <;> omega
      · exact h3 y hy
theorem minI_spec : ∀ (ns : List Int) (n : Int), (minI n ns = n ∨ minI n ns ∈ ns) ∧ minI n ns ≤ n ∧ ∀ y ∈ ns, minI n ns ≤ y
  | [], n => ⟨.inl rfl, Int.le_refl n, fun y h => by cases h⟩
  | m :: ns, n => by
    have ih := minI_spec ns (if m < n then m else n)
    have e : minI n (m :: ns) = minI (if m < n then m else n) ns := rfl
    rw [e]
    obtain ⟨h1, h2, h3⟩ := ih
    refine ⟨?_, ?_, fun y hy => ?_⟩
    · rcases h1 with h1 | h1
      · rw [h1]
        split
        · exact .inr List.mem_cons_self
        · exact .inl rfl
      · exact .inr (List.mem_cons_of_mem _ h1)
    · refine Int.le_trans h2 ?_
      split <;> omega
    · rcases List.mem_cons.mp hy with rfl | hy
      · refine Int.le_trans h2 ?_
        split <;> omega
      · exact h3 y hy
def sMax : D → Option D
  | .list ds => match ints? ds with
    | some (n :: ns) => some (.int (maxI n ns))
    | _ => none
  | _ => none
def sMin : D → Option D
  | .list ds => match ints? ds with
    | some (n :: ns) => some (.int (minI n ns))
    | _ => none
  | _ => none
def sInt : D → Option D
  | .bool b => some (.int (if b then 1 else 0))
  | .int i => some (.int i)
  | _ => none
section
variable {K : PySem.W.Frag}
theorem sm_len : SemC K (fun xs H Q => ∃ x n, xs = [x] ∧ LenV K x H n ∧ Q (.int n) H) sLen := by
  intro x d z H Q hx hz k
  cases hx with
  | lst hs ha => cases hz; exact ⟨_, _, rfl, .inl ⟨_, .inl hs, rfl⟩, by rw [ha.len]; exact k _ fun H' => .int _⟩
  | tup hs ha => cases hz; exact ⟨_, _, rfl, .inr ⟨_, hs, rfl⟩, by rw [ha.len]; exact k _ fun H' => .int _⟩
  | str s =>
    simp only [sLen] at hz
    split at hz
    · rename_i hc
      cases hz
      exact ⟨_, _, rfl, ⟨hc, rfl⟩, k _ fun H' => .int _⟩
    · cases hz
  | _ => cases hz
theorem sm_all : SemC K (rAll K) sAll := by
  intro x d z H Q hx hz k
  cases hx with
  | lst hs ha =>
    simp only [sAll, Option.map_eq_some_iff] at hz
    obtain ⟨bs, h1, rfl⟩ := hz
    rw [bools?_eq h1] at ha
    rw [ha.bools] at hs
    exact ⟨_, bs, rfl, .inl hs, k _ fun H' => .bl _⟩
  | _ => cases hz
theorem sm_any : SemC K (rAny K) sAny := by
  intro x d z H Q hx hz k
  cases hx with
  | lst hs ha =>
    simp only [sAny, Option.map_eq_some_iff] at hz
    obtain ⟨bs, h1, rfl⟩ := hz
    rw [bools?_eq h1] at ha
    rw [ha.bools] at hs
    exact ⟨_, bs, rfl, .inl hs, k _ fun H' => .bl _⟩
  | _ => cases hz
theorem sm_sum : SemC K (rSum K) sSum := by
  intro x d z H Q hx hz k
  cases hx with
  | lst hs ha =>
    simp only [sSum, Option.map_eq_some_iff] at hz
    obtain ⟨bs, h1, rfl⟩ := hz
    rw [ints?_eq h1] at ha
    rw [ha.ints] at hs
    exact ⟨_, bs, rfl, .inl hs, k _ fun H' => .int _⟩
  | _ => cases hz
theorem sm_max : SemC K (rMax K) sMax := by
  intro x d z H Q hx hz k
  cases hx with
  | lst hs ha =>
    simp only [sMax] at hz
    split at hz
    · rename_i n ns h1
      cases hz
      rw [ints?_eq h1] at ha
      rw [ha.ints] at hs
      refine ⟨_, n :: ns, rfl, .inl hs, by simp, fun m hm hle => ?_⟩
      obtain ⟨a1, a2, a3⟩ := maxI_spec ns n
      have e : m = maxI n ns := by
        apply Int.le_antisymm
        · rcases List.mem_cons.mp hm with rfl | hm
          · exact a2
          · exact a3 m hm
        · rcases a1 with a1 | a1
          · rw [a1]; exact hle n List.mem_cons_self
          · exact hle _ (List.mem_cons_of_mem _ a1)
      rw [e]
      exact k _ fun H' => .int _
    · cases hz
  | _ => cases hz
theorem sm_min : SemC K (rMin K) sMin := by
  intro x d z H Q hx hz k
  cases hx with
  | lst hs ha =>
    simp only [sMin] at hz
    split at hz
    · rename_i n ns h1
      cases hz
      rw [ints?_eq h1] at ha
      rw [ha.ints] at hs
      refine ⟨_, n :: ns, rfl, .inl hs, by simp, fun m hm hle => ?_⟩
      obtain ⟨a1, a2, a3⟩ := minI_spec ns n
      have e : m = minI n ns := by
        apply Int.le_antisymm
        · rcases a1 with a1 | a1
          · rw [a1]; exact hle n List.mem_cons_self
          · exact hle _ (List.mem_cons_of_mem _ a1)
        · rcases List.mem_cons.mp hm with rfl | hm
          · exact a2
          · exact a3 m hm
      rw [e]
      exact k _ fun H' => .int _
    · cases hz
  | _ => cases hz
theorem sm_int : SemC K (fun xs H Q => (∃ i, xs = [.int i] ∧ Q (.int i) H) ∨ ∃ k, xs = [.bl k] ∧ Q (.int (if k then 1 else 0)) H) sInt := by
  intro x d z H Q hx hz k
  cases hx with
  | int i => cases hz; exact .inl ⟨_, rfl, k _ fun H' => .int _⟩
  | bl b => cases hz; exact .inr ⟨_, rfl, k _ fun H' => .int _⟩
  | _ => cases hz
end
end DL

/-! ## sequences: items, slices, displays, +, *, list, tuple, sorted -/
namespace DL
open PySem L2

/-! ### operations that may make something -/
structure Hid (B : Bs) (O : Addr → Prop) (H : Hp) : Prop where
  sub : ∀ a, B.O0 a → O a
  dom : ∀ a, Nw H a → ¬ O a
theorem Ok.hid {B : Bs} {O : Addr → Prop} {σ : St} {H : Hp} {ε : En} (ok : Ok B O σ H ε) : Hid B O H := ⟨ok.sub, fun _ h => ok.not0 h⟩
def SemS (B : Bs) (r : R2) (sem : D → D → Option D) : Prop := ∀ O H x y d e z (Q : VK), Hid B O H → RS B O H x d → RS B O H y e → sem d e = some z → (∀ v H', Ext B.T H H' → Rp B.K (hide O H') v z → Q v H') → r x y H Q
def SemN (B : Bs) (r : R2) (sem : D → D → Option (List D)) : Prop := ∀ O H x y d e z (Q : VK), Hid B O H → RS B O H x d → RS B O H y e → sem d e = some z → (∀ a vs H', Ext B.T H H' → Nw H a → H' a = some (.lst vs) → RpAll B.K (hide (fun b => O b ∨ b = a) H') vs z → Q (.ref a) H') → r x y H Q
theorem semF_S {B : Bs} {r : R2} {sem : D → D → Option D} (h : SemF B.K r sem) : SemS B r sem := fun O H x y d e z Q hh hx hy hz k => h x y d e z H Q (hx.q hh.sub).now (hy.q hh.sub).now hz fun v hv => k v H (Ext.refl _ _) (hv _)
theorem semN_S {B : Bs} {r : R2} {sem : D → D → Option (List D)} (h : SemN B r sem) : SemS B r fun d e => (sem d e).map PyData.list := fun O H x y d e z Q hh hx hy hz k => by
  simp only [Option.map_eq_some_iff] at hz
  obtain ⟨ds, h1, rfl⟩ := hz
  refine h O H x y d e ds Q hh hx hy h1 fun a vs H' ext hn ha hd => k (.ref a) H' ext (.lst (.inl (hide_some.mpr ⟨hh.dom a hn, ha⟩)) (RpAll_mono (kept_unhide fun b z => .inl z) _ _ hd))
@[simp] def f2N (sem : D → D → Option (List D)) (f g : En → M D) : En → M (List D) := fun ε => bnd (f ε) fun x => bnd (g ε) fun y => opt (sem x y)
section
variable {X : Cx} {P : Pm} {a b : Expr} {f g : En → M D} {r : R2} {pos : Pos}
theorem seqS {sem : D → D → Option D} {σ : St} {H : Hp} {Q : VK} {k : V → V → Hp → Prop}
    (hs : ∀ O x y d e z H', Hid P.b O H' → RS P.b O H' x d → RS P.b O H' y e → sem d e = some z → (∀ v H'', Ext P.b.T H' H'' → Rp P.b.K (hide O H'') v z → Q v H'') → k x y H') (h : tS P (f2 sem f g) σ H Q) :
    tP P f σ H fun x H1 => tP P g σ H1 fun y H2 => k x y H2 := by
  obtain ⟨O, ε, ok, q⟩ := h
  unfold f2 at q
  refine ⟨O, ε, ok, ?_⟩
  cases hf : f ε with
  | er x => rw [hf] at q; exact q
  | ok d =>
    rw [hf] at q
    intro x H1 e1 hx
    refine ⟨O, ε, ok.more e1, ?_⟩
    cases hg : g ε with
    | er y => rw [bnd_ok, hg] at q; exact q
    | ok e =>
      rw [bnd_ok, hg, bnd_ok] at q
      intro y H2 e2 hy
      cases hz : sem d e with
      | none => rw [hz] at q; exact False.elim q
      | some z =>
        rw [hz] at q
        exact hs O x y d e z H2 (ok.more (e1.trans e2)).hid (hx.more e2) hy hz fun v H3 e3 hv => q v H3 ((e1.trans e2).trans e3) hv
theorem seqN {sem : D → D → Option (List D)} {σ : St} {H : Hp} {Q : VK} {k : V → V → Hp → Prop}
    (hs : ∀ O x y d e z H', Hid P.b O H' → RS P.b O H' x d → RS P.b O H' y e → sem d e = some z → (∀ a vs H'', Ext P.b.T H' H'' → Nw H' a → H'' a = some (.lst vs) → RpAll P.b.K (hide (fun b => O b ∨ b = a) H'') vs z → Q (.ref a) H'') → k x y H') (h : tN P (f2N sem f g) σ H Q) :
    tP P f σ H fun x H1 => tP P g σ H1 fun y H2 => k x y H2 := by
  obtain ⟨O, ε, ok, q⟩ := h
  unfold f2N at q
  refine ⟨O, ε, ok, ?_⟩
  cases hf : f ε with
  | er x => rw [hf] at q; exact q
  | ok d =>
    rw [hf] at q
    intro x H1 e1 hx
    refine ⟨O, ε, ok.more e1, ?_⟩
    cases hg : g ε with
    | er y => rw [bnd_ok, hg] at q; exact q
    | ok e =>
      rw [bnd_ok, hg, bnd_ok] at q
      intro y H2 e2 hy
      cases hz : sem d e with
      | none => rw [hz] at q; exact False.elim q
      | some z =>
        rw [hz] at q
        exact hs O x y d e z H2 (ok.more (e1.trans e2)).hid (hx.more e2) hy hz fun a vs H3 e3 hn ha hv => q a vs H3 ((e1.trans e2).trans e3) (hn.back (e1.trans e2).kept) ha hv
theorem d_opS {op : Operator} {sem : D → D → Option D} (ho : OpR X (binaryOp op) r) (hs : SemS P.b r sem) (ha : PE X a (tP P f)) (hb : PE X b (tP P g)) : PE X (.BinOp a op b pos) (tS P (f2 sem f g)) :=
  (pe_op ho ha hb).wk fun σ H Q h => seqS (fun O x y d e z H' => hs O H' x y d e z Q) h
theorem d_opN {op : Operator} {sem : D → D → Option (List D)} (ho : OpR X (binaryOp op) r) (hs : SemN P.b r sem) (ha : PE X a (tP P f)) (hb : PE X b (tP P g)) : PE X (.BinOp a op b pos) (tN P (f2N sem f g)) :=
  (pe_op ho ha hb).wk fun σ H Q h => seqN (fun O x y d e z H' => hs O H' x y d e z Q) h
theorem d_ixS {sem : D → D → Option D} (ho : IxR X r) (hs : SemS P.b r sem) (ha : PE X a (tP P f)) (hb : PE X b (tP P g)) (hp : PlainIx b := by exact fun _ _ => rfl) : PE X (.Subscript a b pos) (tS P (f2 sem f g)) :=
  (pe_ix ho ha hb hp).wk fun σ H Q h => seqS (fun O x y d e z H' => hs O H' x y d e z Q) h
end

/-! ### the heap's new objects -/
section
variable {B : Bs} {O : Addr → Prop} {H : Hp} {vs : List V} {ds : List D}
theorem new_tup {Q : VK} (hh : Hid B O H) (hd : RpAll B.K (hide O H) vs ds) (k : ∀ v H', Ext B.T H H' → Rp B.K (hide O H') v (.tuple ds) → Q v H') {p : Addr} (n : H p = none) : Q (.ref p) (upd H p (.tup vs)) := by
  have e : Ext B.T H (upd H p (.tup vs)) := Ext.tup n
  exact k _ _ e (.tup (.inl (.inl (hide_some.mpr ⟨hh.dom p (.of n), upd_same⟩))) (RpAll_mono e.kept.hide _ _ hd))
theorem new_lst {Q : VK} (hh : Hid B O H) (hd : RpAll B.K (hide O H) vs ds) (hz : vs.length ≤ sizeLine) (k : ∀ a vs H', Ext B.T H H' → Nw H a → H' a = some (.lst vs) → RpAll B.K (hide (fun b => O b ∨ b = a) H') vs ds → Q (.ref a) H') {p : Addr} (n : H p = none) : Q (.ref p) (upd H p (.lst vs)) := by
  have e : Ext B.T H (upd H p (.lst vs)) := Ext.lst n hz
  refine k p vs _ e (.of n) upd_same (RpAll_mono (kept_own e.kept fun a z => ?_) _ _ hd)
  rcases z with z | z
  · exact .inl z
  · exact .inr (by rw [z]; exact .of n)
end
/-- a readable sequence, opened -/
theorem RS.lst {B : Bs} {O : Addr → Prop} {H : Hp} {v : V} {ds : List D} (h : RS B O H v (.list ds)) : ∃ a vs, v = .ref a ∧ Rd H a (.lst vs) ∧ RpAll B.K (hide O H) vs ds := by
  rcases h with h | ⟨a, vs, es, rfl, e, _, ha, hd⟩
  · cases h with
    | lst hs ha =>
      refine ⟨_, _, rfl, ?_, ha⟩
      rcases hs with hs | ⟨o, hs⟩
      · exact .inl (hide_some.mp hs).2
      · exact .inr ⟨o, (hide_some.mp hs).2⟩
  · cases e
    exact ⟨a, vs, rfl, .inl ha, hd⟩
theorem RS.tup {B : Bs} {O : Addr → Prop} {H : Hp} {v : V} {ds : List D} (h : RS B O H v (.tuple ds)) : ∃ a vs, v = .ref a ∧ SqT B.K H a vs ∧ RpAll B.K (hide O H) vs ds := by
  rcases h with h | ⟨a, vs, es, rfl, e, _, ha, hd⟩
  · cases h with
    | tup hs ha =>
      refine ⟨_, _, rfl, ?_, ha⟩
      rcases hs with (hs | ⟨o, hs⟩) | hs
      · exact .inl (.inl (hide_some.mp hs).2)
      · exact .inl (.inr ⟨o, (hide_some.mp hs).2⟩)
      · exact .inr hs
  · cases e
theorem RS.flat {B : Bs} {O : Addr → Prop} {H : Hp} {v : V} {d : D} (h : RS B O H v d) (f : flat d = true) : ∀ H', Rp B.K H' v d := by
  rcases h with h | ⟨a, vs, es, rfl, e, _, ha, hd⟩
  · exact fun H' => h.flat f
  · subst e; cases f

/-! ### an item -/
def sIx : D → D → Option D
  | .list ds, .int i => atI ds i
  | .tuple ds, .int i => atI ds i
  | .str z, .int i => if z.length ≤ sizeLine then (atI z.cps.toList i).map fun c => .str ⟨#[c]⟩ else none
  | _, _ => none
theorem atI_get {K : PySem.W.Frag} {H : Hp} {vs : List V} {ds : List D} (h : RpAll K H vs ds) {i : Int} {d : D} (e : atI ds i = some d) : ∃ v, atI vs i = some v ∧ Rp K H v d := by
  unfold atI at e ⊢
  rw [h.len]
  cases hj : ixN ds.length i with
  | none => rw [hj] at e; cases e
  | some j =>
    rw [hj] at e
    obtain ⟨v, h1, h2⟩ := h.get e
    exact ⟨v, h1, h2⟩
theorem sm_ix {B : Bs} : SemS B (rIx B.K) sIx := by
  intro O H x y d e z Q hh hx hy hz k
  unfold sIx at hz
  split at hz
  · rename_i ds i
    obtain ⟨a, vs, rfl, hr, hd⟩ := hx.lst
    cases hy.flat rfl H
    obtain ⟨v, h1, h2⟩ := atI_get hd hz
    exact .inl ⟨a, vs, i, v, rfl, rfl, .inl hr, h1, k v H (Ext.refl _ _) h2⟩
  · rename_i ds i
    obtain ⟨a, vs, rfl, hr, hd⟩ := hx.tup
    cases hy.flat rfl H
    obtain ⟨v, h1, h2⟩ := atI_get hd hz
    exact .inr (.inl ⟨a, vs, i, v, rfl, rfl, hr, h1, k v H (Ext.refl _ _) h2⟩)
  · rename_i s i
    cases hx.flat rfl H
    cases hy.flat rfl H
    split at hz
    · rename_i hc
      simp only [Option.map_eq_some_iff] at hz
      obtain ⟨c, h1, rfl⟩ := hz
      exact .inr (.inr ⟨s, i, c, rfl, rfl, hc, h1, k _ H (Ext.refl _ _) (.str _)⟩)
    · cases hz
  · cases hz

/-! ### + and * -/
def sPlus : D → D → Option D
  | .int i, .int j => some (.int (i + j))
  | .str x, .str y => if x.length + y.length ≤ sizeLine then some (.str (x ++ y)) else none
  | .list xs, .list ys => if xs.length + ys.length ≤ sizeLine then some (.list (xs ++ ys)) else none
  | .tuple xs, .tuple ys => if xs.length + ys.length ≤ sizeLine then some (.tuple (xs ++ ys)) else none
  | _, _ => none
def sCat : D → D → Option (List D)
  | .list xs, .list ys => if xs.length + ys.length ≤ sizeLine then some (xs ++ ys) else none
  | _, _ => none
def rCatR : R2 := fun x y H Q => ∃ l b xs zs, x = .ref l ∧ y = .ref b ∧ Rd H l (.lst xs) ∧ Rd H b (.lst zs) ∧ xs.length + zs.length ≤ sizeLine ∧ ∀ p, H p = none → Q (.ref p) (upd H p (.lst (xs ++ zs)))
theorem op_catR {X : Cx} : OpR X (binaryOp .Add) rCatR := by
  intro pins s σ H x y v u Q I rx ry h
  obtain ⟨l, b, xs, zs, rfl, rfl, hH, hB, hz, q⟩ := h
  cases rx
  cases ry
  obtain ⟨z, its, n, r, e⟩ : xs.length ≤ sizeLine ∧ ∃ (its : List Value) (n : Nat), Vals xs its ∧ s.heap.get? l = some { cls := .type "list", data := .seq its.toArray n } := hH.ok I.hok
  obtain ⟨z2, its2, n2, r2, e2⟩ : zs.length ≤ sizeLine ∧ ∃ (its : List Value) (n : Nat), Vals zs its ∧ s.heap.get? b = some { cls := .type "list", data := .seq its.toArray n } := hB.ok I.hok
  have hl := r.length
  have hl2 := r2.length
  refine PySem.P.add_list e e2 ?_ (by rw [List.size_toArray, List.size_toArray]; omega)
  have ea : its.toArray ++ its2.toArray = (its ++ its2).toArray := by simp
  rw [ea]
  exact ⟨.ref _, _, I.lnew (t' := s.toks) (r.append r2) (by rw [List.length_append]; omega), rfl, q _ I.fresh⟩
def rRepR : R2 := fun x y H Q => ∃ l k xs, x = .ref l ∧ y = .int k ∧ Rd H l (.lst xs) ∧ -(2 ^ 63) ≤ k ∧ k < 2 ^ 63 ∧ xs.length * k.toNat ≤ sizeLine ∧
  ∀ p, H p = none → Q (.ref p) (upd H p (.lst (List.replicate k.toNat xs).flatten))
open PyProof.Rows in
theorem op_repR {X : Cx} : OpR X (binaryOp .Mult) rRepR := by
  intro pins s σ H x y v u Q I rx ry h
  obtain ⟨l, k, xs, rfl, rfl, hH, h1, h2, hz, q⟩ := h
  cases rx
  obtain ⟨t, rfl⟩ := ry
  obtain ⟨z, its, n, r, e⟩ : xs.length ≤ sizeLine ∧ ∃ (its : List Value) (n : Nat), Vals xs its ∧ s.heap.get? l = some { cls := .type "list", data := .seq its.toArray n } := hH.ok I.hok
  have hl := r.length
  have hlen : its.toArray.size * k.toNat ≤ sizeLine := by rw [List.size_toArray, ← hl]; exact hz
  have hcap : ¬ its.toArray.size * k.toNat > (2 ^ 63 - 1) / 8 := by
    have : (sizeLine : Nat) ≤ (2 ^ 63 - 1) / 8 := by decide
    omega
  have hfit : ¬ (!Builtin.List.listFitsIndex k) = true := by
    rw [fitsIndex_both h1 h2]
    exact Bool.false_ne_true
  have hlong : ¬ Builtin.List.listTooLong (its.toArray.size * k.toNat) = true := by
    rw [notLongL hlen]
    exact Bool.false_ne_true
  have hnew : List.foldl (fun x1 x2 => x1 ++ x2) #[] (List.replicate (if its.toArray.isEmpty = true then 0 else k.toNat) its.toArray) = (List.replicate k.toNat its).flatten.toArray := by
    have f0 : ∀ m : Nat, List.foldl (fun x1 x2 => x1 ++ x2) #[] (List.replicate m its.toArray) = (List.replicate m its).flatten.toArray := fun m => by
      have := foldl_rep its m []
      rw [List.nil_append] at this
      exact this
    rw [f0]
    cases its with
    | nil => simp
    | cons a r' => rw [if_neg (by simp)]
  refine wpAny_binaryOp_repeat_ref (T := "list") (U := "int") (by decide) ⟨_, e, rfl⟩ (fun s' => typeIs_int s' k t) noFill_list_mul F.fills_int_mul F.slot_int_rmul repeat_list F.slot_int_index.lookup
    (call_meets F.slot_int_rmul (typeIs_int s k t) F.entry_int_rmul (F.args_int_rmul_2 _ _) (int___rmul___int_list k t l its.toArray n)
      ⟨e, rfl, ⟨_, e, rfl⟩, call_meets F.slot_list_mul ⟨_, e, rfl⟩ F.entry_list_mul (F.args_list_mul_2 _ _) (AutoListH.list___mul___list_int_3 l its.toArray n k t hfit hcap hlong) ⟨e, ?_⟩⟩)
  rw [hnew]
  exact ⟨.ref _, _, I.lnew (t' := s.toks) (r.rep k.toNat) (by rw [PyProof.Rows.lm_len_rep_flat, Nat.mul_comm]; exact hz), rfl, q _ I.fresh⟩
abbrev rPlus (K : PySem.W.Frag) : R2 := fun x y H Q => rI0 (fun i j => .int (i + j)) x y H Q ∨ ((∃ i j, x = .str i ∧ y = .str j ∧ i.length + j.length ≤ sizeLine ∧ Q (.str (i ++ j)) H) ∨ (rCatR x y H Q ∨ rCatA K x y H Q))
theorem op_plus {X : Cx} : OpR X (binaryOp .Add) (rPlus X.K) := OpR.or op_add (OpR.or op_add_str (OpR.or op_catR op_catA))
theorem sm_cat {B : Bs} : SemN B rCatR sCat := by
  intro O H x y d e z Q hh hx hy hz k
  unfold sCat at hz
  split at hz
  · split at hz
    · rename_i xs ys hc
      cases hz
      obtain ⟨a, vs, rfl, hr, hd⟩ := hx.lst
      obtain ⟨b, ws, rfl, hr2, hd2⟩ := hy.lst
      have hl : vs.length + ws.length ≤ sizeLine := by rw [hd.len, hd2.len]; exact hc
      exact ⟨a, b, vs, ws, rfl, rfl, hr, hr2, hl, fun p hp => new_lst hh (hd.append hd2) (by rw [List.length_append]; exact hl) k hp⟩
    · cases hz
  · cases hz
theorem sm_plus {B : Bs} : SemS B (rPlus B.K) sPlus := by
  intro O H x y d e z Q hh hx hy hz k
  unfold sPlus at hz
  split at hz
  · cases hz
    cases hx.flat rfl H
    cases hy.flat rfl H
    exact .inl ⟨_, _, rfl, rfl, k _ H (Ext.refl _ _) (.int _)⟩
  · split at hz
    · rename_i hc
      cases hz
      cases hx.flat rfl H
      cases hy.flat rfl H
      exact .inr (.inl ⟨_, _, rfl, rfl, hc, k _ H (Ext.refl _ _) (.str _)⟩)
    · cases hz
  · split at hz
    · rename_i xs ys hc
      cases hz
      exact .inr (.inr (.inl (semN_S sm_cat O H x y (.list xs) (.list ys) (.list (xs ++ ys)) Q hh hx hy (by simp [sCat, hc]) k)))
    · cases hz
  · split at hz
    · rename_i xs ys hc
      cases hz
      obtain ⟨a, vs, rfl, hr, hd⟩ := hx.tup
      obtain ⟨b, ws, rfl, hr2, hd2⟩ := hy.tup
      refine .inr (.inr (.inr ⟨a, b, vs, ws, rfl, rfl, hr, hr2, by rw [hd.len, hd2.len]; exact hc, fun e => ?_, fun _ e => ?_, fun _ _ p hp => new_tup hh (hd.append hd2) k hp⟩))
      · subst e
        cases hd
        rcases hy with hy | ⟨_, _, _, _, e, _⟩
        · exact k _ H (Ext.refl _ _) hy
        · cases e
      · subst e
        cases hd2
        rcases hx with hx | ⟨_, _, _, _, e, _⟩
        · rw [List.append_nil] at k
          exact k _ H (Ext.refl _ _) hx
        · cases e
    · cases hz
  · cases hz
def sRep : D → D → Option (List D)
  | .list xs, .int k => if 0 ≤ k ∧ k ≤ 1000 ∧ xs.length ≤ 1000 then some (List.replicate k.toNat xs).flatten else none
  | _, _ => none
theorem RpAll.rep {K : PySem.W.Frag} {H : Hp} {vs : List V} {ds : List D} (h : RpAll K H vs ds) (n : Nat) : RpAll K H (List.replicate n vs).flatten (List.replicate n ds).flatten := by
  induction n with
  | zero => exact .nil
  | succ n ih => rw [List.replicate_succ, List.replicate_succ, List.flatten_cons, List.flatten_cons]; exact h.append ih
theorem sm_rep {B : Bs} : SemN B (fun x y H Q => ∃ l k xs, x = .ref l ∧ y = .int k ∧ Rd H l (.lst xs) ∧ -(2 ^ 63) ≤ k ∧ k < 2 ^ 63 ∧ xs.length * k.toNat ≤ sizeLine ∧ ∀ p, H p = none → Q (.ref p) (upd H p (.lst (List.replicate k.toNat xs).flatten))) sRep := by
  intro O H x y d e z Q hh hx hy hz k
  unfold sRep at hz
  split at hz
  · split at hz
    · rename_i xs n hc
      cases hz
      obtain ⟨a, vs, rfl, hr, hd⟩ := hx.lst
      cases hy.flat rfl H
      have e63 : (2 : Int) ^ 63 = 9223372036854775808 := by decide
      have hlen : vs.length * n.toNat ≤ sizeLine := by
        have h1 : vs.length ≤ 1000 := by rw [hd.len]; exact hc.2.2
        have h2 : n.toNat ≤ 1000 := by omega
        have h3 : vs.length * n.toNat ≤ 1000 * 1000 := Nat.mul_le_mul h1 h2
        have h4 := sizeLine_eq
        omega
      refine ⟨a, n, vs, rfl, rfl, hr, by omega, by omega, hlen, fun p hp => ?_⟩
      refine new_lst hh (hd.rep n.toNat) ?_ k hp
      rw [PyProof.Rows.lm_len_rep_flat, Nat.mul_comm]
      exact hlen
    · cases hz
  · cases hz
end DL

/-! ## slices, displays, list, tuple, sorted -/
namespace DL
open PySem L2

/-! ### the parts of a slice -/
def tO (P : Pm) (f : En → M (Option Int)) : TO := fun σ H Q => ∃ O ε, Ok P.b O σ H ε ∧ match f ε with
  | .ok o => ∀ H', Ext P.b.T H H' → Q o H'
  | .er e => outE P e
theorem _root_.L2.PO.wk {X : Cx} {e : Option Expr} {t t' : TO} (h : PO X e t) (w : ∀ σ H Q, t' σ H Q → t σ H Q) : PO X e t' := ⟨fun pins s σ H Q I q => h.run pins s σ H Q I (w σ H Q q)⟩
def tI : D → Option Int
  | .int i => some i
  | _ => none
@[simp] theorem tI_int (i : Int) : tI (.int i) = some i := rfl
theorem tI_eq {d : D} {i : Int} (h : tI d = some i) : d = .int i := by
  cases d <;> first | (cases h; rfl) | cases h
@[simp] def noP : En → M (Option Int) := fun _ => .ok none
@[simp] def someP (f : En → M D) : En → M (Option Int) := fun ε => bnd (f ε) fun d => bnd (opt (tI d)) fun i => .ok (some i)
section
variable {X : Cx} {P : Pm} {e : Expr} {f : En → M D} {lo hi : Option Expr} {fl fh : En → M (Option Int)} {pos p2 : Pos}
theorem o_none : PO X none (tO P noP) := po_none.wk fun σ H Q ⟨O, ε, ok, w⟩ => w H (Ext.refl _ _)
theorem o_some (h : PE X e (tQ P f)) : PO X (some e) (tO P (someP f)) := (po_some h).wk fun σ H Q ⟨O, ε, ok, w⟩ => ⟨O, ε, ok, by
  unfold someP at w
  cases hf : f ε with
  | er x => rw [hf] at w; exact w
  | ok d =>
    rw [hf, bnd_ok] at w
    intro v H' ext hv
    cases hi : tI d with
    | none => rw [hi] at w; exact False.elim w
    | some i =>
      rw [hi, opt_some, bnd_ok] at w
      rw [tI_eq hi] at hv
      cases hv
      exact ⟨i, rfl, w H' ext⟩⟩
/-- the part of a list -/
def cutL {α : Type} (xs : List α) (lo hi : Option Int) : List α := (xs.drop (HT.sIx xs.length 0 lo)).take (HT.sIx xs.length xs.length hi - HT.sIx xs.length 0 lo)
theorem cutL_V (xs : List V) (lo hi : Option Int) : cutV xs lo hi = cutL xs lo hi := rfl
theorem RpAll.cut {K : PySem.W.Frag} {H : Hp} {vs : List V} {ds : List D} (h : RpAll K H vs ds) (lo hi : Option Int) : RpAll K H (cutV vs lo hi) (cutL ds lo hi) := by
  unfold cutL cutV
  rw [h.len]
  exact (h.drop _).take _
def sCut (d : D) (lo hi : Option Int) : Option D := match d with
  | .list ds => some (.list (cutL ds lo hi))
  | .tuple ds => some (.tuple (cutL ds lo hi))
  | .str z => if z.length ≤ sizeLine then some (.str (cutS z lo hi)) else none
  | _ => none
def sCutN (d : D) (lo hi : Option Int) : Option (List D) := match d with
  | .list ds => some (cutL ds lo hi)
  | _ => none
@[simp] def slF (f : En → M D) (fl fh : En → M (Option Int)) : En → M D := fun ε => bnd (f ε) fun d => bnd (fl ε) fun lo => bnd (fh ε) fun hi => opt (sCut d lo hi)
@[simp] def slN (f : En → M D) (fl fh : En → M (Option Int)) : En → M (List D) := fun ε => bnd (f ε) fun d => bnd (fl ε) fun lo => bnd (fh ε) fun hi => opt (sCutN d lo hi)
def rSlN (K : PySem.W.Frag) : V → Option Int → Option Int → Hp → VK → Prop := fun x lo hi H Q => rSlL K x lo hi H Q ∨ (rSlA K x lo hi H Q ∨ rSlS x lo hi H Q)
theorem sl_any : SlR X (rSlN X.K) := SlR.or sl_list (SlR.or sl_tupA sl_str)
theorem sz_rd {B : Bs} {O : Addr → Prop} {H : Hp} {σ : St} {ε : En} (ok : Ok B O σ H ε) {a : Addr} {xs : List V} (h : Rd H a (.lst xs)) : xs.length ≤ sizeLine := by
  rcases h with h | ⟨o, h⟩
  · exact ok.size a xs (.inl h)
  · exact ok.size a xs (.inr ⟨o, h⟩)
theorem d_slN (he : PE X e (tP P f)) (hl : PO X lo (tO P fl)) (hh : PO X hi (tO P fh)) (hK : P.b.K = X.K := by rfl) : PE X (.Subscript e (.Slice lo hi none p2) pos) (tN P (slN f fl fh)) :=
  (pe_slice sl_any he hl hh).wk fun σ H Q ⟨O, ε, ok, w⟩ => ⟨O, ε, ok, by
    unfold slN at w
    cases hf : f ε with
    | er x => rw [hf] at w; exact w
    | ok d =>
      rw [hf, bnd_ok] at w
      intro v H1 e1 hv
      refine ⟨O, ε, ok.more e1, ?_⟩
      cases h1 : fl ε with
      | er x => rw [h1] at w; exact w
      | ok lo =>
        rw [h1, bnd_ok] at w
        intro H2 e2
        refine ⟨O, ε, ok.more (e1.trans e2), ?_⟩
        cases h2 : fh ε with
        | er x => rw [h2] at w; exact w
        | ok hi =>
          rw [h2, bnd_ok] at w
          intro H3 e3
          have e123 := (e1.trans e2).trans e3
          have ok3 := ok.more e123
          cases d with
          | list ds =>
            simp only [sCutN, opt_some] at w
            obtain ⟨a, vs, rfl, hr, hd⟩ := (hv.more (e2.trans e3)).lst
            refine .inl ⟨a, vs, rfl, by rw [← hK]; exact .inl hr, fun p hp => ?_⟩
            exact new_lst ok3.hid (hd.cut lo hi) (Nat.le_trans (cutV_length _ _ _) (sz_rd ok3 hr)) (fun a vs H' ext hn ha hd => w a vs H' (e123.trans ext) (hn.back e123.kept) ha hd) hp
          | _ => simp only [sCutN, opt_none] at w; exact False.elim w⟩
theorem d_sl (he : PE X e (tP P f)) (hl : PO X lo (tO P fl)) (hh : PO X hi (tO P fh)) (hK : P.b.K = X.K := by rfl) : PE X (.Subscript e (.Slice lo hi none p2) pos) (tS P (slF f fl fh)) :=
  (pe_slice sl_any he hl hh).wk fun σ H Q ⟨O, ε, ok, w⟩ => ⟨O, ε, ok, by
    unfold slF at w
    cases hf : f ε with
    | er x => rw [hf] at w; exact w
    | ok d =>
      rw [hf, bnd_ok] at w
      intro v H1 e1 hv
      refine ⟨O, ε, ok.more e1, ?_⟩
      cases h1 : fl ε with
      | er x => rw [h1] at w; exact w
      | ok lo =>
        rw [h1, bnd_ok] at w
        intro H2 e2
        refine ⟨O, ε, ok.more (e1.trans e2), ?_⟩
        cases h2 : fh ε with
        | er x => rw [h2] at w; exact w
        | ok hi =>
          rw [h2, bnd_ok] at w
          intro H3 e3
          have e123 := (e1.trans e2).trans e3
          have ok3 := ok.more e123
          have hv3 := hv.more (e2.trans e3)
          cases d with
          | list ds =>
            simp only [sCut, opt_some] at w
            obtain ⟨a, vs, rfl, hr, hd⟩ := hv3.lst
            refine .inl ⟨a, vs, rfl, by rw [← hK]; exact .inl hr, fun p hp => ?_⟩
            exact new_lst ok3.hid (hd.cut lo hi) (Nat.le_trans (cutV_length _ _ _) (sz_rd ok3 hr)) (fun a vs H' ext hn ha hd => w _ H' (e123.trans ext) (.lst (.inl (hide_some.mpr ⟨ok3.not0 hn, ha⟩)) (RpAll_mono (kept_unhide fun b z => .inl z) _ _ hd))) hp
          | tuple ds =>
            simp only [sCut, opt_some] at w
            obtain ⟨a, vs, ea, hr, hd⟩ := hv3.tup
            refine .inr (.inl ⟨a, vs, ea, by rw [← hK]; exact hr, fun hw => ?_, fun _ p hp => ?_⟩)
            · rcases hv3 with hv3 | ⟨_, _, _, _, e, _⟩
              · have e : cutL ds lo hi = ds := by
                  unfold cutL
                  rw [← hd.len, hw.1, hw.2, List.drop_zero, hd.len, Nat.sub_zero, List.take_length]
                rw [e] at w
                rw [ea] at hv3
                exact w _ H3 e123 hv3
              · cases e
            · exact new_tup ok3.hid (hd.cut lo hi) (fun v H' ext hd => w v H' (e123.trans ext) hd) hp
          | str z =>
            simp only [sCut] at w
            cases hv3.flat rfl H3
            by_cases hc : z.length ≤ sizeLine
            · rw [if_pos hc] at w
              exact .inr (.inr ⟨z, rfl, hc, w _ H3 e123 (.str _)⟩)
            · rw [if_neg hc] at w
              exact False.elim w
          | _ => simp only [sCut, opt_none] at w; exact False.elim w⟩
/-- xs[::-1] -/
def sRev : D → Option (List D)
  | .list ds => some ds.reverse
  | _ => none
@[simp] def f1N (sem : D → Option (List D)) (f : En → M D) : En → M (List D) := fun ε => bnd (f ε) fun x => opt (sem x)
theorem d_rev {k : Nat} {p1 p2 p3 : Pos} (he : PE X e (tP P f)) (hK : P.b.K = X.K := by rfl) : PE X (.Subscript e (.Slice none none (some (.UnaryOp .USub (.Constant (.int 1) k p1) p2)) p3) pos) (tN P (f1N sRev f)) :=
  (pe_revL he).wk fun σ H Q ⟨O, ε, ok, w⟩ => ⟨O, ε, ok, by
    unfold f1N at w
    cases hf : f ε with
    | er x => rw [hf] at w; exact w
    | ok d =>
      rw [hf, bnd_ok] at w
      intro v H1 e1 hv
      cases d with
      | list ds =>
        simp only [sRev, opt_some] at w
        obtain ⟨a, vs, rfl, hr, hd⟩ := hv.lst
        have ok1 := ok.more e1
        refine ⟨a, vs, rfl, by rw [← hK]; exact .inl hr, fun p hp => ?_⟩
        exact new_lst ok1.hid hd.reverse (by rw [List.length_reverse]; exact sz_rd ok1 hr) (fun a vs H' ext hn ha hd => w a vs H' (e1.trans ext) (hn.back e1.kept) ha hd) hp
      | _ => simp only [sRev, opt_none] at w; exact False.elim w⟩
end

/-! ### arguments, displays -/
section
variable {X : Cx} {P : Pm} {e : Expr} {es : List Expr} {f : En → M D} {fs : En → M (List D)} {pos : Pos}
@[simp] def nilF : En → M (List D) := fun _ => .ok []
@[simp] def consF (f : En → M D) (fs : En → M (List D)) : En → M (List D) := fun ε => bnd (f ε) fun d => bnd (fs ε) fun ds => .ok (d :: ds)
theorem a_nilS : PA X [] (tAS P nilF) := pa_nil.wk fun σ H Q ⟨O, ε, ok, w⟩ => w [] H (Ext.refl _ _) .nil
theorem a_nilQ : PA X [] (tAQ P nilF) := pa_nil.wk fun σ H Q ⟨O, ε, ok, w⟩ => w [] H (Ext.refl _ _) .nil
theorem a_consS (he : PE X e (tS P f)) (hs : PA X es (tAS P fs)) (hst : starEach (e :: es) X.env = (false, eval e X.env) :: starEach es X.env := by rfl) : PA X (e :: es) (tAS P (consF f fs)) :=
  (pa_cons he hs hst).wk fun σ H Q ⟨O, ε, ok, w⟩ => ⟨O, ε, ok, by
    unfold consF at w
    cases hf : f ε with
    | er x => rw [hf] at w; exact w
    | ok d =>
      rw [hf, bnd_ok] at w
      intro v H1 e1 hv
      refine ⟨O, ε, ok.more e1, ?_⟩
      cases h2 : fs ε with
      | er x => rw [h2] at w; exact w
      | ok ds =>
        rw [h2, bnd_ok] at w
        exact fun vs H2 e2 hvs => w _ H2 (e1.trans e2) (.cons (Rp_mono e2.kept.hide _ _ hv) hvs)⟩
theorem a_consQ (he : PE X e (tQ P f)) (hs : PA X es (tAQ P fs)) (hst : starEach (e :: es) X.env = (false, eval e X.env) :: starEach es X.env := by rfl) : PA X (e :: es) (tAQ P (consF f fs)) :=
  (pa_cons he hs hst).wk fun σ H Q ⟨O, ε, ok, w⟩ => ⟨O, ε, ok, by
    unfold consF at w
    cases hf : f ε with
    | er x => rw [hf] at w; exact w
    | ok d =>
      rw [hf, bnd_ok] at w
      intro v H1 e1 hv
      refine ⟨O, ε, ok.more e1, ?_⟩
      cases h2 : fs ε with
      | er x => rw [h2] at w; exact w
      | ok ds =>
        rw [h2, bnd_ok] at w
        exact fun vs H2 e2 hvs => w _ H2 (e1.trans e2) (.cons (Rp_mono e2.kept.hide _ _ hv) hvs)⟩
@[simp] def tupF (n : Nat) (fs : En → M (List D)) : En → M D := fun ε => bnd (fs ε) fun ds => .ok (.tuple ds)
theorem d_tup {k} (hs : PA X es (tAS P fs)) (hl : ∀ ε ds, fs ε = .ok ds → ds.length ≤ 1000) : PE X (.Tuple es k pos) (tS P (tupF 0 fs)) :=
  (pe_tup hs).wk fun σ H Q ⟨O, ε, ok, w⟩ => ⟨O, ε, ok, by
    unfold tupF at w
    cases hf : fs ε with
    | er x => rw [hf] at w; exact w
    | ok ds =>
      rw [hf, bnd_ok] at w
      intro vs H1 e1 hv
      have h1 := hl ε ds hf
      have h2 := sizeLine_eq
      refine ⟨by rw [hv.len]; omega, fun p hp => new_tup (ok.more e1).hid hv (fun v H' ext hd => w v H' (e1.trans ext) hd) hp⟩⟩
theorem d_lst (hs : PA X es (tAS P fs)) (hl : ∀ ε ds, fs ε = .ok ds → ds.length ≤ 1000) : PE X (.List es pos) (tN P fs) :=
  (pe_lst hs).wk fun σ H Q ⟨O, ε, ok, w⟩ => ⟨O, ε, ok, by
    cases hf : fs ε with
    | er x => rw [hf] at w; exact w
    | ok ds =>
      rw [hf] at w
      intro vs H1 e1 hv
      have h1 := hl ε ds hf
      have h2 := sizeLine_eq
      have h3 : vs.length ≤ sizeLine := by rw [hv.len]; omega
      exact ⟨h3, fun p hp => new_lst (ok.more e1).hid hv h3 (fun a vs H' ext hn ha hd => w a vs H' (e1.trans ext) (hn.back e1.kept) ha hd) hp⟩⟩
/-- how many items a display has -/
theorem len_nil {ε : En} {ds : List D} (h : nilF ε = .ok ds) : ds.length = 0 := by cases h; rfl
theorem len_cons {n : Nat} (hs : ∀ ε ds, fs ε = .ok ds → ds.length = n) : ∀ ε ds, consF f fs ε = .ok ds → ds.length = n + 1 := fun ε ds h => by
  unfold consF at h
  cases hf : f ε with
  | er x => rw [hf] at h; cases h
  | ok d =>
    rw [hf, bnd_ok] at h
    cases h2 : fs ε with
    | er x => rw [h2] at h; cases h
    | ok es => rw [h2, bnd_ok] at h; cases h; rw [List.length_cons, hs ε es h2]
/-- an argument list of a known length -/
structure PAn (X : Cx) (P : Pm) (n : Nat) (es : List Expr) (fs : En → M (List D)) : Prop where
  pa : PA X es (tAS P fs)
  ln : ∀ ε ds, fs ε = .ok ds → ds.length = n
theorem an_nil : PAn X P 0 [] nilF := ⟨a_nilS, fun _ _ h => len_nil h⟩
theorem an_cons {n : Nat} (he : PE X e (tS P f)) (hs : PAn X P n es fs) (hst : starEach (e :: es) X.env = (false, eval e X.env) :: starEach es X.env := by rfl) : PAn X P (n + 1) (e :: es) (consF f fs) := ⟨a_consS he hs.pa hst, len_cons hs.ln⟩
theorem d_tupn {k} {n : Nat} (hs : PAn X P n es fs) (hn : n ≤ 1000 := by decide) : PE X (.Tuple es k pos) (tS P (tupF 0 fs)) := d_tup hs.pa fun ε ds h => by rw [hs.ln ε ds h]; exact hn
theorem d_lstn {n : Nat} (hs : PAn X P n es fs) (hn : n ≤ 1000 := by decide) : PE X (.List es pos) (tN P fs) := d_lst hs.pa fun ε ds h => by rw [hs.ln ε ds h]; exact hn
end

/-! ### list(..), tuple(..), sorted(..) of a sequence -/
def SemCN (B : Bs) (r : List V → Hp → VK → Prop) (sem : D → Option (List D)) : Prop := ∀ O H σ ε x d z (Q : VK), Ok B O σ H ε → RS B O H x d → sem d = some z → (∀ a vs H', Ext B.T H H' → Nw H a → H' a = some (.lst vs) → RpAll B.K (hide (fun b => O b ∨ b = a) H') vs z → Q (.ref a) H') → r [x] H Q
def SemCS (B : Bs) (r : List V → Hp → VK → Prop) (sem : D → Option D) : Prop := ∀ O H σ ε x d z (Q : VK), Ok B O σ H ε → RS B O H x d → sem d = some z → (∀ v H', Ext B.T H H' → Rp B.K (hide O H') v z → Q v H') → r [x] H Q
section
variable {X : Cx} {P : Pm} {a : Expr} {f : En → M D} {r : List V → Hp → VK → Prop} {x : Str} {id T : String} {p pos : Pos}
theorem seqCN {sem : D → Option (List D)} {σ : St} {H : Hp} {Q : VK} {t : TE} (ht : ∀ k, tP P f σ H k → t σ H k) (hs : SemCN P.b r sem) (h : tN P (f1N sem f) σ H Q) : t σ H fun x H1 => r [x] H1 Q := by
  obtain ⟨O, ε, ok, w⟩ := h
  refine ht _ ⟨O, ε, ok, ?_⟩
  unfold f1N at w
  cases hf : f ε with
  | er x => rw [hf] at w; exact w
  | ok d =>
    rw [hf, bnd_ok] at w
    intro v H1 e1 hv
    cases hz : sem d with
    | none => rw [hz] at w; exact False.elim w
    | some z =>
      rw [hz] at w
      exact hs O H1 σ ε v d z Q (ok.more e1) hv hz fun a vs H' ext hn ha hd => w a vs H' (e1.trans ext) (hn.back e1.kept) ha hd
theorem seqCS {sem : D → Option D} {σ : St} {H : Hp} {Q : VK} {t : TE} (ht : ∀ k, tP P f σ H k → t σ H k) (hs : SemCS P.b r sem) (h : tS P (f1 sem f) σ H Q) : t σ H fun x H1 => r [x] H1 Q := by
  obtain ⟨O, ε, ok, w⟩ := h
  refine ht _ ⟨O, ε, ok, ?_⟩
  unfold f1 at w
  cases hf : f ε with
  | er x => rw [hf] at w; exact w
  | ok d =>
    rw [hf, bnd_ok] at w
    intro v H1 e1 hv
    cases hz : sem d with
    | none => rw [hz] at w; exact False.elim w
    | some z =>
      rw [hz] at w
      exact hs O H1 σ ε v d z Q (ok.more e1) hv hz fun v H' ext hd => w v H' (e1.trans ext) hd
theorem d_callTN {sem : D → Option (List D)} (hc : CallR X (.type T) r) (hs : SemCN P.b r sem) (hm : X.mg x = none) (hv : bootBuiltins x = some (.type T)) (ha : PE X a (tP P f)) (hg : Gl X x := by rfl) (hn : x ≠ "__name__" := by decide) (hdb : (x == ("__debug__" : Str)) = false := by decide)
    (hst : starEach [a] X.env = (false, eval a X.env) :: starEach [] X.env := by rfl) : PE X (.Call (.Name x p) [a] [] pos) (tN P (f1N sem f)) :=
  (pe_callTy hc hg hm hv (pa_cons ha pa_nil hst) hn hdb (he := hst)).wk fun σ H Q h => seqCN (t := tP P f) (fun _ z => z) hs h
theorem d_callBN {sem : D → Option (List D)} (hc : CallR X (.builtin id) r) (hs : SemCN P.b r sem) (hm : X.mg x = none) (hv : bootBuiltins x = some (.builtin id)) (ha : PE X a (tP P f)) (hg : Gl X x := by rfl) (hn : x ≠ "__name__" := by decide) (hdb : (x == ("__debug__" : Str)) = false := by decide)
    (hst : starEach [a] X.env = (false, eval a X.env) :: starEach [] X.env := by rfl) : PE X (.Call (.Name x p) [a] [] pos) (tN P (f1N sem f)) :=
  (pe_callB hc hg hm hv (pa_cons ha pa_nil hst) hn hdb (he := hst)).wk fun σ H Q h => seqCN (t := tP P f) (fun _ z => z) hs h
theorem d_callTS {sem : D → Option D} (hc : CallR X (.type T) r) (hs : SemCS P.b r sem) (hm : X.mg x = none) (hv : bootBuiltins x = some (.type T)) (ha : PE X a (tP P f)) (hg : Gl X x := by rfl) (hn : x ≠ "__name__" := by decide) (hdb : (x == ("__debug__" : Str)) = false := by decide)
    (hst : starEach [a] X.env = (false, eval a X.env) :: starEach [] X.env := by rfl) : PE X (.Call (.Name x p) [a] [] pos) (tS P (f1 sem f)) :=
  (pe_callTy hc hg hm hv (pa_cons ha pa_nil hst) hn hdb (he := hst)).wk fun σ H Q h => seqCS (t := tP P f) (fun _ z => z) hs h
end
def sList : D → Option (List D)
  | .list ds => some ds
  | .tuple ds => if ds.length ≤ 1000 then some ds else none
  | _ => none
def sTuple : D → Option D
  | .list ds => some (.tuple ds)
  | .tuple ds => some (.tuple ds)
  | _ => none
/-- ints in order -/
def sortI (ns : List Int) : List Int := ns.mergeSort fun a b => decide (a ≤ b)
theorem sortI_perm (ns : List Int) : (sortI ns).Perm ns := List.mergeSort_perm _ _
theorem sortI_sorted (ns : List Int) : (sortI ns).Pairwise (· ≤ ·) := by
  have h := List.pairwise_mergeSort (le := fun a b : Int => decide (a ≤ b)) (fun a b c h1 h2 => by simp at *; omega) (fun a b => by simp; omega) ns
  exact h.imp fun h => by simpa using h
theorem sorted_unique {xs ys : List Int} (h : xs.Perm ys) (hx : xs.Pairwise (· ≤ ·)) (hy : ys.Pairwise (· ≤ ·)) : xs = ys := h.eq_of_pairwise (fun a b _ _ h1 h2 => Int.le_antisymm h1 h2) hx hy
def sSorted : D → Option (List D)
  | .list ds => (ints? ds).map fun ns => (sortI ns).map PyData.int
  | _ => none
section
variable {B : Bs}
theorem sm_list : SemCN B (fun xs H Q => ∃ p ys, xs = [.ref p] ∧ (SqL B.K H p ys ∨ SqT B.K H p ys) ∧ ∀ l, H l = none → Q (.ref l) (upd H l (.lst ys))) sList := by
  intro O H σ ε x d z Q ok hx hz k
  unfold sList at hz
  split at hz
  · cases hz
    obtain ⟨a, vs, rfl, hr, hd⟩ := hx.lst
    exact ⟨a, vs, rfl, .inl (.inl hr), fun p hp => new_lst ok.hid hd (sz_rd ok hr) k hp⟩
  · split at hz
    · rename_i hc
      cases hz
      obtain ⟨a, vs, rfl, hr, hd⟩ := hx.tup
      have h2 := sizeLine_eq
      exact ⟨a, vs, rfl, .inr hr, fun p hp => new_lst ok.hid hd (by rw [hd.len]; omega) k hp⟩
    · cases hz
  · cases hz
theorem sm_tuple : SemCS B (fun xs H Q => ∃ p ys, xs = [.ref p] ∧ ((SqL B.K H p ys ∧ ∀ l, H l = none → Q (.ref l) (upd H l (.tup ys))) ∨ (SqT B.K H p ys ∧ Q (.ref p) H))) sTuple := by
  intro O H σ ε x d z Q ok hx hz k
  unfold sTuple at hz
  split at hz
  · cases hz
    obtain ⟨a, vs, rfl, hr, hd⟩ := hx.lst
    exact ⟨a, vs, rfl, .inl ⟨.inl hr, fun p hp => new_tup ok.hid hd k hp⟩⟩
  · cases hz
    obtain ⟨a, vs, ea, hr, hd⟩ := hx.tup
    rcases hx with hx | ⟨_, _, _, _, e, _⟩
    · rw [ea] at hx
      subst ea
      exact ⟨a, vs, rfl, .inr ⟨hr, k _ H (Ext.refl _ _) hx⟩⟩
    · cases e
  · cases hz
theorem sm_sorted : SemCN B (rSortedI B.K) sSorted := by
  intro O H σ ε x d z Q ok hx hz k
  unfold sSorted at hz
  split at hz
  · simp only [Option.map_eq_some_iff] at hz
    obtain ⟨ns, h1, rfl⟩ := hz
    obtain ⟨a, vs, rfl, hr, hd⟩ := hx.lst
    rw [ints?_eq h1] at hd
    have hv := hd.ints
    subst hv
    refine ⟨a, ns, rfl, .inl hr, fun ns' p hp hs hn => ?_⟩
    have e : ns' = sortI ns := sorted_unique (hp.trans (sortI_perm ns).symm) hs (sortI_sorted ns)
    subst e
    have hz := sz_rd ok hr
    rw [List.length_map] at hz
    exact new_lst ok.hid (RpAll.ofInts _) (by rw [List.length_map, (sortI_perm ns).length_eq]; exact hz) k hn
  · cases hz
end
end DL

/-! ## what is walked; targets; comprehensions -/
namespace DL
open PySem L2

theorem _root_.L2.PI.wk {X : Cx} {tg iter : Expr} {t t' : TI} (h : PI X tg iter t) (w : ∀ σ H R, t' σ H R → t σ H R) : PI X tg iter t' := ⟨fun pins s σ H R I q => h.run pins s σ H R I (w σ H R q)⟩

/-- how a walk of data goes: O, H1: what was hidden and the heap as it began -/
structure Wk (B : Bs) (fu : Bool) (O : Addr → Prop) (H1 : Hp) (ds : List D) (J : It) : Prop where
  size : ds.length ≤ sizeLine
  walk : ∃ (G : Hp → Prop) (Y : Nat → Hp → V → Hp → Prop), Walk J ds.length G Y ∧ (∀ H', (fu = true → Kept H1 H') → Kept (hide O H1) H' → G H') ∧
    ∀ (i : Nat) (d : D) (Oc : Addr → Prop) (Hc : Hp) (x : V) (H' : Hp), ds[i]? = some d → (∀ a, Nw Hc a → ¬ Oc a) → (fu = true → ∀ a, O a → Oc a) → Kept (hide O H1) (hide Oc Hc) → Y i Hc x H' → Ext B.T Hc H' ∧ Rp B.K (hide Oc H') x d
/-- fu: all that stood is kept through the walk -/
def tIt (P : Pm) (fu : Bool) (it : En → M (List D)) : TI := fun σ H R => ∃ O ε, Ok P.b O σ H ε ∧ match it ε with
  | .ok ds => ∀ J H1, Ext P.b.T H H1 → Wk P.b fu O H1 ds J → R J H1
  | .er e => outE P e

section
variable {X : Cx} {P : Pm} {fu : Bool} {l e e2 tg : Expr} {f g : En → M D} {p pos : Pos}
/-- a list or a tuple, walked -/
def iSeq (K : PySem.W.Frag) (tl : TE) : TI := fun σ H R => tl σ H fun x H1 => ∃ a, x = .ref a ∧ (((∃ xs, SqL K H1 a xs) ∧ R (Itl K a) H1) ∨ ((∃ xs, SqT K H1 a xs) ∧ R (Itt K a) H1))
theorem pi_seq {tl : TE} (hl : PE X l tl) : PI X tg l (iSeq X.K tl) := by
  refine ⟨fun pins s σ H R I h => ?_⟩
  refine thn (hl.run pins s σ H _ I h) fun v s1 ⟨x, H1, I1, r1, q1⟩ => ?_
  obtain ⟨a, e, q1⟩ := q1
  subst e
  cases r1
  rcases q1 with ⟨⟨xs, hq⟩, q⟩ | ⟨⟨xs, hq⟩, q⟩
  · obtain ⟨its, rv, p, hz⟩ := I1.list hq
    refine wpAny_pyIter_list p.isList ?_
    refine ⟨s1.heap.objs.size, [s1.heap.objs.size], _, _, H1, rfl, I1.kept (t' := s1.toks) fun b o e => Heap.get?_push_of_some _ e, turn_list a _, ⟨_, Heap.get?_push_size _ rfl, rfl, rfl⟩, fun b hb => ?_, q⟩
    have e : b = s1.heap.objs.size := by simpa using hb
    subst e
    exact I1.fpOk (Nat.le_refl _) (I1.hok.fresh (Nat.le_refl _))
  · obtain ⟨its, rv, p, hz⟩ := I1.tuple hq
    refine wpAny_pyIter_tuple (show s1.heap.IsTuple a its.toArray from p) ?_
    refine ⟨s1.heap.objs.size, [s1.heap.objs.size], _, _, H1, rfl, I1.kept (t' := s1.toks) fun b o e => Heap.get?_push_of_some _ e, turn_tuple a _, ⟨_, Heap.get?_push_size _ rfl, rfl, rfl⟩, fun b hb => ?_, q⟩
    have e : b = s1.heap.objs.size := by simpa using hb
    subst e
    exact I1.fpOk (Nat.le_refl _) (I1.hok.fresh (Nat.le_refl _))
def items : D → Option (List D)
  | .list ds => some ds
  | .tuple ds => if ds.length ≤ 1000 then some ds else none
  | _ => none
@[simp] def itF (f : En → M D) : En → M (List D) := fun ε => bnd (f ε) fun d => opt (items d)
theorem rd_kept {H H' : Hp} (k : Kept H H') {a : Addr} {xs : List V} (h : Rd H a (.lst xs)) : Rd H' a (.lst xs) := by
  rcases h with h | ⟨o, h⟩
  · exact .inl (k _ _ h fun _ z => by cases z)
  · exact .inr ⟨o, k _ _ h fun _ z => by cases z⟩
theorem rd_hide {O : Addr → Prop} {H : Hp} {a : Addr} {xs : List V} (h : Rd (hide O H) a (.lst xs)) : Rd H a (.lst xs) := rd_kept kept_hide0 h
theorem sqT_kept {K : PySem.W.Frag} {H H' : Hp} (k : Kept H H') {a : Addr} {xs : List V} (h : SqT K H a xs) : SqT K H' a xs := by
  rcases h with (h | ⟨o, h⟩) | h
  · exact .inl (.inl (k _ _ h fun _ z => by cases z))
  · exact .inl (.inr ⟨o, k _ _ h fun _ z => by cases z⟩)
  · exact .inr h
theorem wk_list {B : Bs} {fu : Bool} {O : Addr → Prop} {H1 : Hp} {a : Addr} {vs : List V} {ds : List D} (hr : Rd (hide O H1) a (.lst vs)) (hd : RpAll B.K (hide O H1) vs ds) (hz : ds.length ≤ sizeLine) : Wk B fu O H1 ds (Itl B.K a) := by
  refine ⟨hz, fun H => SqL B.K H a vs, YAt vs, by rw [← hd.len]; exact walk_list, fun H' _ k => .inl (rd_kept k hr), fun i d Oc Hc x H' hi _ _ k y => ?_⟩
  obtain ⟨e, hx⟩ := y
  subst e
  refine ⟨Ext.refl _ _, ?_⟩
  obtain ⟨d', h1, h2⟩ := hd.get' hx
  rw [h1] at hi
  cases hi
  exact Rp_mono k _ _ h2
theorem wk_tup {B : Bs} {fu : Bool} {O : Addr → Prop} {H1 : Hp} {a : Addr} {vs : List V} {ds : List D} (hr : SqT B.K (hide O H1) a vs) (hd : RpAll B.K (hide O H1) vs ds) (hz : ds.length ≤ sizeLine) : Wk B fu O H1 ds (Itt B.K a) := by
  refine ⟨hz, fun H => SqT B.K H a vs, YAt vs, by rw [← hd.len]; exact walk_tup, fun H' _ k => sqT_kept k hr, fun i d Oc Hc x H' hi _ _ k y => ?_⟩
  obtain ⟨e, hx⟩ := y
  subst e
  refine ⟨Ext.refl _ _, ?_⟩
  obtain ⟨d', h1, h2⟩ := hd.get' hx
  rw [h1] at hi
  cases hi
  exact Rp_mono k _ _ h2
theorem i_seq (he : PE X l (tS P f)) (hK : P.b.K = X.K := by rfl) : PI X tg l (tIt P fu (itF f)) := (pi_seq he).wk fun σ H R ⟨O, ε, ok, w⟩ => ⟨O, ε, ok, by
  unfold itF at w
  cases hf : f ε with
  | er x => rw [hf] at w; exact w
  | ok d =>
    rw [hf, bnd_ok] at w
    intro v H1 e1 hv
    rw [← hK]
    cases hz : items d with
    | none => rw [hz] at w; exact False.elim w
    | some ds =>
      rw [hz, opt_some] at w
      unfold items at hz
      cases hv with
      | lst hs ha =>
        cases hz
        refine ⟨_, rfl, .inl ⟨⟨_, .inl (rd_hide hs)⟩, w _ H1 e1 (wk_list hs ha ?_)⟩⟩
        rw [← ha.len]
        exact sz_rd (ok.more e1) (rd_hide hs)
      | tup hs ha =>
        simp only at hz
        split at hz
        · rename_i hc
          cases hz
          have h2 := sizeLine_eq
          exact ⟨_, rfl, .inr ⟨⟨_, sqT_kept kept_hide0 hs⟩, w _ H1 e1 (wk_tup hs ha (by omega))⟩⟩
        · cases hz
      | _ => cases hz⟩

/-! ### ranges -/
def rng (a b : Int) : List D := (List.range (b - a).toNat).map fun (i : Nat) => PyData.int (a + (i : Int))
theorem rng_len (a b : Int) : (rng a b).length = (b - a).toNat := by simp [rng]
theorem wk_rng {B : Bs} {fu : Bool} {O : Addr → Prop} {H1 : Hp} {a b : Int} (hz : (b - a).toNat ≤ sizeLine) : Wk B fu O H1 (rng a b) (Itr a (b - a).toNat) := by
  refine ⟨by rw [rng_len]; exact hz, fun _ => True, YFn fun i => .int (a + i), by rw [rng_len]; exact walk_range, fun _ _ _ => trivial, fun i d Oc Hc x H' hi _ _ k y => ?_⟩
  obtain ⟨e, hx⟩ := y
  subst e hx
  refine ⟨Ext.refl _ _, ?_⟩
  have hlt : i < (b - a).toNat := by
    have := (List.getElem?_eq_some_iff.mp hi).1
    rw [rng_len] at this
    exact this
  unfold rng at hi
  rw [List.getElem?_map, List.getElem?_range hlt] at hi
  cases hi
  exact .int _
def lim : Int := 1000000
def sR1 : D → Option (List D)
  | .int n => if n ≤ 1000000 ∧ -1000000 ≤ n then some (rng 0 n) else none
  | _ => none
def sR2 : D → D → Option (List D)
  | .int a, .int b => if (-1000000 ≤ a ∧ a ≤ 1000000) ∧ (-1000000 ≤ b ∧ b ≤ 1000000) then some (rng a b) else none
  | _, _ => none
theorem i_rng1 (hm : X.mg "range" = none) (he : PE X e (tQ P f)) (hg : Gl X "range" := by rfl) (hst : starEach [e] X.env = (false, eval e X.env) :: starEach [] X.env := by rfl) : PI X tg (.Call (.Name "range" p) [e] [] pos) (tIt P fu (f1N sR1 f)) :=
  (pi_range1 hg hm (pa_cons he pa_nil hst) (by rw [hst]; rfl)).wk fun σ H R ⟨O, ε, ok, w⟩ => ⟨O, ε, ok, by
    unfold f1N at w
    cases hf : f ε with
    | er x => rw [hf] at w; exact w
    | ok d =>
      rw [hf, bnd_ok] at w
      intro v H1 e1 hv
      cases hz : sR1 d with
      | none => rw [hz] at w; exact False.elim w
      | some ds =>
        rw [hz, opt_some] at w
        unfold sR1 at hz
        split at hz
        · split at hz
          · rename_i n hc
            cases hz
            cases hv
            have e62 : (2 : Int) ^ 62 = 4611686018427387904 := by decide
            have h2 := sizeLine_eq
            have w2 := w (Itr 0 (n - 0).toNat) H1 e1 (wk_rng (by omega))
            rw [Int.sub_zero] at w2
            exact ⟨n, rfl, by omega, by omega, w2⟩
          · cases hz
        · cases hz⟩
theorem i_rng2 (hm : X.mg "range" = none) (he : PE X e (tQ P f)) (he2 : PE X e2 (tQ P g)) (hg : Gl X "range" := by rfl) (hst : starEach [e, e2] X.env = (false, eval e X.env) :: starEach [e2] X.env := by rfl) (hst2 : starEach [e2] X.env = (false, eval e2 X.env) :: starEach [] X.env := by rfl) :
    PI X tg (.Call (.Name "range" p) [e, e2] [] pos) (tIt P fu (f2N sR2 f g)) :=
  (pi_range2 hg hm (pa_cons he (pa_cons he2 pa_nil hst2) hst) (by rw [hst, hst2]; rfl) (by rw [hst2]; rfl)).wk fun σ H R ⟨O, ε, ok, w⟩ => ⟨O, ε, ok, by
    unfold f2N at w
    cases hf : f ε with
    | er x => rw [hf] at w; exact w
    | ok d =>
      rw [hf, bnd_ok] at w
      intro v H1 e1 hv
      refine ⟨O, ε, ok.more e1, ?_⟩
      cases hg : g ε with
      | er x => rw [hg] at w; exact w
      | ok d2 =>
        rw [hg, bnd_ok] at w
        intro v2 H2 e2 hv2
        cases hz : sR2 d d2 with
        | none => rw [hz] at w; exact False.elim w
        | some ds =>
          rw [hz, opt_some] at w
          unfold sR2 at hz
          split at hz
          · split at hz
            · rename_i a b hc
              cases hz
              cases hv
              cases hv2
              have e62 : (2 : Int) ^ 62 = 4611686018427387904 := by decide
              have h2 := sizeLine_eq
              exact ⟨_, _, rfl, ⟨by omega, by omega, by omega, by omega⟩, w _ H2 (e1.trans e2) (wk_rng (by omega))⟩
            · cases hz
          · cases hz⟩

/-! ### enumerate, zip -/
def enumD (ds : List D) : List D := ds.zipIdx.map fun p => .tuple [.int (p.2 : Int), p.1]
def sEnum : D → Option (List D)
  | .list ds => some (enumD ds)
  | _ => none
def zipD (ds es : List D) : List D := List.zipWith (fun a b => .tuple [a, b]) ds es
def sZip : D → D → Option (List D)
  | .list ds, .list es => some (zipD ds es)
  | _, _ => none
theorem pair_at {B : Bs} {Oc : Addr → Prop} {Hc H' : Hp} {xs ys : Nat → Option V} {i : Nat} {v : V} {d1 d2 : D} (hO : ∀ a, Nw Hc a → ¬ Oc a) (y : YPair xs ys i Hc v H') (h1 : ∀ x, xs i = some x → Rp B.K (hide Oc Hc) x d1) (h2 : ∀ x, ys i = some x → Rp B.K (hide Oc Hc) x d2) :
    Ext B.T Hc H' ∧ Rp B.K (hide Oc H') v (.tuple [d1, d2]) := by
  obtain ⟨T, x, y, rfl, n, rfl, hx, hy⟩ := y
  have e : Ext B.T Hc (upd Hc T (.tup [x, y])) := Ext.tup n
  refine ⟨e, .tup (.inl (.inl (hide_some.mpr ⟨hO T (.of n), upd_same⟩))) ?_⟩
  exact .cons (Rp_mono e.kept.hide _ _ (h1 x hx)) (.cons (Rp_mono e.kept.hide _ _ (h2 y hy)) .nil)
theorem wk_enum {B : Bs} {fu : Bool} {O : Addr → Prop} {H1 : Hp} {a : Addr} {vs : List V} {ds : List D} (hr : Rd (hide O H1) a (.lst vs)) (hd : RpAll B.K (hide O H1) vs ds) (hz : ds.length ≤ sizeLine) : Wk B fu O H1 (enumD ds) (Ite B.K a) := by
  have hl : (enumD ds).length = vs.length := by simp [enumD, hd.len]
  refine ⟨by rw [hl, hd.len]; exact hz, fun H => SqL B.K H a vs, YPair (fun i => some (.int (i : Nat))) (fun i => vs[i]?), by rw [hl]; exact walk_enum, fun H' _ k => .inl (rd_kept k hr), fun i d Oc Hc x H' hi hO _ k y => ?_⟩
  unfold enumD at hi
  rw [List.getElem?_map, List.getElem?_zipIdx] at hi
  cases he : ds[i]? with
  | none => rw [he] at hi; cases hi
  | some d' =>
    rw [he] at hi
    simp only [Option.map_some, Nat.zero_add] at hi
    cases hi
    refine pair_at hO y (fun x hx => by cases hx; exact .int _) fun x hx => ?_
    obtain ⟨d'', h1, h2⟩ := hd.get' hx
    rw [h1] at he
    cases he
    exact Rp_mono k _ _ h2
theorem wk_zip {B : Bs} {fu : Bool} {O : Addr → Prop} {H1 : Hp} {a b : Addr} {vs ws : List V} {ds es : List D} (hr : Rd (hide O H1) a (.lst vs)) (hd : RpAll B.K (hide O H1) vs ds) (hr2 : Rd (hide O H1) b (.lst ws)) (hd2 : RpAll B.K (hide O H1) ws es) (hz : ds.length ≤ sizeLine) : Wk B fu O H1 (zipD ds es) (Itz B.K a b) := by
  have hl : (zipD ds es).length = min vs.length ws.length := by simp [zipD, hd.len, hd2.len]
  refine ⟨by rw [hl, hd.len]; omega, fun H => SqL B.K H a vs ∧ SqL B.K H b ws, YPair (fun i => vs[i]?) (fun i => ws[i]?), by rw [hl]; exact walk_zip rfl, fun H' _ k => ⟨.inl (rd_kept k hr), .inl (rd_kept k hr2)⟩, fun i d Oc Hc x H' hi hO _ k y => ?_⟩
  unfold zipD at hi
  rw [List.getElem?_zipWith] at hi
  cases h1 : ds[i]? with
  | none => rw [h1] at hi; simp at hi
  | some d1 =>
    cases h2 : es[i]? with
    | none => rw [h1, h2] at hi; simp at hi
    | some d2 =>
      rw [h1, h2] at hi
      simp only [Option.some.injEq] at hi
      subst hi
      refine pair_at hO y (fun x hx => ?_) fun x hx => ?_
      · obtain ⟨d'', a1, a2⟩ := hd.get' hx
        rw [a1] at h1
        cases h1
        exact Rp_mono k _ _ a2
      · obtain ⟨d'', a1, a2⟩ := hd2.get' hx
        rw [a1] at h2
        cases h2
        exact Rp_mono k _ _ a2
theorem i_enum {elts : List Expr} {kk : Nat} {tpos : Pos} (hm : X.mg "enumerate" = none) (he : PE X e (tS P f)) (hg : Gl X "enumerate" := by rfl) (hst : starEach [e] X.env = (false, eval e X.env) :: starEach [] X.env := by rfl) (hK : P.b.K = X.K := by rfl) :
    PI X (.Tuple elts kk tpos) (.Call (.Name "enumerate" p) [e] [] pos) (tIt P fu (f1N sEnum f)) :=
  (pi_enum hg hm (pa_cons he pa_nil hst) (by rw [hst]; rfl)).wk fun σ H R ⟨O, ε, ok, w⟩ => ⟨O, ε, ok, by
    unfold f1N at w
    cases hf : f ε with
    | er x => rw [hf] at w; exact w
    | ok d =>
      rw [hf, bnd_ok] at w
      intro v H1 e1 hv
      cases hv with
      | lst hs ha =>
        simp only [sEnum, opt_some] at w
        refine ⟨_, _, rfl, .inl (rd_hide hs), ?_⟩
        rw [← hK]
        exact w _ H1 e1 (wk_enum hs ha (by rw [← ha.len]; exact sz_rd (ok.more e1) (rd_hide hs)))
      | _ => simp only [sEnum, opt_none] at w; exact False.elim w⟩
theorem i_zip {elts : List Expr} {kk : Nat} {tpos : Pos} (hm : X.mg "zip" = none) (he : PE X e (tS P f)) (he2 : PE X e2 (tS P g)) (hg : Gl X "zip" := by rfl) (hst : starEach [e, e2] X.env = (false, eval e X.env) :: starEach [e2] X.env := by rfl) (hst2 : starEach [e2] X.env = (false, eval e2 X.env) :: starEach [] X.env := by rfl) (hK : P.b.K = X.K := by rfl) :
    PI X (.Tuple elts kk tpos) (.Call (.Name "zip" p) [e, e2] [] pos) (tIt P fu (f2N sZip f g)) :=
  (pi_zip hg hm (pa_cons he (pa_cons he2 pa_nil hst2) hst) hst (by rw [hst2]; rfl)).wk fun σ H R ⟨O, ε, ok, w⟩ => ⟨O, ε, ok, by
    unfold f2N at w
    cases hf : f ε with
    | er x => rw [hf] at w; exact w
    | ok d =>
      rw [hf, bnd_ok] at w
      intro v H1 e1 hv
      refine ⟨O, ε, ok.more e1, ?_⟩
      cases hg : g ε with
      | er x => rw [hg] at w; exact w
      | ok d2 =>
        rw [hg, bnd_ok] at w
        intro v2 H2 e2 hv2
        cases hz : sZip d d2 with
        | none => rw [hz] at w; exact False.elim w
        | some ds =>
          rw [hz, opt_some] at w
          unfold sZip at hz
          split at hz
          · cases hz
            have hv' := Rp_mono e2.kept.hide _ _ hv
            cases hv' with
            | lst hs ha =>
              cases hv2 with
              | lst hs2 ha2 =>
                refine ⟨_, _, _, _, rfl, .inl (rd_hide hs), .inl (rd_hide hs2), ?_⟩
                rw [← hK]
                exact w _ H2 (e1.trans e2) (wk_zip hs ha hs2 ha2 (by rw [← ha.len]; exact sz_rd (ok.more (e1.trans e2)) (rd_hide hs)))
          · cases hz⟩
end


/-! ### walks of lists of one's own, where nothing is changed meanwhile -/
theorem wk_listP {B : Bs} {O : Addr → Prop} {H1 : Hp} {a : Addr} {vs : List V} {ds : List D} (hr : Rd H1 a (.lst vs)) (hd : RpAll B.K (hide O H1) vs ds) (hz : ds.length ≤ sizeLine) : Wk B true O H1 ds (Itl B.K a) := by
  refine ⟨hz, fun H => SqL B.K H a vs, YAt vs, by rw [← hd.len]; exact walk_list, fun H' kf k => .inl (rd_kept (kf rfl) hr), fun i d Oc Hc x H' hi _ _ k y => ?_⟩
  obtain ⟨e, hx⟩ := y
  subst e
  refine ⟨Ext.refl _ _, ?_⟩
  obtain ⟨d', h1, h2⟩ := hd.get' hx
  rw [h1] at hi
  cases hi
  exact Rp_mono k _ _ h2
theorem wk_enumP {B : Bs} {O : Addr → Prop} {H1 : Hp} {a : Addr} {vs : List V} {ds : List D} (hr : Rd H1 a (.lst vs)) (hd : RpAll B.K (hide O H1) vs ds) (hz : ds.length ≤ sizeLine) : Wk B true O H1 (enumD ds) (Ite B.K a) := by
  have hl : (enumD ds).length = vs.length := by simp [enumD, hd.len]
  refine ⟨by rw [hl, hd.len]; exact hz, fun H => SqL B.K H a vs, YPair (fun i => some (.int (i : Nat))) (fun i => vs[i]?), by rw [hl]; exact walk_enum, fun H' kf k => .inl (rd_kept (kf rfl) hr), fun i d Oc Hc x H' hi hO _ k y => ?_⟩
  unfold enumD at hi
  rw [List.getElem?_map, List.getElem?_zipIdx] at hi
  cases he : ds[i]? with
  | none => rw [he] at hi; cases hi
  | some d' =>
    rw [he] at hi
    simp only [Option.map_some, Nat.zero_add] at hi
    cases hi
    refine pair_at hO y (fun x hx => by cases hx; exact .int _) fun x hx => ?_
    obtain ⟨d'', h1, h2⟩ := hd.get' hx
    rw [h1] at he
    cases he
    exact Rp_mono k _ _ h2
theorem wk_zipP {B : Bs} {O : Addr → Prop} {H1 : Hp} {a b : Addr} {vs ws : List V} {ds es : List D} (hr : Rd H1 a (.lst vs)) (hd : RpAll B.K (hide O H1) vs ds) (hr2 : Rd H1 b (.lst ws)) (hd2 : RpAll B.K (hide O H1) ws es) (hz : ds.length ≤ sizeLine) : Wk B true O H1 (zipD ds es) (Itz B.K a b) := by
  have hl : (zipD ds es).length = min vs.length ws.length := by simp [zipD, hd.len, hd2.len]
  refine ⟨by rw [hl, hd.len]; omega, fun H => SqL B.K H a vs ∧ SqL B.K H b ws, YPair (fun i => vs[i]?) (fun i => ws[i]?), by rw [hl]; exact walk_zip rfl, fun H' kf k => ⟨.inl (rd_kept (kf rfl) hr), .inl (rd_kept (kf rfl) hr2)⟩, fun i d Oc Hc x H' hi hO _ k y => ?_⟩
  unfold zipD at hi
  rw [List.getElem?_zipWith] at hi
  cases h1 : ds[i]? with
  | none => rw [h1] at hi; simp at hi
  | some d1 =>
    cases h2 : es[i]? with
    | none => rw [h1, h2] at hi; simp at hi
    | some d2 =>
      rw [h1, h2] at hi
      simp only [Option.some.injEq] at hi
      subst hi
      refine pair_at hO y (fun x hx => ?_) fun x hx => ?_
      · obtain ⟨d'', a1, a2⟩ := hd.get' hx
        rw [a1] at h1
        cases h1
        exact Rp_mono k _ _ a2
      · obtain ⟨d'', a1, a2⟩ := hd2.get' hx
        rw [a1] at h2
        cases h2
        exact Rp_mono k _ _ a2
section
variable {X : Cx} {P : Pm} {l e e2 tg : Expr} {f g : En → M D} {p pos : Pos}
theorem i_seqP (he : PE X l (tP P f)) (hK : P.b.K = X.K := by rfl) : PI X tg l (tIt P true (itF f)) := (pi_seq he).wk fun σ H R ⟨O, ε, ok, w⟩ => ⟨O, ε, ok, by
  unfold itF at w
  cases hf : f ε with
  | er x => rw [hf] at w; exact w
  | ok d =>
    rw [hf, bnd_ok] at w
    intro v H1 e1 hv
    rw [← hK]
    cases hz : items d with
    | none => rw [hz] at w; exact False.elim w
    | some ds =>
      rw [hz, opt_some] at w
      unfold items at hz
      split at hz
      · cases hz
        obtain ⟨a, vs, rfl, hr, hd⟩ := hv.lst
        exact ⟨_, rfl, .inl ⟨⟨_, .inl hr⟩, w _ H1 e1 (wk_listP hr hd (by rw [← hd.len]; exact sz_rd (ok.more e1) hr))⟩⟩
      · split at hz
        · rename_i hc
          cases hz
          have h2 := sizeLine_eq
          rcases hv with hv | ⟨_, _, _, _, e, _⟩
          · cases hv with
            | tup hs ha => exact ⟨_, rfl, .inr ⟨⟨_, sqT_kept kept_hide0 hs⟩, w _ H1 e1 (wk_tup hs ha (by omega))⟩⟩
          · cases e
        · cases hz
      · cases hz⟩
theorem i_enumP {elts : List Expr} {kk : Nat} {tpos : Pos} (hm : X.mg "enumerate" = none) (he : PE X e (tP P f)) (hg : Gl X "enumerate" := by rfl) (hst : starEach [e] X.env = (false, eval e X.env) :: starEach [] X.env := by rfl) (hK : P.b.K = X.K := by rfl) :
    PI X (.Tuple elts kk tpos) (.Call (.Name "enumerate" p) [e] [] pos) (tIt P true (f1N sEnum f)) :=
  (pi_enum hg hm (pa_cons he pa_nil hst) (by rw [hst]; rfl)).wk fun σ H R ⟨O, ε, ok, w⟩ => ⟨O, ε, ok, by
    unfold f1N at w
    cases hf : f ε with
    | er x => rw [hf] at w; exact w
    | ok d =>
      rw [hf, bnd_ok] at w
      intro v H1 e1 hv
      cases hz : sEnum d with
      | none => rw [hz] at w; exact False.elim w
      | some ds =>
        rw [hz, opt_some] at w
        unfold sEnum at hz
        split at hz
        · cases hz
          obtain ⟨a, vs, rfl, hr, hd⟩ := hv.lst
          refine ⟨_, _, rfl, .inl hr, ?_⟩
          rw [← hK]
          exact w _ H1 e1 (wk_enumP hr hd (by rw [← hd.len]; exact sz_rd (ok.more e1) hr))
        · cases hz⟩
theorem i_zipP {elts : List Expr} {kk : Nat} {tpos : Pos} (hm : X.mg "zip" = none) (he : PE X e (tP P f)) (he2 : PE X e2 (tP P g)) (hg : Gl X "zip" := by rfl) (hst : starEach [e, e2] X.env = (false, eval e X.env) :: starEach [e2] X.env := by rfl) (hst2 : starEach [e2] X.env = (false, eval e2 X.env) :: starEach [] X.env := by rfl) (hK : P.b.K = X.K := by rfl) :
    PI X (.Tuple elts kk tpos) (.Call (.Name "zip" p) [e, e2] [] pos) (tIt P true (f2N sZip f g)) :=
  (pi_zip hg hm (pa_cons he (pa_cons he2 pa_nil hst2) hst) hst (by rw [hst2]; rfl)).wk fun σ H R ⟨O, ε, ok, w⟩ => ⟨O, ε, ok, by
    unfold f2N at w
    cases hf : f ε with
    | er x => rw [hf] at w; exact w
    | ok d =>
      rw [hf, bnd_ok] at w
      intro v H1 e1 hv
      refine ⟨O, ε, ok.more e1, ?_⟩
      cases hg : g ε with
      | er x => rw [hg] at w; exact w
      | ok d2 =>
        rw [hg, bnd_ok] at w
        intro v2 H2 e2 hv2
        cases hz : sZip d d2 with
        | none => rw [hz] at w; exact False.elim w
        | some ds =>
          rw [hz, opt_some] at w
          unfold sZip at hz
          split at hz
          · cases hz
            obtain ⟨a, vs, rfl, hr, hd⟩ := (hv.more e2).lst
            obtain ⟨b, ws, rfl, hr2, hd2⟩ := hv2.lst
            refine ⟨_, _, _, _, rfl, .inl hr, .inl hr2, ?_⟩
            rw [← hK]
            exact w _ H2 (e1.trans e2) (wk_zipP hr hd hr2 hd2 (by rw [← hd.len]; exact sz_rd (ok.more (e1.trans e2)) hr))
          · cases hz⟩
end

/-! ### targets -/
inductive Tg where
  | nm (i : Nat)
  | tp (is : List Nat)
def gNames : List Nat → TGs
  | [] => gNil
  | i :: is => gCons (gName i) (gNames is)
def tgG (K : PySem.W.Frag) : Tg → TG
  | .nm i => gName i
  | .tp is => gTup K is.length (gNames is)
def setAll : List Nat → List D → En → En
  | i :: is, d :: ds, ε => setAll is ds (ε.set i (.dat d))
  | _, _, ε => ε
def asg : Tg → D → En → M En
  | .nm i, d, ε => .ok (ε.set i (.dat d))
  | .tp is, .tuple ds, ε => if ds.length = is.length then .ok (setAll is ds ε) else stuck
  | _, _, _ => stuck
def Tg.slots : Tg → List Nat
  | .nm i => [i]
  | .tp is => is
section
variable {B : Bs} {O : Addr → Prop} {σ : St} {H : Hp} {ε : En}
theorem Ok.setDat (ok : Ok B O σ H ε) (i : Nat) {v : V} {d : D} (h : Rp B.K (hide O H) v d) : Ok B O (σ.set i (some v)) H (ε.set i (.dat d)) := by
  refine ⟨ok.keep, ok.tabs, ok.size, ok.sub, ok.dom, by rw [List.length_set, List.length_set, ok.len], fun j s ov h1 h2 => ?_, fun j k s u w hjk h1 h2 o1 o2 h3 h4 => ?_⟩
  · by_cases hj : i = j
    · subst hj
      have hi : i < ε.length := by
        have := (List.getElem?_eq_some_iff.mp h1).1
        rw [List.length_set] at this
        exact this
      rw [List.getElem?_set_self hi] at h1
      rw [List.getElem?_set_self (by rw [ok.len]; exact hi)] at h2
      cases h1
      cases h2
      exact ⟨v, rfl, h⟩
    · rw [List.getElem?_set_ne hj] at h1 h2
      exact ok.slot j s ov h1 h2
  · have nn : ∀ {m : Nat} {t : Sl}, (ε.set i (.dat d))[m]? = some t → owns t = true → i ≠ m := fun {m t} a b z => by
      subst z
      have hi : i < ε.length := by
        have := (List.getElem?_eq_some_iff.mp a).1
        rw [List.length_set] at this
        exact this
      rw [List.getElem?_set_self hi] at a
      cases a
      cases b
    have n1 := nn h1 o1
    have n2 := nn h2 o2
    rw [List.getElem?_set_ne n1] at h1 h3
    rw [List.getElem?_set_ne n2] at h2 h4
    exact ok.sep j k s u w hjk h1 h2 o1 o2 h3 h4
theorem wipe_at {σ : St} {j : Nat} : ∀ {vw : List Nat}, j ∈ vw → (wipe σ vw)[j]? = if j < σ.length then some none else none
  | v :: vw, h => by
    unfold wipe
    by_cases e : v = j
    · subst e
      by_cases hl : v < σ.length
      · rw [if_pos hl, List.getElem?_set_self (by rw [wipe_length]; exact hl)]
      · rw [if_neg hl, List.getElem?_eq_none (by rw [List.length_set, wipe_length]; omega)]
    · rw [List.getElem?_set_ne e]
      exact wipe_at ((List.mem_cons.mp h).resolve_left (Ne.symm e))
theorem wipe_off {σ : St} {j : Nat} : ∀ {vw : List Nat}, j ∉ vw → (wipe σ vw)[j]? = σ[j]?
  | [], _ => rfl
  | v :: vw, h => by
    unfold wipe
    rw [List.getElem?_set_ne (fun e => h (by rw [e]; exact List.mem_cons_self))]
    exact wipe_off fun z => h (List.mem_cons_of_mem _ z)
theorem wipe_set {σ : St} {i : Nat} {x : Option V} {vw : List Nat} (h : i ∈ vw) : wipe (σ.set i x) vw = wipe σ vw := by
  apply List.ext_getElem?
  intro j
  by_cases hj : j ∈ vw
  · rw [wipe_at hj, wipe_at hj, List.length_set]
  · rw [wipe_off hj, wipe_off hj, List.getElem?_set_ne]
    intro z
    subst z
    exact hj h
theorem setAll_ok : ∀ (is : List Nat) (ds : List D) (vs : List V) (σ : St) (ε : En) (vw : List Nat) {Q : St → Hp → Prop}, Ok B O σ H ε → RpAll B.K (hide O H) vs ds → ds.length = is.length → (∀ i ∈ is, i ∈ vw) →
    (∀ σ', Ok B O σ' H (setAll is ds ε) → wipe σ' vw = wipe σ vw → Q σ' H) → gNames is vs σ H Q
  | [], ds, vs, σ, ε, vw, Q, ok, hd, hl, hv, q => by
    cases ds with
    | cons d r => simp at hl
    | nil =>
      cases hd
      exact ⟨rfl, q σ ok rfl⟩
  | i :: is, ds, vs, σ, ε, vw, Q, ok, hd, hl, hv, q => by
    cases ds with
    | nil => simp at hl
    | cons d r =>
      cases hd with
      | cons h1 h2 =>
        rename_i v ws
        refine ⟨v, ws, rfl, setAll_ok is r ws _ _ vw (ok.setDat i h1) h2 (by simpa using hl) (fun j hj => hv j (List.mem_cons_of_mem _ hj)) fun σ' ok' e => q σ' ok' ?_⟩
        rw [e]
        exact wipe_set (hv i List.mem_cons_self)
theorem tg_ok {tg : Tg} {v : V} {d : D} {ε' : En} {vw : List Nat} {Q : St → Hp → Prop} (ok : Ok B O σ H ε) (hd : Rp B.K (hide O H) v d) (ha : asg tg d ε = .ok ε') (hv : ∀ i ∈ tg.slots, i ∈ vw) (q : ∀ σ', Ok B O σ' H ε' → wipe σ' vw = wipe σ vw → Q σ' H) : tgG B.K tg v σ H Q := by
  cases tg with
  | nm i =>
    cases ha
    exact q _ (ok.setDat i hd) (wipe_set (hv i (by simp [Tg.slots])))
  | tp is =>
    cases hd with
    | tup hs hr =>
      simp only [asg] at ha
      split at ha
      · rename_i hl
        cases ha
        refine ⟨_, _, rfl, sqT_kept kept_hide0 hs, by rw [hr.len, hl], ?_⟩
        exact setAll_ok is _ _ σ ε vw ok hr hl hv q
      · cases ha
    | _ => simp only [asg] at ha; cases ha
def wipeE (ε : En) : List Nat → En
  | [] => ε
  | v :: vs => (wipeE ε vs).set v .un
theorem Ok.wiped (ok : Ok B O σ H ε) : ∀ vw : List Nat, Ok B O (wipe σ vw) H (wipeE ε vw)
  | [] => ok
  | v :: vw => by
    have ih := Ok.wiped ok vw
    unfold wipe wipeE
    refine ⟨ih.keep, ih.tabs, ih.size, ih.sub, ih.dom, by rw [List.length_set, List.length_set, ih.len], fun j s ov h1 h2 => ?_, fun j k s u w hjk h1 h2 o1 o2 h3 h4 => ?_⟩
    · by_cases hj : v = j
      · subst hj
        have hi : v < (wipeE ε vw).length := by
          have := (List.getElem?_eq_some_iff.mp h1).1
          rw [List.length_set] at this
          exact this
        rw [List.getElem?_set_self hi] at h1
        cases h1
        trivial
      · rw [List.getElem?_set_ne hj] at h1 h2
        exact ih.slot j s ov h1 h2
    · have nn : ∀ {m : Nat} {x : V}, ((wipe σ vw).set v none)[m]? = some (some x) → v ≠ m := fun {m x} a z => by
        subst z
        have hi : v < (wipe σ vw).length := by
          have := (List.getElem?_eq_some_iff.mp a).1
          rw [List.length_set] at this
          exact this
        rw [List.getElem?_set_self hi] at a
        cases a
      have n1 := nn h3
      have n2 := nn h4
      rw [List.getElem?_set_ne n1] at h1 h3
      rw [List.getElem?_set_ne n2] at h2 h4
      exact ih.sep j k s u w hjk h1 h2 o1 o2 h3 h4
end
end DL

/-! ## comprehensions, calls of defs -/
namespace DL
open PySem L2

@[simp] def hush {α : Type} : M α → M α
  | .ok a => .ok a
  | .er _ => stuck
/-- a comprehension's items, from an environment without its own names -/
def compL (tg : Tg) (c : En → M Bool) (f : En → M D) (ε : En) : List D → M (List D)
  | [] => .ok []
  | d :: r => bnd (asg tg d ε) fun ε1 => bnd (hush (c ε1)) fun b => if b then bnd (hush (f ε1)) fun y => bnd (compL tg c f ε r) fun ys => .ok (y :: ys) else compL tg c f ε r
@[simp] def comp (tg : Tg) (c : En → M Bool) (f : En → M D) (vs : List Nat) (it : En → M (List D)) : En → M (List D) := fun ε => bnd (it ε) fun ds => compL tg c f (wipeE ε vs) ds
@[simp] def yesT : En → M Bool := fun _ => .ok true

theorem tabs_write {T : List (Addr × Str)} {H : Hp} {a : Addr} {xs ys : List V} (h : H a = some (.lst xs)) (t : LamX.Tabs T H) : LamX.Tabs T (upd H a (.lst ys)) := fun p hp => by
  obtain ⟨ps, h1, h2, h3⟩ := t p hp
  refine ⟨ps, ?_, h2, fun pos cv hc => ?_⟩
  · rw [upd_ne]
    · exact h1
    · intro z
      rw [z, h] at h1
      cases h1
  · obtain ⟨c, e1, e2⟩ := h3 pos cv hc
    refine ⟨c, e1, ?_⟩
    rw [upd_ne]
    · exact e2
    · intro z
      rw [z, h] at e2
      unfold LamX.CodeO at e2
      cases e2
theorem sz_write {H : Hp} {a : Addr} {ys : List V} (h : Sz H) (hz : ys.length ≤ sizeLine) : Sz (upd H a (.lst ys)) := fun b xs hb => by
  by_cases e : b = a
  · subst e
    rw [upd_same] at hb
    rcases hb with hb | ⟨o, hb⟩
    · cases hb; exact hz
    · cases hb
  · rw [upd_ne e] at hb
    exact h b xs hb
/-- a list is written that is hidden, or new: what is not hidden stays -/
theorem kept_write {O : Addr → Prop} {H : Hp} {a : Addr} {o : HO} (h : O a) : Kept (hide O H) (hide O (upd H a o)) := fun b u e _ => by
  obtain ⟨h1, h2⟩ := hide_some.mp e
  refine hide_some.mpr ⟨h1, ?_⟩
  rw [upd_ne]
  · exact h2
  · intro z
    rw [z] at h1
    exact h1 h

section
variable {B : Bs} {O : Addr → Prop} {σ : St} {H : Hp} {ε : En}
/-- a list that no slot owns, but that is hidden, is written -/
theorem Ok.writeD (ok : Ok B O σ H ε) {a : Addr} {xs ys : List V} (hO : O a) (h : H a = some (.lst xs)) (hz : ys.length ≤ sizeLine) (h0 : Nw B.H0 a) (hn : ∀ (i : Nat) (s : Sl) (v : V), ε[i]? = some s → owns s = true → σ[i]? = some (some v) → v ≠ V.ref a) :
    Ok B O σ (upd H a (.lst ys)) ε := by
  refine ⟨fun b o e n => ?_, tabs_write h ok.tabs, sz_write ok.size hz, ok.sub, fun b hb => ?_, ok.len, fun i s ov h1 h2 => ?_, ok.sep⟩
  · rw [upd_ne]
    · exact ok.keep b o e n
    · intro z
      rw [z] at e
      obtain ⟨ps, q⟩ := h0 o e
      exact n ps q
  · by_cases e : b = a
    · rw [e, upd_same]
      exact ⟨_, rfl, fun _ z => by cases z⟩
    · rw [upd_ne e]
      exact ok.dom b hb
  · have sl := ok.slot i s ov h1 h2
    cases s with
    | un => trivial
    | adr a => exact sl
    | dat d => obtain ⟨v, e, hd⟩ := sl; exact ⟨v, e, Rp_mono (kept_write hO) _ _ hd⟩
    | scr ns => obtain ⟨b, e, hq⟩ := sl; exact ⟨b, e, sqL_kept (kept_write hO) hq⟩
    | lst ds =>
      obtain ⟨b, vs, e, a1, a2, a3, a4, a5⟩ := sl
      have nb : b ≠ a := fun z => hn i _ (.ref b) h1 rfl (by rw [h2, e]) (by rw [z])
      exact ⟨b, vs, e, a1, a2, a3, by rw [upd_ne nb]; exact a4, RpAll_mono (kept_write hO) _ _ a5⟩
    | dic kvs =>
      obtain ⟨b, ws, e, a1, a2, a3, a4, a5⟩ := sl
      have nb : b ≠ a := fun z => hn i _ (.ref b) h1 rfl (by rw [h2, e]) (by rw [z])
      exact ⟨b, ws, e, a1, a2, a3, by rw [upd_ne nb]; exact a4, a5.mono (kept_write hO)⟩
end

theorem ext_write {T : List (Addr × Str)} {H0 H : Hp} {a : Addr} {xs ys : List V} (e : Ext T H0 H) (n : Nw H0 a) (h : H a = some (.lst xs)) (hz : ys.length ≤ sizeLine) : Ext T H0 (upd H a (.lst ys)) :=
  ⟨fun b o q nt => by
    rw [upd_ne]
    · exact e.kept b o q nt
    · intro z
      rw [z] at q
      obtain ⟨ps, w⟩ := n o q
      exact nt ps w, fun t => tabs_write h (e.tabs t), fun t => sz_write (e.size t) hz⟩

theorem wipe_wipe {σ : St} {vw : List Nat} : wipe (wipe σ vw) vw = wipe σ vw := by
  apply List.ext_getElem?
  intro j
  by_cases hj : j ∈ vw
  · rw [wipe_at hj, wipe_at hj, wipe_length]
  · rw [wipe_off hj]
section
variable {X : Cx} {P : Pm}
theorem comp_run {P : Pm} {wi : TI} {tg : Tg} {tt : TT} {te : TE} {c : En → M Bool} {f : En → M D} {it : En → M (List D)} {vw : List Nat} {σ : St} {H : Hp} {Q : VK}
    (hw : ∀ R, tIt P true it σ H R → wi σ H R) (hv : ∀ i ∈ tg.slots, i ∈ vw) (ht : ∀ σ H Q, tT P.n c σ H Q → tt σ H Q) (he : ∀ σ H Q, tS P.n f σ H Q → te σ H Q)
    (h : tN P (comp tg c f vw it) σ H Q) : tLc wi (tgG P.b.K tg) tt te vw σ H Q := by
  obtain ⟨O, ε, ok, w⟩ := h
  refine hw _ ⟨O, ε, ok, ?_⟩
  unfold comp at w
  cases hi : it ε with
  | er x => rw [hi] at w; exact w
  | ok ds =>
    rw [hi, bnd_ok] at w
    intro J H1 e1 wk Da hDa
    obtain ⟨G, Y, hW, hG, hY⟩ := wk.walk
    cases hres : compL tg c f (wipeE ε vw) ds with
    | er x =>
      -- an exception within is not let out
      rw [hres] at w
      have key : ∀ l x, compL tg c f (wipeE ε vw) l = .er x → x = .stuck := by
        intro l
        induction l with
        | nil => intro x h; cases h
        | cons d r ih =>
          intro x h
          unfold compL at h
          cases ha : asg tg d (wipeE ε vw) with
          | er y =>
            rw [ha] at h
            cases tg with
            | nm i => cases ha
            | tp is =>
              cases d <;> simp only [asg] at ha <;> first | (cases ha; cases h; rfl) | (split at ha <;> first | (cases ha; cases h; rfl) | cases ha)
          | ok ε1 =>
            rw [ha, bnd_ok] at h
            cases hc : c ε1 with
            | er y => rw [hc] at h; cases h; rfl
            | ok b =>
              rw [hc] at h
              simp only [hush, bnd_ok] at h
              cases b with
              | false => exact ih x h
              | true =>
                simp only [if_true] at h
                cases hf : f ε1 with
                | er y => rw [hf] at h; cases h; rfl
                | ok y =>
                  rw [hf] at h
                  simp only [hush, bnd_ok] at h
                  cases hr : compL tg c f (wipeE ε vw) r with
                  | er z => rw [hr] at h; cases h; exact ih _ hr
                  | ok z => rw [hr] at h; cases h
      rw [key ds x hres] at w
      exact False.elim w
    | ok total =>
      rw [hres] at w
      have ok1 := ok.more e1
      have nDa : Nw H1 Da := .of hDa
      have hO : ∀ a, Nw H1 a → ¬ O a := fun a h => ok1.not0 h
      -- the invariant
      refine lc_it hW (fun i Hi => ∃ (acc : List D) (vs : List V) (rest : List D), compL tg c f (wipeE ε vw) (ds.drop i) = .ok rest ∧ acc ++ rest = total ∧ acc.length ≤ i ∧ Hi Da = some (.lst vs) ∧ RpAll P.b.K (hide (fun b => O b ∨ b = Da) Hi) vs acc ∧
          Ok P.b (fun b => O b ∨ b = Da) (wipe σ vw) Hi (wipeE ε vw) ∧ Kept (hide O H1) (hide (fun b => O b ∨ b = Da) Hi) ∧ Ext P.b.T H1 Hi) ?_ ?_ ?_ ?_
      · -- start
        have ex : Ext P.b.T H1 (upd H1 Da (.lst [])) := Ext.lst hDa (Nat.zero_le _)
        refine ⟨[], [], total, hres, rfl, Nat.le_refl _, upd_same, .nil, ?_, ?_, ex⟩
        · refine ((ok1.ext ex (fun a h => .inl h) fun a h => ?_).wiped vw)
          rcases h with h | h
          · exact .inl h
          · exact .inr (by rw [h]; exact ⟨nDa, _, upd_same, fun _ z => by cases z⟩)
        · refine kept_own ex.kept fun a z => ?_
          rcases z with z | z
          · exact .inl z
          · exact .inr (by rw [z]; exact nDa)
      · intro i Hi _ p
        obtain ⟨_, _, _, _, _, _, _, _, _, k, e⟩ := p
        exact hG Hi (fun _ => e.kept) (k.trans kept_hide0)
      · intro i x Hi H' hlt p y
        obtain ⟨acc, vs, rest, hr, hcat, hacc, hDi, hRi, oki, kpi, exi⟩ := p
        have hget : ds[i]? = some ds[i] := List.getElem?_eq_getElem hlt
        have hdrop : ds.drop i = ds[i] :: ds.drop (i + 1) := List.drop_eq_getElem_cons hlt
        obtain ⟨ey, hy⟩ := hY i ds[i] (fun b => O b ∨ b = Da) Hi x H' hget (fun a h => oki.not0 h) (fun _ a h => .inl h) kpi y
        rw [hdrop] at hr
        unfold compL at hr
        cases ha : asg tg ds[i] (wipeE ε vw) with
        | er z => rw [ha] at hr; cases hr
        | ok ε1 =>
          rw [ha, bnd_ok] at hr
          refine tg_ok (oki.more ey) hy ha hv fun σ2 ok2 hwp => ⟨?_, ?_⟩
          · rw [hwp, wipe_wipe]
          · cases hc : c ε1 with
            | er z => rw [hc] at hr; cases hr
            | ok b =>
              rw [hc] at hr
              simp only [hush, bnd_ok] at hr
              have okc : Ok P.n.b (fun b => O b ∨ b = Da) σ2 H' ε1 := ok2
              refine ht σ2 H' _ ⟨_, ε1, okc, ?_⟩
              rw [hc]
              intro H3 e3
              have kO : ∀ {Hx Hy : Hp}, Ext P.b.T Hx Hy → Kept (hide (fun b => O b ∨ b = Da) Hx) (hide (fun b => O b ∨ b = Da) Hy) := fun e => e.kept.hide
              cases b with
              | false =>
                rw [if_neg Bool.false_ne_true]
                have e13 := ey.trans e3
                exact ⟨acc, vs, rest, hr, hcat, by omega, e13.kept Da _ hDi (fun _ z => by cases z), RpAll_mono (kO e13) _ _ hRi, oki.more e13, kpi.trans (kO e13), exi.trans e13⟩
              | true =>
                rw [if_pos rfl]
                simp only [if_true] at hr
                cases hf : f ε1 with
                | er z => rw [hf] at hr; cases hr
                | ok yv =>
                  rw [hf] at hr
                  simp only [hush, bnd_ok] at hr
                  cases hr2 : compL tg c f (wipeE ε vw) (ds.drop (i + 1)) with
                  | er z => rw [hr2] at hr; cases hr
                  | ok ys =>
                    rw [hr2, bnd_ok] at hr
                    cases hr
                    have okf : Ok P.n.b (fun b => O b ∨ b = Da) σ2 H3 ε1 := ok2.more e3
                    refine he σ2 H3 _ ⟨_, ε1, okf, ?_⟩
                    rw [hf]
                    intro v H4 e4 hv4
                    have e14 := (ey.trans e3).trans e4
                    have hD4 : H4 Da = some (.lst vs) := e14.kept Da _ hDi (fun _ z => by cases z)
                    have hR4 := RpAll_mono (kO e14) _ _ hRi
                    have hlen : vs.length < sizeLine := by
                      rw [hRi.len]
                      have := wk.size
                      omega
                    have hlen2 : (vs ++ [v]).length ≤ sizeLine := by rw [List.length_append, List.length_singleton]; omega
                    have ok4 := oki.more e14
                    refine ⟨vs, hD4, hlen, acc ++ [yv], vs ++ [v], ys, rfl, by rw [List.append_assoc]; exact hcat, by rw [List.length_append]; simp; omega, upd_same, ?_, ?_, ?_, ?_⟩
                    · exact RpAll_mono (kept_write (.inr rfl)) _ _ (hR4.append (.cons hv4 .nil))
                    · have n0 : Nw P.b.H0 Da := nDa.back (ok1.keep)
                      refine ok4.writeD (.inr rfl) hD4 hlen2 n0 fun j s u hs ho hu z => ?_
                      -- what a slot owns was there before the list
                      have hs' : ε[j]? = some s := wipeE_owns hs ho
                      have hu' : σ[j]? = some (some u) := (wipe_some hu).1
                      subst z
                      obtain ⟨ov, q1, q2⟩ := slotAt ok1 hs'
                      rw [hu'] at q1
                      cases q1
                      cases s with
                      | lst _ => obtain ⟨b, _, eb, hb, _⟩ := q2; cases eb; exact ok1.not0 nDa hb
                      | dic _ => obtain ⟨b, _, eb, hb, _⟩ := q2; cases eb; exact ok1.not0 nDa hb
                      | _ => cases ho
                    · exact (kpi.trans (kO e14)).trans (kept_write (.inr rfl))
                    · exact ext_write (exi.trans e14) nDa hD4 hlen2
      · intro Hn p
        obtain ⟨acc, vs, rest, hr, hcat, _, hDn, hRn, okn, _, exn⟩ := p
        rw [List.drop_length] at hr
        cases hr
        rw [List.append_nil] at hcat
        subst hcat
        exact w Da vs Hn (e1.trans exn) (nDa.back e1.kept) hDn hRn
where
  wipeE_owns {ε : En} {j : Nat} {s : Sl} : ∀ {vw : List Nat}, (wipeE ε vw)[j]? = some s → owns s = true → ε[j]? = some s
    | [], h, _ => h
    | v :: vw, h, o => by
      unfold wipeE at h
      by_cases e : v = j
      · subst e
        have hi : v < (wipeE ε vw).length := by
          have := (List.getElem?_eq_some_iff.mp h).1
          rw [List.length_set] at this
          exact this
        rw [List.getElem?_set_self hi] at h
        cases h
        cases o
      · rw [List.getElem?_set_ne e] at h
        exact wipeE_owns h o

theorem _root_.L2.PTs.wk {X : Cx} {ifs : List Expr} {t t' : TT} (h : PTs X ifs t) (w : ∀ σ H Q, t' σ H Q → t σ H Q) : PTs X ifs t' := ⟨fun pins s σ H Q I q => h.run pins s σ H Q I (w σ H Q q)⟩
theorem ts_nil : PTs X [] (tT P yesT) := pts_nil.wk fun σ H Q ⟨O, ε, ok, w⟩ => w H (Ext.refl _ _)
theorem ts_one {e : Expr} {c : En → M Bool} (h : PT X e (tT P c)) : PTs X [e] (tT P c) := pts_one h
theorem d_lc {elt iter tgE : Expr} {ifs : List Expr} {scope : Scope} {pos : Pos} {it : En → M (List D)} {c : En → M Bool} {f : En → M D} (own : List (Str × Nat)) (tg : Tg) (hc : X.calm = true) (hN : X.N.Nodup) (hi : PI X tgE iter (tIt P true it)) (ok : BlkOk X.N X.env.scope scope own)
    (hg : ∀ (s : Shared) (H : Hp) (C : Addr) (cl : List (Str × Addr)) (fp : List Addr), PG (X.blk s H scope (compEnvC scope cl C X.env) fp) tgE (tgG P.b.K tg)) (ht : ∀ (s : Shared) (H : Hp) (C : Addr) (cl : List (Str × Addr)) (fp : List Addr), PTs (X.blk s H scope (compEnvC scope cl C X.env) fp) ifs (tT P.n c))
    (he : ∀ (s : Shared) (H : Hp) (C : Addr) (cl : List (Str × Addr)) (fp : List Addr), PE (X.blk s H scope (compEnvC scope cl C X.env) fp) elt (tS P.n f)) (hv : ∀ i ∈ tg.slots, i ∈ own.map (·.2) := by decide) (hs : ∀ x, foldedSetIterable iter X.env x = pure x := by intro _; rfl) :
    PE X (.ListComp elt [⟨tgE, iter, ifs, 0⟩] scope pos) (tN P (comp tg c f (own.map (·.2)) it)) := (pe_lc hc hN hi ok hg ht he hs).wk fun σ H Q h => comp_run (fun _ z => z) hv (fun _ _ _ z => z) (fun _ _ _ z => z) h
end

/-! ### defs called -/
/-- the promise of a def that takes n values and hands back what m says -/
def spD (K : PySem.W.Frag) (T : List (Addr × Str)) (C : String → Addr) (n : Nat) (m : List D → M D) : Sp := fun vs H Q E => ∃ (O : Addr → Prop) (ds : List D), ds.length = n ∧ (∀ a, O a → ∃ o, H a = some o ∧ ∀ ps, o ≠ .tbl ps) ∧ LamX.Tabs T H ∧ Sz H ∧ RpAll K (hide O H) vs ds ∧ match m ds with
  | .ok d => ∀ v H', Ext T H H' → Rp K (hide O H') v d → Q v H'
  | .er .stuck => False
  | .er (.exc c) => ∀ H', Ext T H H' → E (.ref (C c)) none H'
theorem spD_len {K : PySem.W.Frag} {T : List (Addr × Str)} {C : String → Addr} {n : Nat} {m : List D → M D} : ∀ vs H Q E, spD K T C n m vs H Q E → vs.length = n := fun vs H Q E ⟨O, ds, hn, _, _, _, hd, _⟩ => by rw [hd.len, hn]
/-- m' says no more than m -/
def Le (m' m : List D → M D) : Prop := ∀ ds, m' ds = stuck ∨ m' ds = m ds
theorem spD_le {K : PySem.W.Frag} {T : List (Addr × Str)} {C : String → Addr} {n : Nat} {m m' : List D → M D} (h : ∀ ds, ds.length = n → m' ds = stuck ∨ m' ds = m ds) : ∀ vs H Q E, spD K T C n m' vs H Q E → spD K T C n m vs H Q E := fun vs H Q E ⟨O, ds, hn, h1, h2, h3, hd, w⟩ => ⟨O, ds, hn, h1, h2, h3, hd, by
  rcases h ds hn with e | e
  · rw [e] at w; exact False.elim w
  · rw [← e]; exact w⟩
@[simp] def callF (m : List D → M D) (fs : En → M (List D)) : En → M D := fun ε => bnd (fs ε) m
section
variable {X : Cx} {P : Pm} {e : Expr} {es : List Expr} {fs : En → M (List D)} {k n : Nat} {a : Addr} {fd : FuncData} {ps : List Str} {m : List D → M D} {x : Str} {p pos : Pos}
theorem call_seq {σ : St} {H : Hp} {Q : VK} (h : tS P (callF m fs) σ H Q) (hT : ∀ ε ds, fs ε = .ok ds → ds.length = n) : tAS P fs σ H fun vs H1 => spD P.b.K P.b.T P.C n m (vs ++ []) H1 Q P.E := by
  obtain ⟨O, ε, ok, w⟩ := h
  refine ⟨O, ε, ok, ?_⟩
  unfold callF at w
  cases hf : fs ε with
  | er z => rw [hf] at w; exact w
  | ok ds =>
    rw [hf, bnd_ok] at w
    intro vs H1 e1 hd
    have ok1 := ok.more e1
    rw [List.append_nil]
    refine ⟨O, ds, hT ε ds hf, ok1.dom, ok1.tabs, ok1.size, hd, ?_⟩
    cases hm : m ds with
    | ok d => rw [hm] at w; exact fun v H' e2 hv => w v H' (e1.trans e2) hv
    | er z =>
      rw [hm] at w
      cases z with
      | stuck => exact w
      | exc c =>
        intro H' e2
        have ok2 := ok1.more e2
        exact w H' ⟨ok2.keep, ok2.tabs, ok2.size⟩
theorem call_seqQ {σ : St} {H : Hp} {Q : VK} (h : tQ P (callF m fs) σ H Q) (hT : ∀ ε ds, fs ε = .ok ds → ds.length = n) : tAQ P fs σ H fun vs H1 => spD P.b.K P.b.T P.C n m (vs ++ []) H1 Q P.E := by
  obtain ⟨O, ε, ok, w⟩ := h
  refine ⟨O, ε, ok, ?_⟩
  unfold callF at w
  cases hf : fs ε with
  | er z => rw [hf] at w; exact w
  | ok ds =>
    rw [hf, bnd_ok] at w
    intro vs H1 e1 hd
    have ok1 := ok.more e1
    rw [List.append_nil]
    refine ⟨P.b.O0, ds, hT ε ds hf, fun a h => ok1.dom a (ok1.sub a h), ok1.tabs, ok1.size, hd, ?_⟩
    cases hm : m ds with
    | ok d => rw [hm] at w; exact fun v H' e2 hv => w v H' (e1.trans e2) hv
    | er z =>
      rw [hm] at w
      cases z with
      | stuck => exact w
      | exc c =>
        intro H' e2
        have ok2 := ok1.more e2
        exact w H' ⟨ok2.keep, ok2.tabs, ok2.size⟩
theorem d_call (F : FnOk X.prog X.w X.K X.mg X.base (L2N.CX X.prog X.w) k a fd ps (spD X.K P.b.T P.C n m)) (hr : Room k X.A) (hm : X.mg x = some (.ref a)) (hk : PySem.W.keepIn X.K (.ref a) = true) (hb : Binds X.K fd ps []) (hx : Passes (L2N.CX X.prog X.w) X P.E) (ha : PAn X P n (e :: es) fs)
    (hg : Gl X x := by rfl) (hK : P.b.K = X.K := by rfl) (hdb : (x == ("__debug__" : Str)) = false := by decide) (he : starEach (e :: es) X.env = (false, eval e X.env) :: starEach es X.env := by rfl) (hpl : (backTo pos (starEach es X.env)).any (·.1) = false := by rfl) :
    PE X (.Call (.Name x p) (e :: es) [] pos) (tS P (callF m fs)) := (pe_call F hr hg hm hk hb .nil hx ha.pa hdb he hpl).wk fun σ H Q h => by
  have q := call_seq h ha.ln
  rw [hK] at q
  exact q
/-- arguments of which some may be lists of one's own -/
structure PAq (X : Cx) (P : Pm) (n : Nat) (es : List Expr) (fs : En → M (List D)) : Prop where
  pa : PA X es (tAQ P fs)
  ln : ∀ ε ds, fs ε = .ok ds → ds.length = n
theorem aq_nil : PAq X P 0 [] nilF := ⟨a_nilQ, fun _ _ h => len_nil h⟩
theorem aq_cons {f : En → M D} (he : PE X e (tQ P f)) (hs : PAq X P n es fs) (hst : starEach (e :: es) X.env = (false, eval e X.env) :: starEach es X.env := by rfl) : PAq X P (n + 1) (e :: es) (consF f fs) := ⟨a_consQ he hs.pa hst, len_cons hs.ln⟩
theorem d_callQ (F : FnOk X.prog X.w X.K X.mg X.base (L2N.CX X.prog X.w) k a fd ps (spD X.K P.b.T P.C n m)) (hr : Room k X.A) (hm : X.mg x = some (.ref a)) (hk : PySem.W.keepIn X.K (.ref a) = true) (hb : Binds X.K fd ps []) (hx : Passes (L2N.CX X.prog X.w) X P.E) (ha : PAq X P n (e :: es) fs)
    (hg : Gl X x := by rfl) (hK : P.b.K = X.K := by rfl) (hdb : (x == ("__debug__" : Str)) = false := by decide) (he : starEach (e :: es) X.env = (false, eval e X.env) :: starEach es X.env := by rfl) (hpl : (backTo pos (starEach es X.env)).any (·.1) = false := by rfl) :
    PE X (.Call (.Name x p) (e :: es) [] pos) (tQ P (callF m fs)) := (pe_call F hr hg hm hk hb .nil hx ha.pa hdb he hpl).wk fun σ H Q h => by
  have q := call_seqQ h ha.ln
  rw [hK] at q
  exact q
end
end DL

/-! ## statements -/
namespace DL
open PySem L2

inductive Fl where
  | nx (ε : En)
  | rt (d : D)
  | bk (ε : En)
  | ct (ε : En)
def tD (P : Pm) (F : En → M Fl) : TS := fun Dn σ H => ∃ O ε, Ok P.b O σ H ε ∧ match F ε with
  | .ok (.nx ε') => ∀ σ' H' O', Ok P.b O' σ' H' ε' → Kept (hide O H) (hide O' H') → Dn.nx σ' H'
  | .ok (.bk ε') => ∀ σ' H' O', Ok P.b O' σ' H' ε' → Kept (hide O H) (hide O' H') → Dn.bk σ' H'
  | .ok (.ct ε') => ∀ σ' H' O', Ok P.b O' σ' H' ε' → Kept (hide O H) (hide O' H') → Dn.ct σ' H'
  | .ok (.rt d) => ∀ v H', Bye P.b H' → QS P.b H' v d → Dn.rt v H'
  | .er e => outE P e

section
variable {X : Cx} {P : Pm} {F G : En → M Fl} {st : Stmt} {sts rest : List Stmt} {pos : Pos}
theorem _root_.L2.PS.wk {X : Cx} {st : Stmt} {t t' : TS} (h : PS X st t) (w : ∀ D σ H, t' D σ H → t D σ H) : PS X st t' := ⟨fun pins s σ H D I q => h.run pins s σ H D I (w D σ H q)⟩
theorem _root_.L2.PSs.wk {X : Cx} {st : List Stmt} {t t' : TS} (h : PSs X st t) (w : ∀ D σ H, t' D σ H → t D σ H) : PSs X st t' := ⟨fun pins s σ H D I q => h.run pins s σ H D I (w D σ H q)⟩
theorem bye {B : Bs} {O : Addr → Prop} {σ : St} {H : Hp} {ε : En} (ok : Ok B O σ H ε) : Bye B H := ⟨ok.keep, ok.tabs, ok.size⟩

@[simp] def skipD : En → M Fl := fun ε => .ok (.nx ε)
@[simp] def seqD (F G : En → M Fl) : En → M Fl := fun ε => bnd (F ε) fun fl => match fl with
  | .nx ε' => G ε'
  | o => .ok o
theorem s_nil : PSs X [] (tD P skipD) := pss_nil.wk fun D σ H ⟨O, ε, ok, w⟩ => w σ H O ok (LamX.ExtN.refl _)
theorem s_one (h : PS X st (tD P F)) : PSs X [st] (tD P F) := pss_one h
theorem s_cons (h : PS X st (tD P F)) (hr : PSs X rest (tD P G)) : PSs X (st :: rest) (tD P (seqD F G)) := (pss_cons h hr).wk fun Dn σ H ⟨O, ε, ok, w⟩ => ⟨O, ε, ok, by
  unfold seqD at w
  cases hf : F ε with
  | er x => rw [hf] at w; exact w
  | ok fl =>
    rw [hf, bnd_ok] at w
    cases fl with
    | rt d => exact w
    | bk ε' => exact w
    | ct ε' => exact w
    | nx ε' =>
      dsimp only at w
      intro σ' H' O' ok' k
      refine ⟨O', ε', ok', ?_⟩
      cases hg : G ε' with
      | er x => rw [hg] at w; exact w
      | ok fl2 =>
        rw [hg] at w
        cases fl2 with
        | rt d => exact w
        | nx ε2 => exact fun σ2 H2 O2 ok2 k2 => w σ2 H2 O2 ok2 (k.trans k2)
        | bk ε2 => exact fun σ2 H2 O2 ok2 k2 => w σ2 H2 O2 ok2 (k.trans k2)
        | ct ε2 => exact fun σ2 H2 O2 ok2 k2 => w σ2 H2 O2 ok2 (k.trans k2)⟩
theorem s_pass : PS X (.Pass pos) (tD P skipD) := ps_pass.wk fun D σ H ⟨O, ε, ok, w⟩ => w σ H O ok (LamX.ExtN.refl _)
@[simp] def brkD : En → M Fl := fun ε => .ok (.bk ε)
@[simp] def cntD : En → M Fl := fun ε => .ok (.ct ε)
theorem s_break : PS X (.Break pos) (tD P brkD) := ps_break.wk fun D σ H ⟨O, ε, ok, w⟩ => w σ H O ok (LamX.ExtN.refl _)
theorem s_continue : PS X (.Continue pos) (tD P cntD) := ps_continue.wk fun D σ H ⟨O, ε, ok, w⟩ => w σ H O ok (LamX.ExtN.refl _)

/-! ### return, if -/
variable {e c : Expr} {f : En → M D} {p : En → M Bool}
@[simp] def retD (f : En → M D) : En → M Fl := fun ε => bnd (f ε) fun d => .ok (.rt d)
theorem s_ret (he : PE X e (tQ P f)) : PS X (.Return (some e) pos) (tD P (retD f)) := (ps_ret he).wk fun D σ H ⟨O, ε, ok, w⟩ => ⟨O, ε, ok, by
  unfold retD at w
  cases hf : f ε with
  | er x => rw [hf] at w; exact w
  | ok d => rw [hf] at w; exact fun v H' ext hv => w v H' (bye (ok.more ext)) hv⟩
theorem s_retN : PS X (.Return none pos) (tD P fun _ => .ok (.rt .none)) := ps_retN.wk fun D σ H ⟨O, ε, ok, w⟩ => w .non H (bye ok) .non
@[simp] def ifD (p : En → M Bool) (F G : En → M Fl) : En → M Fl := fun ε => bnd (p ε) fun b => if b then F ε else G ε
theorem tD_more {O : Addr → Prop} {σ : St} {H H' : Hp} {ε : En} {Dn : Ends} (ok : Ok P.b O σ H ε) (ext : Ext P.b.T H H') (w : match F ε with
  | .ok (.nx ε') => ∀ σ' H' O', Ok P.b O' σ' H' ε' → Kept (hide O H) (hide O' H') → Dn.nx σ' H'
  | .ok (.bk ε') => ∀ σ' H' O', Ok P.b O' σ' H' ε' → Kept (hide O H) (hide O' H') → Dn.bk σ' H'
  | .ok (.ct ε') => ∀ σ' H' O', Ok P.b O' σ' H' ε' → Kept (hide O H) (hide O' H') → Dn.ct σ' H'
  | .ok (.rt d) => ∀ v H', Bye P.b H' → QS P.b H' v d → Dn.rt v H'
  | .er e => outE P e) : tD P F Dn σ H' := by
  refine ⟨O, ε, ok.more ext, ?_⟩
  cases hf : F ε with
  | er x => rw [hf] at w; exact w
  | ok fl =>
    rw [hf] at w
    cases fl with
    | rt d => exact w
    | nx ε' => exact fun σ' H' O' ok' k => w σ' H' O' ok' (ext.kept.hide.trans k)
    | bk ε' => exact fun σ' H' O' ok' k => w σ' H' O' ok' (ext.kept.hide.trans k)
    | ct ε' => exact fun σ' H' O' ok' k => w σ' H' O' ok' (ext.kept.hide.trans k)
theorem s_if (hc : PT X c (tT P p)) (ha : PSs X sts (tD P F)) (hb : PSs X rest (tD P G)) : PS X (.If c sts rest pos) (tD P (ifD p F G)) := (ps_if hc ha hb).wk fun Dn σ H ⟨O, ε, ok, w⟩ => ⟨O, ε, ok, by
  unfold ifD at w
  cases hp : p ε with
  | er x => rw [hp] at w; exact w
  | ok b =>
    rw [hp, bnd_ok] at w
    intro H' ext
    cases b with
    | true => exact tD_more ok ext w
    | false => exact tD_more ok ext w⟩

/-! ### assignments -/
theorem Ok.setUn {B : Bs} {O : Addr → Prop} {σ : St} {H : Hp} {ε : En} (ok : Ok B O σ H ε) (i : Nat) (v : Option V) : Ok B O (σ.set i v) H (ε.set i .un) := by
  refine ⟨ok.keep, ok.tabs, ok.size, ok.sub, ok.dom, by rw [List.length_set, List.length_set, ok.len], fun j s ov h1 h2 => ?_, fun j k s u w hjk h1 h2 o1 o2 h3 h4 => ?_⟩
  · by_cases hj : i = j
    · subst hj
      have hi : i < ε.length := by
        have := (List.getElem?_eq_some_iff.mp h1).1
        rw [List.length_set] at this
        exact this
      rw [List.getElem?_set_self hi] at h1
      cases h1
      trivial
    · rw [List.getElem?_set_ne hj] at h1 h2
      exact ok.slot j s ov h1 h2
  · have nn : ∀ {m : Nat} {t : Sl}, (ε.set i .un)[m]? = some t → owns t = true → i ≠ m := fun {m t} a b z => by
      subst z
      have hi : i < ε.length := by
        have := (List.getElem?_eq_some_iff.mp a).1
        rw [List.length_set] at this
        exact this
      rw [List.getElem?_set_self hi] at a
      cases a
      cases b
    have n1 := nn h1 o1
    have n2 := nn h2 o2
    rw [List.getElem?_set_ne n1] at h1 h3
    rw [List.getElem?_set_ne n2] at h2 h4
    exact ok.sep j k s u w hjk h1 h2 o1 o2 h3 h4
/-- a slot comes to own what is new -/
theorem Ok.setOwn {B : Bs} {O : Addr → Prop} {σ : St} {H H' : Hp} {ε : En} (ok : Ok B O σ H ε) (ext : Ext B.T H H') (i : Nat) {a : Addr} {s : Sl} {o : HO} (n : Nw H a) (ha : H' a = some o) (ht : ∀ ps, o ≠ .tbl ps) (hs : SlotR B (fun b => O b ∨ b = a) H' s (some (.ref a))) :
    Ok B (fun b => O b ∨ b = a) (σ.set i (some (.ref a))) H' (ε.set i s) := by
  have ok' : Ok B (fun b => O b ∨ b = a) σ H' ε := ok.ext ext (fun b h => .inl h) fun b h => by
    rcases h with h | h
    · exact .inl h
    · exact .inr (by rw [h]; exact ⟨n, o, ha, ht⟩)
  have fresh : ∀ (j : Nat) (t : Sl), ε[j]? = some t → owns t = true → σ[j]? = some (some (.ref a)) → False := fun j t h1 h2 h3 => by
    obtain ⟨ov, q1, q2⟩ := slotAt ok h1
    rw [h3] at q1
    cases q1
    cases t with
    | lst _ => obtain ⟨b, _, eb, hb, _⟩ := q2; cases eb; exact ok.not0 n hb
    | dic _ => obtain ⟨b, _, eb, hb, _⟩ := q2; cases eb; exact ok.not0 n hb
    | _ => cases h2
  refine ⟨ok'.keep, ok'.tabs, ok'.size, ok'.sub, ok'.dom, by rw [List.length_set, List.length_set, ok.len], fun j t ov h1 h2 => ?_, fun j k t u w hjk h1 h2 o1 o2 h3 h4 => ?_⟩
  · by_cases hj : i = j
    · subst hj
      have hi : i < ε.length := by
        have := (List.getElem?_eq_some_iff.mp h1).1
        rw [List.length_set] at this
        exact this
      rw [List.getElem?_set_self hi] at h1
      rw [List.getElem?_set_self (by rw [ok.len]; exact hi)] at h2
      cases h1
      cases h2
      exact hs
    · rw [List.getElem?_set_ne hj] at h1 h2
      exact ok'.slot j t ov h1 h2
  · have at_ : ∀ {m : Nat} {x : Option V}, i = m → (σ.set i (some (.ref a)))[m]? = some x → x = some (.ref a) := fun {m x} e h => by
      subst e
      by_cases hi : i < σ.length
      · rw [List.getElem?_set_self hi] at h
        exact (Option.some.inj h).symm
      · rw [List.getElem?_eq_none (by rw [List.length_set]; omega)] at h
        cases h
    by_cases e1 : i = j
    · have q := at_ e1 h3
      cases q
      have e2 : i ≠ k := fun z => hjk (by rw [← e1, z])
      rw [List.getElem?_set_ne e2] at h2 h4
      exact fresh k u h2 o2 h4
    · by_cases e2 : i = k
      · have q := at_ e2 h4
        cases q
        rw [List.getElem?_set_ne e1] at h1 h3
        exact fresh j t h1 o1 h3
      · rw [List.getElem?_set_ne e1] at h1 h3
        rw [List.getElem?_set_ne e2] at h2 h4
        exact ok.sep j k t u w hjk h1 h2 o1 o2 h3 h4
@[simp] def setD (i : Nat) (f : En → M D) : En → M Fl := fun ε => bnd (f ε) fun d => .ok (.nx (ε.set i (.dat d)))
@[simp] def setN (i : Nat) (f : En → M (List D)) : En → M Fl := fun ε => bnd (f ε) fun ds => .ok (.nx (ε.set i (.lst ds)))
theorem asg_dat {i : Nat} {σ : St} {H : Hp} {Dn : Ends} (w : tD P (setD i f) Dn σ H) : tS P f σ H fun x H1 => Dn.nx (σ.set i (some x)) H1 := by
  obtain ⟨O, ε, ok, w⟩ := w
  refine ⟨O, ε, ok, ?_⟩
  unfold setD at w
  cases hf : f ε with
  | er x => rw [hf] at w; exact w
  | ok d =>
    rw [hf] at w
    exact fun v H' ext hv => w _ H' O ((ok.more ext).setDat i hv) ext.kept.hide
theorem asg_own {i : Nat} {fs : En → M (List D)} {σ : St} {H : Hp} {Dn : Ends} (w : tD P (setN i fs) Dn σ H) : tN P fs σ H fun x H1 => Dn.nx (σ.set i (some x)) H1 := by
  obtain ⟨O, ε, ok, w⟩ := w
  refine ⟨O, ε, ok, ?_⟩
  unfold setN at w
  cases hf : fs ε with
  | er x => rw [hf] at w; exact w
  | ok ds =>
    rw [hf] at w
    intro a vs H' ext n ha hd
    refine w _ H' _ (ok.setOwn ext i n ha (fun _ z => by cases z) ⟨a, vs, rfl, .inr rfl, fun z => ok.not0 n (ok.sub a z), n.back ok.keep, ha, hd⟩) (kept_own ext.kept fun b z => ?_)
    rcases z with z | z
    · exact .inl z
    · exact .inr (by rw [z]; exact n)
theorem s_set {i : Nat} {x : Str} {px : Pos} (hN : X.N.Nodup) (he : PE X e (tS P f)) (hi : X.N[i]? = some x := by rfl) (hx : Loc X.env.scope x := by first | exact .inl rfl | exact .inr rfl) (hs : swapsWith e (some (.Name x px)) pos.line X.env = pure false := by rfl) (hf : X.fn x = true ∨ X.env.scope.names.lookup x = some .local := by first | exact .inl rfl | exact .inr rfl) :
    PS X (.Assign [.Name x px] e pos) (tD P (setD i f)) := (ps_set hN hi hx he hs hf).wk fun Dn σ H w => asg_dat w
theorem s_setN {i : Nat} {x : Str} {px : Pos} {fs : En → M (List D)} (hN : X.N.Nodup) (he : PE X e (tN P fs)) (hi : X.N[i]? = some x := by rfl) (hx : Loc X.env.scope x := by first | exact .inl rfl | exact .inr rfl) (hs : swapsWith e (some (.Name x px)) pos.line X.env = pure false := by rfl) (hf : X.fn x = true ∨ X.env.scope.names.lookup x = some .local := by first | exact .inl rfl | exact .inr rfl) :
    PS X (.Assign [.Name x px] e pos) (tD P (setN i fs)) := (ps_set hN hi hx he hs hf).wk fun Dn σ H w => asg_own w
/-- what a comprehension makes, as data -/
@[simp] def setNF (i : Nat) (f : En → M (List D)) : En → M Fl := setD i (frz f)
theorem asg_ownF {i : Nat} {fs : En → M (List D)} {σ : St} {H : Hp} {Dn : Ends} (w : tD P (setNF i fs) Dn σ H) : tN P fs σ H fun x H1 => Dn.nx (σ.set i (some x)) H1 := by
  obtain ⟨O, ε, ok, w⟩ := w
  refine ⟨O, ε, ok, ?_⟩
  unfold setNF setD frz at w
  cases hf : fs ε with
  | er x => rw [hf] at w; exact w
  | ok ds =>
    rw [hf] at w
    intro a vs H' ext n ha hd
    exact w _ H' O ((ok.more ext).setDat i (.lst (.inl (hide_some.mpr ⟨ok.not0 n, ha⟩)) (RpAll_mono (kept_unhide fun b z => .inl z) _ _ hd))) ext.kept.hide

/-! ### raise -/
@[simp] def raiseD (c : String) : En → M Fl := fun _ => .er (.exc c)
theorem s_raise {cn : String} {W : WX} {t : St → Hp → XK → Prop} (hc : X.calm = true) (tk : L2N.Takes X W) (he : L2N.PMk X e t) (ht : ∀ σ H, t σ H fun cls d H' => cls = .ref (P.C cn) ∧ d = none ∧ H' = H) (hW : ∀ σ H, P.E (.ref (P.C cn)) none H → W (.ref (P.C cn)) none σ H) (tm : ∀ σ H (Q Q' : XK), t σ H Q → (∀ c d H', Q c d H' → Q' c d H') → t σ H Q') :
    PS X (.Raise (some e) none pos) (tD P (raiseD cn)) := (L2N.ps_raise hc tk he).wk fun Dn σ H ⟨O, ε, ok, w⟩ => tm σ H _ _ (ht σ H) fun cls d H' ⟨e1, e2, e3⟩ => by
  subst e1 e2 e3
  exact hW σ _ (w _ (bye ok))
end
end DL

/-! ## loops, lists and dicts that are filled -/
namespace DL
open PySem L2

/-! ### for -/
def loopD (tg : Tg) (F : En → M Fl) : List D → En → M Fl
  | [], ε => .ok (.nx ε)
  | d :: r, ε => bnd (asg tg d ε) fun ε1 => bnd (F ε1) fun fl => match fl with
    | .nx ε' => loopD tg F r ε'
    | .ct ε' => loopD tg F r ε'
    | .bk ε' => .ok (.nx ε')
    | .rt v => .ok (.rt v)
@[simp] def forD (tg : Tg) (it : En → M (List D)) (F : En → M Fl) : En → M Fl := fun ε => bnd (it ε) fun ds => loopD tg F ds ε
/-- what is wanted behind an outcome, from a state on -/
def Wn (P : Pm) (Dn : Ends) (O : Addr → Prop) (H : Hp) : M Fl → Prop
  | .ok (.nx ε') => ∀ σ' H' O', Ok P.b O' σ' H' ε' → Kept (hide O H) (hide O' H') → Dn.nx σ' H'
  | .ok (.bk ε') => ∀ σ' H' O', Ok P.b O' σ' H' ε' → Kept (hide O H) (hide O' H') → Dn.bk σ' H'
  | .ok (.ct ε') => ∀ σ' H' O', Ok P.b O' σ' H' ε' → Kept (hide O H) (hide O' H') → Dn.ct σ' H'
  | .ok (.rt d) => ∀ v H', Bye P.b H' → QS P.b H' v d → Dn.rt v H'
  | .er e => outE P e
theorem tD_iff {P : Pm} {F : En → M Fl} {Dn : Ends} {σ : St} {H : Hp} : tD P F Dn σ H ↔ ∃ O ε, Ok P.b O σ H ε ∧ Wn P Dn O H (F ε) := by
  constructor
  · rintro ⟨O, ε, ok, w⟩
    refine ⟨O, ε, ok, ?_⟩
    cases hf : F ε with
    | er x => rw [hf] at w; exact w
    | ok fl => rw [hf] at w; cases fl <;> exact w
  · rintro ⟨O, ε, ok, w⟩
    refine ⟨O, ε, ok, ?_⟩
    cases hf : F ε with
    | er x => rw [hf] at w; exact w
    | ok fl => rw [hf] at w; cases fl <;> exact w
theorem Wn.on {P : Pm} {Dn : Ends} {O O' : Addr → Prop} {H H' : Hp} {m : M Fl} (w : Wn P Dn O H m) (k : Kept (hide O H) (hide O' H')) : Wn P Dn O' H' m := by
  cases m with
  | er x => exact w
  | ok fl =>
    cases fl with
    | rt d => exact w
    | nx ε' => exact fun σ2 H2 O2 ok2 k2 => w σ2 H2 O2 ok2 (k.trans k2)
    | bk ε' => exact fun σ2 H2 O2 ok2 k2 => w σ2 H2 O2 ok2 (k.trans k2)
    | ct ε' => exact fun σ2 H2 O2 ok2 k2 => w σ2 H2 O2 ok2 (k.trans k2)
section
variable {X : Cx} {P : Pm} {F G : En → M Fl} {sts : List Stmt} {pos : Pos}
theorem s_for {tgE iter : Expr} {it : En → M (List D)} (tg : Tg) (hp : PassesOwn (model X.prog X.w) X.A X.env X.xe) (hc : X.calm = true) (hi : PI X tgE iter (tIt P false it)) (hg : PG X tgE (tgG P.b.K tg)) (hb : PSs X sts (tD P F)) (hs : ∀ x, foldedSetIterable iter X.env x = pure x := by intro _; rfl) :
    PS X (.For tgE iter sts [] pos) (tD P (forD tg it F)) := (ps_for hp hc hi hg hb hs).wk fun Dn σ H w => by
  obtain ⟨O, ε, ok, w⟩ := tD_iff.mp w
  refine ⟨O, ε, ok, ?_⟩
  unfold forD at w
  cases hit : it ε with
  | er x => rw [hit] at w; exact w
  | ok ds =>
    rw [hit, bnd_ok] at w
    intro J H1 e1 wk
    obtain ⟨Gp, Y, hW, hG, hY⟩ := wk.walk
    refine for_it hW (fun i σi Hi => ∃ Oi εi, Ok P.b Oi σi Hi εi ∧ Kept (hide O H1) (hide Oi Hi) ∧ Wn P Dn Oi Hi (loopD tg F (ds.drop i) εi)) ?_ ?_ ?_ ?_
    · exact ⟨O, ε, ok.more e1, LamX.ExtN.refl _, w.on e1.kept.hide⟩
    · rintro i σi Hi _ ⟨Oi, εi, oki, k, _⟩
      exact hG Hi (fun z => by cases z) (k.trans kept_hide0)
    · rintro i x σi Hi H' hlt ⟨Oi, εi, oki, k, wi⟩ y
      have hget : ds[i]? = some ds[i] := List.getElem?_eq_getElem hlt
      have hdrop : ds.drop i = ds[i] :: ds.drop (i + 1) := List.drop_eq_getElem_cons hlt
      obtain ⟨ey, hy⟩ := hY i ds[i] Oi Hi x H' hget (fun a h => oki.not0 h) (fun z => by cases z) k y
      rw [hdrop] at wi
      unfold loopD at wi
      cases ha : asg tg ds[i] εi with
      | er z =>
        rw [ha] at wi
        exfalso
        have hz : z = .stuck := by
          cases tg with
          | nm j => cases ha
          | tp is =>
            cases hd : ds[i] <;> rw [hd] at ha <;> simp only [asg] at ha <;> first | (cases ha; rfl) | (split at ha <;> first | (cases ha; rfl) | cases ha)
        rw [hz] at wi
        exact wi
      | ok ε1 =>
        rw [ha, bnd_ok] at wi
        refine tg_ok (vw := tg.slots) (oki.more ey) hy ha (fun _ h => h) fun σ2 ok2 _ => tD_iff.mpr ⟨Oi, ε1, ok2, ?_⟩
        have ky : Kept (hide Oi Hi) (hide Oi H') := ey.kept.hide
        cases hF : F ε1 with
        | er z => rw [hF] at wi; exact wi
        | ok fl =>
          rw [hF, bnd_ok] at wi
          cases fl with
          | rt v => exact wi
          | bk ε' => exact fun σ3 H3 O3 ok3 k3 => wi σ3 H3 O3 ok3 (ky.trans k3)
          | nx ε' => exact fun σ3 H3 O3 ok3 k3 => ⟨O3, ε', ok3, (k.trans ky).trans k3, Wn.on wi (ky.trans k3)⟩
          | ct ε' => exact fun σ3 H3 O3 ok3 k3 => ⟨O3, ε', ok3, (k.trans ky).trans k3, Wn.on wi (ky.trans k3)⟩
    · rintro σn Hn ⟨On, εn, okn, _, wn⟩
      rw [List.drop_length] at wn
      exact wn σn Hn On okn (LamX.ExtN.refl _)

/-! ### while -/
def whileD (c : En → M Bool) (F : En → M Fl) : Nat → En → M Fl
  | 0, _ => stuck
  | n + 1, ε => bnd (c ε) fun b => if b then bnd (F ε) fun fl => match fl with
      | .nx ε' => whileD c F n ε'
      | .ct ε' => whileD c F n ε'
      | .bk ε' => .ok (.nx ε')
      | .rt v => .ok (.rt v)
    else .ok (.nx ε)
@[simp] def whD (fu : En → Nat) (c : En → M Bool) (F : En → M Fl) : En → M Fl := fun ε => whileD c F (fu ε) ε
theorem s_while {cE : Expr} {c : En → M Bool} (fu : En → Nat) (hp : PassesOwn (model X.prog X.w) X.A X.env X.xe) (hc : PT X cE (tT P c)) (hb : PSs X sts (tD P F)) : PS X (.While cE sts [] pos) (tD P (whD fu c F)) := (ps_while hp hc hb).wk fun Dn σ H w => by
  obtain ⟨O, ε, ok, w⟩ := tD_iff.mp w
  refine ⟨fun m σ H => ∃ O ε, Ok P.b O σ H ε ∧ Wn P Dn O H (whileD c F m ε), ⟨fu ε, O, ε, ok, w⟩, ?_⟩
  rintro m σ H ⟨O, ε, ok, w⟩
  refine ⟨O, ε, ok, ?_⟩
  cases m with
  | zero => exact False.elim w
  | succ n =>
    unfold whileD at w
    cases hcb : c ε with
    | er x => rw [hcb] at w; exact w
    | ok b =>
      rw [hcb, bnd_ok] at w
      intro H' ext
      cases b with
      | false =>
        rw [if_neg Bool.false_ne_true] at w ⊢
        exact w σ H' O (ok.more ext) ext.kept.hide
      | true =>
        rw [if_pos rfl] at w ⊢
        refine ⟨fun σ' H' => ∃ O ε, Ok P.b O σ' H' ε ∧ Wn P Dn O H' (whileD c F n ε), fun σ' H' q => ⟨n, Nat.lt_succ_self n, q⟩, tD_iff.mpr ⟨O, ε, ok.more ext, ?_⟩⟩
        cases hF : F ε with
        | er z => rw [hF] at w; exact w
        | ok fl =>
          rw [hF, bnd_ok] at w
          cases fl with
          | rt v => exact w
          | bk ε' => exact fun σ3 H3 O3 ok3 k3 => w σ3 H3 O3 ok3 (ext.kept.hide.trans k3)
          | nx ε' => exact fun σ3 H3 O3 ok3 k3 => ⟨O3, ε', ok3, Wn.on w (ext.kept.hide.trans k3)⟩
          | ct ε' => exact fun σ3 H3 O3 ok3 k3 => ⟨O3, ε', ok3, Wn.on w (ext.kept.hide.trans k3)⟩
end

/-! ### a slot's own list, or dict, is changed -/
theorem Ok.writeOwn {B : Bs} {O : Addr → Prop} {σ : St} {H : Hp} {ε : En} (ok : Ok B O σ H ε) {i : Nat} {s s' : Sl} {a : Addr} {o o' : HO} (hs : ε[i]? = some s) (ho : owns s = true) (hv : σ[i]? = some (some (.ref a))) (hO : O a) (h0 : Nw B.H0 a) (hH : H a = some o) (hi : ∀ ps, o ≠ .tbl ps) (hi' : ∀ ps, o' ≠ .tbl ps)
    (hz : ∀ xs, (o' = .lst xs ∨ ∃ u, o' = .frz u (.lst xs)) → xs.length ≤ sizeLine) (hc : ∀ c q, o ≠ LamX.CodeO c q) (hn : SlotR B O (upd H a o') s' (some (.ref a))) (hw : owns s' = true) : Ok B O σ (upd H a o') (ε.set i s') ∧ Kept (hide O H) (hide O (upd H a o')) := by
  refine ⟨⟨fun b u e n => ?_, fun p hp => ?_, fun b xs hb => ?_, ok.sub, fun b hb => ?_, by rw [List.length_set]; exact ok.len, fun j t ov h1 h2 => ?_, fun j k t u w hjk h1 h2 o1 o2 h3 h4 => ?_⟩, kept_write hO⟩
  · rw [upd_ne]
    · exact ok.keep b u e n
    · intro z
      rw [z] at e
      obtain ⟨ps, q⟩ := h0 u e
      exact n ps q
  · obtain ⟨ps, h1, h2, h3⟩ := ok.tabs p hp
    refine ⟨ps, ?_, h2, fun pos cv hcv => ?_⟩
    · rw [upd_ne]
      · exact h1
      · intro z
        rw [z, hH] at h1
        exact hi ps (Option.some.inj h1)
    · obtain ⟨c, e1, e2⟩ := h3 pos cv hcv
      refine ⟨c, e1, ?_⟩
      rw [upd_ne]
      · exact e2
      · intro z
        rw [z, hH] at e2
        exact hc a _ (Option.some.inj e2)
  · by_cases e : b = a
    · subst e
      rw [upd_same] at hb
      rcases hb with hb | ⟨u, hb⟩
      · exact hz xs (.inl (Option.some.inj hb))
      · exact hz xs (.inr ⟨u, Option.some.inj hb⟩)
    · rw [upd_ne e] at hb
      exact ok.size b xs hb
  · by_cases e : b = a
    · rw [e, upd_same]
      exact ⟨_, rfl, hi'⟩
    · rw [upd_ne e]
      exact ok.dom b hb
  · by_cases hj : i = j
    · subst hj
      have hil : i < ε.length := (List.getElem?_eq_some_iff.mp hs).1
      rw [List.getElem?_set_self hil] at h1
      cases h1
      rw [hv] at h2
      cases h2
      exact hn
    · rw [List.getElem?_set_ne hj] at h1
      have sl := ok.slot j t ov h1 h2
      cases t with
      | un => trivial
      | adr a => exact sl
      | dat d => obtain ⟨v, e, hd⟩ := sl; exact ⟨v, e, Rp_mono (kept_write hO) _ _ hd⟩
      | scr ns => obtain ⟨b, e, hq⟩ := sl; exact ⟨b, e, sqL_kept (kept_write hO) hq⟩
      | lst ds =>
        obtain ⟨b, vs, e, a1, a2, a3, a4, a5⟩ := sl
        have nb : b ≠ a := fun z => ok.sep i j s _ (.ref a) hj hs h1 ho rfl hv (by rw [h2, e, z])
        exact ⟨b, vs, e, a1, a2, a3, by rw [upd_ne nb]; exact a4, RpAll_mono (kept_write hO) _ _ a5⟩
      | dic kvs =>
        obtain ⟨b, ws, e, a1, a2, a3, a4, a5⟩ := sl
        have nb : b ≠ a := fun z => ok.sep i j s _ (.ref a) hj hs h1 ho rfl hv (by rw [h2, e, z])
        exact ⟨b, ws, e, a1, a2, a3, by rw [upd_ne nb]; exact a4, a5.mono (kept_write hO)⟩
  · -- still apart
    have back : ∀ {m : Nat} {x : Sl}, (ε.set i s')[m]? = some x → owns x = true → ∃ y, ε[m]? = some y ∧ owns y = true := fun {m x} h o => by
      by_cases e : i = m
      · subst e; exact ⟨s, hs, ho⟩
      · rw [List.getElem?_set_ne e] at h; exact ⟨x, h, o⟩
    obtain ⟨y1, q1, p1⟩ := back h1 o1
    obtain ⟨y2, q2, p2⟩ := back h2 o2
    exact ok.sep j k y1 y2 w hjk q1 q2 p1 p2 h3 h4
theorem lst_code {xs : List V} : ∀ (c : Addr) (q : Str), HO.lst xs ≠ LamX.CodeO c q := fun c q z => by
  unfold LamX.CodeO at z
  cases z
theorem dK_code {xs : List (Key × V)} : ∀ (c : Addr) (q : Str), HO.dK xs ≠ LamX.CodeO c q := fun c q z => by
  unfold LamX.CodeO at z
  cases z
@[simp] def appD (i : Nat) (f : En → M D) : En → M Fl := fun ε => match ε[i]? with
  | some (.lst ds) => bnd (f ε) fun d => if ds.length < 1000000 then .ok (.nx (ε.set i (.lst (ds ++ [d])))) else stuck
  | _ => stuck
section
variable {X : Cx} {P : Pm} {e e2 o : Expr} {f g : En → M D} {pos apos cpos : Pos}
theorem s_app {i : Nat} (ho : PE X o (tVar i)) (he : PE X e (tS P f)) (hbase : attributeBase o "append" X.env (eval o X.env) = eval o X.env := by rfl) (hst : starEach (e :: []) X.env = (false, eval e X.env) :: starEach [] X.env := by rfl)
    (hfew : (((backTo cpos (starEach [e] X.env)).all fun x => !x.1) && ((backToKw cpos (keywordEach [] X.env)).all fun x => x.1.isSome) && decide ([e].length + ([] : List Keyword).length + (if ([] : List Keyword).isEmpty then 0 else 1) < 30)) = true := by rfl)
    (hline : (apos.endLine == cpos.line) = true := by rfl) (hs : swapsWith (.Call (.Attribute o "append" apos) [e] [] cpos) none pos.line X.env = pure false := by rfl) :
    PS X (.Expr (.Call (.Attribute o "append" apos) [e] [] cpos) pos) (tD P (appD i f)) :=
  (ps_expr (pe_bm PySem.F.plainAttrs_list PySem.F.slot_list_append PySem.F.type_list_append mt_append ho (pa_cons he pa_nil hst) hbase hfew hline hst) hs).wk fun Dn σ H w => by
    obtain ⟨O, ε, ok, w⟩ := tD_iff.mp w
    unfold appD at w
    cases hi : ε[i]? with
    | none => rw [hi] at w; exact False.elim w
    | some s =>
      rw [hi] at w
      cases s with
      | lst ds =>
        obtain ⟨ov, h1, h2⟩ := slotAt ok hi
        obtain ⟨a, vs, rfl, hO, h0, hn, hH, hd⟩ := h2
        refine ⟨.ref a, h1, .inl ⟨rfl, _, SqL.of hH⟩, O, ε, ok, ?_⟩
        dsimp only at w
        cases hf : f ε with
        | er x => rw [hf] at w; exact w
        | ok d =>
          rw [hf, bnd_ok] at w
          intro v H' ext hv
          split at w
          · rename_i hlen
            have hsz := sizeLine_eq
            have hl : vs.length = ds.length := hd.len
            have ok' := ok.more ext
            have hH' : H' a = some (.lst vs) := ext.kept a _ hH (fun _ z => by cases z)
            have hd' := RpAll_mono ext.kept.hide _ _ hd
            have kw : Kept (hide O H') (hide O (upd H' a (.lst (vs ++ [v])))) := kept_write hO
            obtain ⟨ok2, k2⟩ := ok'.writeOwn (s' := .lst (ds ++ [d])) (o' := .lst (vs ++ [v])) hi rfl h1 hO hn hH' (fun _ z => by cases z) (fun _ z => by cases z)
              (fun xs h => by
                rcases h with h | ⟨u, h⟩
                · cases h; rw [List.length_append, List.length_singleton]; omega
                · cases h) lst_code ⟨a, vs ++ [v], rfl, hO, h0, hn, upd_same, RpAll_mono kw _ _ (hd'.append (.cons hv .nil))⟩ rfl
            exact ⟨a, vs, v, rfl, rfl, hH', by omega, w σ _ O ok2 (ext.kept.hide.trans k2)⟩
          · exact False.elim w
      | _ => exact False.elim w
/-- x[i] = e, x a list of one's own -/
def ixSet (ds : List D) (k : D) (d : D) : Option (List D) := match k with
  | .int j => (ixN ds.length j).map fun n => ds.set n d
  | _ => none
@[simp] def putD (i : Nat) (g f : En → M D) : En → M Fl := fun ε => bnd (f ε) fun d => match ε[i]? with
  | some (.lst ds) => bnd (g ε) fun k => bnd (opt (ixSet ds k d)) fun ds' => .ok (.nx (ε.set i (.lst ds')))
  | _ => stuck
theorem s_put {i : Nat} {tpos : Pos} (ho : PE X o (tVar i)) (hg : PE X e2 (tQ P g)) (he : PE X e (tS P f))
    (ha : ∀ v, assign (.Subscript o e2 tpos) X.env v = (do
      let ov ← holding [v] (eval o X.env)
      let iv ← holding [v, ov] (eval e2 X.env)
      standAt tpos
      holding [v, ov, iv] (setItem ov iv v)
      release [v, ov, iv] []) := by intro _; rfl)
    (hs : swapsWithSole [.Subscript o e2 tpos] e pos.line X.env = pure false := by rfl) (hw : swappedStores [.Subscript o e2 tpos] e X.env = pure none := by rfl) (h1 : (assignEach [.Subscript o e2 tpos] X.env).map (·.2) = [assign (.Subscript o e2 tpos) X.env] := by rfl) :
    PS X (.Assign [.Subscript o e2 tpos] e pos) (tD P (putD i g f)) := (ps_asg he (pg_sub ho hg set_list ha) hs hw h1).wk fun Dn σ H w => by
  obtain ⟨O, ε, ok, w⟩ := tD_iff.mp w
  refine ⟨O, ε, ok, ?_⟩
  unfold putD at w
  cases hf : f ε with
  | er x => rw [hf] at w; exact w
  | ok d =>
    rw [hf, bnd_ok] at w
    intro v H1 e1 hv
    cases hi : ε[i]? with
    | none => rw [hi] at w; exact False.elim w
    | some s =>
      rw [hi] at w
      cases s with
      | lst ds =>
        have ok1 := ok.more e1
        obtain ⟨ov, q1, q2⟩ := slotAt ok1 hi
        obtain ⟨a, vs, rfl, hO, h0, hn, hH, hd⟩ := q2
        refine ⟨.ref a, q1, O, ε, ok1, ?_⟩
        dsimp only at w
        cases hg : g ε with
        | er x => rw [hg] at w; exact w
        | ok k =>
          rw [hg, bnd_ok] at w
          intro u H2 e2 hu
          cases hx : ixSet ds k d with
          | none => rw [hx] at w; exact False.elim w
          | some ds' =>
            rw [hx, opt_some, bnd_ok] at w
            unfold ixSet at hx
            split at hx
            · rename_i j
              simp only [Option.map_eq_some_iff] at hx
              obtain ⟨n, hn1, rfl⟩ := hx
              cases hu
              have ok2 := ok1.more e2
              have hH2 : H2 a = some (.lst vs) := e2.kept a _ hH (fun _ z => by cases z)
              have hd2 := RpAll_mono e2.kept.hide _ _ hd
              have hv2 := Rp_mono e2.kept.hide _ _ hv
              have kw : Kept (hide O H2) (hide O (upd H2 a (.lst (vs.set n v)))) := kept_write hO
              have hsz : vs.length ≤ sizeLine := ok2.size a vs (.inl hH2)
              obtain ⟨ok3, k3⟩ := ok2.writeOwn (s' := .lst (ds.set n d)) (o' := .lst (vs.set n v)) hi rfl q1 hO hn hH2 (fun _ z => by cases z) (fun _ z => by cases z)
                (fun xs h => by
                  rcases h with h | ⟨u, h⟩
                  · cases h; rw [List.length_set]; exact hsz
                  · cases h) lst_code ⟨a, vs.set n v, rfl, hO, h0, hn, upd_same, RpAll_mono kw _ _ (hd2.set n hv2)⟩ rfl
              exact ⟨a, vs, j, n, rfl, rfl, hH2, by rw [hd.len]; exact hn1, w σ _ O ok3 ((e1.kept.hide.trans e2.kept.hide).trans k3)⟩
            · cases hx
      | _ => exact False.elim w
end
end DL

/-! ## set(a list of ints), sorted of it; builtins of two ints -/
namespace L2
open PySem PySem.Spec PyProof.Rows
section
variable {P : Program} {w : World} {A : Around} {E : Value → Shared → Prop} {s : Shared}
set_option maxRecDepth 100000 in
set_option maxHeartbeats 3200000 in
theorem call_set_listI {l : Addr} {items : Array Value} (ns : List Int) {Q : Value → Shared → Prop} (hh : A.handled = none) (hl : s.heap.IsList l items) (hit : IntsAre items.toList ns) (hb : ns.length + 1 < scanBound)
    (h : ∀ (h' : Heap) (tk c : Nat), SetR w h' s.heap.objs.size (fun j => decide (j ∈ ns)) c → c ≤ ns.length → (∀ b o, s.heap.get? b = some o → h'.get? b = some o) → Q (.ref s.heap.objs.size) { s with heap := h', toks := tk }) :
    wpAny (model P w) A (call (.type "set") [.ref l]) Q E s := by
  have hisz : items.size = ns.length := by
    have q := IntsAre.length hit
    rw [Array.length_toList] at q
    exact q
  obtain ⟨c, tl, hmro⟩ := F.called_set.mro
  have hmade := F.called_set.made
  have hsub := F.called_set.sub
  refine wpAny_call (codeAny_of_tree ?_)
  show wpAny _ _ (callAny (.type "set") _) _ _ _
  refine wpAny_pure ⟨Code.quiet_builtin _ (by decide +kernel), codeAny_builtin F.entry_type_call ?_⟩
  rw [Around.under_plain (weight_type_call_type "set" [.ref l] []) rfl]
  have h1 := F.called_set.notType
  have h2 := F.called_set.canCreate
  have hct := F.typeCall_set_1 (.ref l)
  repeat (any_goals (first | assumption | wp_step))

  refine codeAny_mono (code_set_led1 (.ref l) (E := E) (Q₁ := fun obj s₁ => obj = .ref s.heap.objs.size ∧ s₁ = { s with heap := s.heap.push { cls := .type "set", dict := none, data := .set #[] 0 (.fresh 0 0 (!w.params.followText "set-order")) } }) ⟨rfl, rfl⟩) fun r s₁ hr => ?_
  cases r with
  | error e => exact hr
  | ok fl =>
    cases fl with
    | ret obj =>
      obtain ⟨rfl, rfl⟩ := hr
      have hS : (s.heap.push { cls := .type "set", dict := none, data := .set #[] 0 (.fresh 0 0 (!w.params.followText "set-order")) }).get? s.heap.objs.size = some { cls := .type "set", dict := none, data := .set #[] 0 (.fresh 0 0 (!w.params.followText "set-order")) } := Heap.get?_push_size _ rfl
      have hT : Shared.TypeIs { s with heap := s.heap.push { cls := .type "set", dict := none, data := .set #[] 0 (.fresh 0 0 (!w.params.followText "set-order")) } } (.ref s.heap.objs.size) "set" := ⟨_, hS, rfl⟩
      have hli := F.called_set.init.lookup
      have hbi := F.called_set.init.bind (.ref s.heap.objs.size)
      repeat (any_goals (first | assumption | wp_step))

      refine codeAny_mono (codeAny_call_builtin (R := wants (fun r s₂ => r = .none ∧ ∃ h' tk c, s₂ = { s with heap := h', toks := tk } ∧ SetR w h' s.heap.objs.size (fun j => decide (j ∈ ns)) c ∧ c ≤ ns.length ∧
          (∀ b o, s.heap.get? b = some o → h'.get? b = some o)) E) F.called_set.init.plain F.entry_set_init (check_set_init_1 hT ?_)) fun r₂ s₂ hr₂ => ?_
      · obtain ⟨ol, hol, hcl, nl, hdl⟩ := hl
        obtain ⟨ocls, odict, odata, oslots⟩ := ol
        simp only at hcl hdl
        subst hcl; subst hdl
        have hol' : (s.heap.push { cls := .type "set", dict := none, data := .set #[] 0 (.fresh 0 0 (!w.params.followText "set-order")) }).get? l = some { cls := .type "list", dict := odict, data := .seq items nl, slots := oslots } := Heap.get?_push_of_some _ hol
        have hsls := F.sub_list_set
        have hslf := F.sub_list_frozenset
        have hne : (Value.type "list" == Value.type "dict") = false := by decide
        have hl1 : (s.heap.push { cls := .type "set", dict := none, data := .set #[] 0 (.fresh 0 0 (!w.params.followText "set-order")) }).IsList l items := ⟨_, hol', rfl, nl, rfl⟩
        unfold Builtin.«set.__init__» noKeywords Builtin.Frozenset.updateFrom
        generalize hPI : pyIter = PI
        wp_walk
        subst hPI

        refine wpAny_pyIter_list hl1 ?_
        refine wpAny_bind (wpAny_runValue ?_)
        have hlS : l < s.heap.objs.size := Heap.lt_size hol
        have hh3 : A.in1.in1.in1.handled = none := by simp [hh]
        have hz1 : (s.heap.push { cls := .type "set", dict := none, data := .set #[] 0 (.fresh 0 0 (!w.params.followText "set-order")) }).objs.size = s.heap.objs.size + 1 := Heap.size_push ..
        have hneI : l ≠ (s.heap.push { cls := .type "set", dict := none, data := .set #[] 0 (.fresh 0 0 (!w.params.followText "set-order")) }).objs.size := by
          rw [Heap.size_push]; exact Nat.ne_of_lt (Nat.lt_succ_of_lt hlS)
        have hSf : s.heap.objs.size ∉ [(s.heap.push { cls := .type "set", dict := none, data := .set #[] 0 (.fresh 0 0 (!w.params.followText "set-order")) }).objs.size, l] := by
          rw [Heap.size_push]; simp only [List.mem_cons, List.mem_singleton, List.not_mem_nil, or_false, not_or]
          exact ⟨Nat.ne_of_lt (Nat.lt_succ_self _), Nat.ne_of_gt hlS⟩
        have hval : ∀ (i : Nat) (v : Value), items[i]? = some v → ∃ k t, ns[i]? = some k ∧ v = .int k t := fun i v hv => by
          have hi : i < ns.length := by rw [← hisz]; exact (Array.getElem?_eq_some_iff.mp hv).1
          obtain ⟨t, e⟩ := PyProof.Rows.IntsAre.int_at hit i v (by rw [Array.getElem?_toList]; exact hv)
          refine ⟨ns[i], t, List.getElem?_eq_getElem hi, ?_⟩
          rw [e, List.getD_eq_getElem?_getD, List.getElem?_eq_getElem hi] <;> rfl
        refine set_update_ints ((Walks.list hh3 _ l hneI items).toS) s.heap.objs.size
          hSf ns hisz hb hval (items.size - 0) 0 _ (by omega) (Nat.zero_le _)
          ⟨⟨_, Heap.get?_push_size _ rfl, rfl, rfl⟩, (hl1.push _)⟩ ?hS0 ?hR
        case hS0 =>
          have hget : ((s.heap.push { cls := .type "set", dict := none, data := .set #[] 0 (.fresh 0 0 (!w.params.followText "set-order")) }).push { cls := .type "list_iterator", data := .fields #[.ref l, .int 0 0] }).get? s.heap.objs.size
              = some { cls := .type "set", dict := none, data := .set #[] 0 (.fresh 0 0 (!w.params.followText "set-order")) } := Heap.get?_push_of_some _ hS
          exact ⟨0, Nat.le_refl 0, setR_new_at hget⟩
        case hR =>
          intro s' c' hm hc' hS'
          obtain ⟨h', g2, d', tk', os'⟩ := s'
          have eg : g2 = s.gens := hm.gens
          have ed : d' = s.drawn := hm.drawn
          have eo : os' = s.os := hm.os
          subst eg; subst ed; subst eo
          show wpAny _ _ _ _ _ _
          refine wpAny_pure ?_
          show wpAny _ _ (ret Value.none) _ _ _
          rw [hisz] at hc'
          refine wpAny_pure ⟨rfl, h', tk', c', rfl, hS', hc', fun b o e => ?_⟩
          have hb0 : b < s.heap.objs.size := Heap.lt_size e
          have hb1 : b ≠ s.heap.objs.size := Nat.ne_of_lt hb0
          have hb2 : b ≠ (s.heap.push { cls := .type "set", dict := none, data := .set #[] 0 (.fresh 0 0 (!w.params.followText "set-order")) }).objs.size := by
            rw [Heap.size_push]; exact Nat.ne_of_lt (Nat.lt_succ_of_lt hb0)
          exact hm.heap b o (by simp only [List.mem_cons, List.mem_singleton, List.not_mem_nil, or_false, not_or]; exact ⟨hb1, hb2⟩) (Heap.get?_push_of_some _ (Heap.get?_push_of_some _ e))

      · cases r₂ with
        | error e => exact hr₂
        | ok fl₂ =>
          cases fl₂ with
          | ret r =>
            obtain ⟨rfl, h', tk, c', rfl, hS', hc', hk'⟩ := hr₂
            repeat (any_goals (first | assumption | wp_step))
            exact h _ _ _ hS' hc' hk'
          | _ => exact hr₂.elim
    | _ => exact hr.elim

end
end L2
namespace DL
open PySem L2
theorem cr_setI {X : Cx} (hc : X.calm = true) : CallR X (.type "set") (fun xs H Q => ∃ (p : Addr) (ns : List Int), xs = [.ref p] ∧ SqL X.K H p (ns.map V.int) ∧ ns.length < 1000 ∧ ∀ a c, H a = none → c ≤ ns.length → Q (.ref a) (upd H a (SetO X.w a (fun j => decide (j ∈ ns)) c))) := by
  intro pins s σ H xs us Q I r h
  obtain ⟨p, ns, rfl, hq, hl, q⟩ := h
  obtain ⟨u, rfl, rx⟩ := vals1 r
  cases rx
  obtain ⟨its, rv, hL, hz⟩ := I.list hq
  have hi := ints_of_vals rv
  refine call_set_listI ns (I.ok.hd hc) hL.isList (by simpa using hi) (by unfold scanBound; omega) fun h' tk c R hc kp => ?_
  exact ⟨.ref s.heap.objs.size, _, I.laid (t' := tk) kp (Nat.le_refl _) (setO_new R), rfl, q _ _ (I.hok.fresh (Nat.le_refl _)) hc⟩

/-! ### sorted(set(l)) -/
def insU (x : Int) : List Int → List Int
  | [] => [x]
  | y :: r => if x < y then x :: y :: r else if x = y then y :: r else y :: insU x r
def setI (ns : List Int) : List Int := ns.foldr insU []
theorem insU_mem {x k : Int} : ∀ l : List Int, k ∈ insU x l ↔ k = x ∨ k ∈ l
  | [] => by simp [insU]
  | y :: r => by
    unfold insU
    split
    · simp
    · split
      · rename_i h; subst h; simp
      · rw [List.mem_cons, insU_mem r, List.mem_cons]
        constructor
        · rintro (h | h | h) <;> simp [h]
        · rintro (h | h | h) <;> simp [h]
theorem insU_lt {x : Int} : ∀ l : List Int, l.Pairwise (· < ·) → (insU x l).Pairwise (· < ·)
  | [], _ => by simp [insU]
  | y :: r, h => by
    rw [List.pairwise_cons] at h
    unfold insU
    split
    · rename_i hx
      refine List.pairwise_cons.mpr ⟨fun z hz => ?_, List.pairwise_cons.mpr h⟩
      rcases List.mem_cons.mp hz with e | e
      · rw [e]; exact hx
      · have := h.1 z e; omega
    · split
      · exact List.pairwise_cons.mpr h
      · refine List.pairwise_cons.mpr ⟨fun z hz => ?_, insU_lt r h.2⟩
        rcases (insU_mem r).mp hz with e | e
        · omega
        · exact h.1 z e
theorem setI_mem {k : Int} : ∀ l : List Int, k ∈ setI l ↔ k ∈ l
  | [] => by simp [setI]
  | y :: r => by
    show k ∈ insU y (setI r) ↔ _
    rw [insU_mem, setI_mem r, List.mem_cons]
theorem setI_lt : ∀ l : List Int, (setI l).Pairwise (· < ·)
  | [] => .nil
  | y :: r => insU_lt _ (setI_lt r)
theorem lt_unique {xs ys : List Int} (hx : xs.Pairwise (· < ·)) (hy : ys.Pairwise (· < ·)) (h : ∀ k, k ∈ xs ↔ k ∈ ys) : xs = ys := by
  have nx : xs.Nodup := hx.imp fun h e => by omega
  have ny : ys.Nodup := hy.imp fun h e => by omega
  exact sorted_unique ((List.perm_ext_iff_of_nodup nx ny).2 h) (hx.imp fun h => Int.le_of_lt h) (hy.imp fun h => Int.le_of_lt h)
def sSetS : D → Option (List D)
  | .list ds => (ints? ds).bind fun ns => if ns.length < 64 then some ((setI ns).map PyData.int) else none
  | _ => none
theorem setO_lst {w : World} {a : Addr} {S : Int → Bool} {n : Nat} : ∀ xs, ¬ (SetO w a S n = HO.lst xs ∨ ∃ u, SetO w a S n = .frz u (.lst xs)) := fun xs z => by
  unfold SetO at z
  rcases z with z | ⟨u, z⟩ <;> cases z
section
variable {X : Cx} {P : Pm} {a b : Expr} {f g : En → M D} {p p2 pos pos2 : Pos}
theorem d_sortSet (hc : X.calm = true) (hm : X.mg "sorted" = none) (hm2 : X.mg "set" = none) (ha : PE X a (tP P f)) (hg : Gl X "sorted" := by rfl) (hg2 : Gl X "set" := by rfl) (hv : bootBuiltins "sorted" = some (.builtin "sorted") := by kernel_rfl) (hv2 : bootBuiltins "set" = some (.type "set") := by kernel_rfl)
    (hK : P.b.K = X.K := by rfl)
    (hst : starEach [.Call (.Name "set" p2) [a] [] pos2] X.env = (false, eval (.Call (.Name "set" p2) [a] [] pos2) X.env) :: starEach [] X.env := by rfl) (hst2 : starEach [a] X.env = (false, eval a X.env) :: starEach [] X.env := by rfl) :
    PE X (.Call (.Name "sorted" p) [.Call (.Name "set" p2) [a] [] pos2] [] pos) (tN P (f1N sSetS f)) :=
  (pe_callB (cr_sortedSet hc) hg hm hv (pa_cons (pe_callTy (cr_setI hc) hg2 hm2 hv2 (pa_cons ha pa_nil hst2) (he := hst2)) pa_nil hst) (he := hst)).wk fun σ H Q ⟨O, ε, ok, w⟩ => ⟨O, ε, ok, by
    unfold f1N at w
    cases hf : f ε with
    | er x => rw [hf] at w; exact w
    | ok d =>
      rw [hf, bnd_ok] at w
      intro v H1 e1 hv
      cases hz0 : sSetS d with
      | none => rw [hz0] at w; exact False.elim w
      | some rs =>
        rw [hz0, opt_some] at w
        unfold sSetS at hz0
        split at hz0
        · rename_i ds
          cases hz : ints? ds with
          | none => rw [hz] at hz0; cases hz0
          | some ns =>
            rw [hz, Option.bind_some] at hz0
            split at hz0
            · rename_i hlen
              cases hz0
              obtain ⟨q, vs, rfl, hr, hd⟩ := hv.lst
              rw [ints?_eq hz] at hd
              have hvv := hd.ints
              subst hvv
              refine ⟨q, ns, rfl, .inl hr, by omega, fun t c nt hc => ?_⟩
              have et : Ext P.b.T H1 (upd H1 t (SetO X.w t (fun j => decide (j ∈ ns)) c)) := Ext.laid nt fun xs h => absurd h (setO_lst xs)
              refine ⟨t, _, c, rfl, upd_same, by omega, fun out r hs hmm hl nr => ?_⟩
              have e : out = setI ns := lt_unique hs (setI_lt ns) fun k => by rw [hmm k, setI_mem, decide_eq_true_eq]
              subst e
              have h16 := sizeLine_eq
              have e12 : Ext P.b.T (upd H1 t (SetO X.w t (fun j => decide (j ∈ ns)) c)) (upd (upd H1 t (SetO X.w t (fun j => decide (j ∈ ns)) c)) r (.lst ((setI ns).map V.int))) := Ext.lst nr (by rw [List.length_map, hl]; omega)
              have nr1 : H1 r = none := by
                cases hr1 : H1 r with
                | none => rfl
                | some o =>
                  rw [upd_ne (ne_of_none hr1 nt), hr1] at nr
                  cases nr
              have nrH : Nw H r := (Nw.of nr1).back e1.kept
              exact w r _ _ ((e1.trans et).trans e12) nrH upd_same (RpAll.ofInts _)
            · cases hz0
        · cases hz0⟩

/-! ### two ints -/
def SemC2 (K : PySem.W.Frag) (r : List V → Hp → VK → Prop) (sem : D → D → Option D) : Prop := ∀ x y d e z H (Q : VK), Rp K H x d → Rp K H y e → sem d e = some z → (∀ v, (∀ H', Rp K H' v z) → Q v H) → r [x, y] H Q
theorem d_call2 {x : Str} {id : String} {r : List V → Hp → VK → Prop} {sem : D → D → Option D} (hc : CallR X (.builtin id) r) (hs : SemC2 P.b.K r sem) (hm : X.mg x = none) (hv : bootBuiltins x = some (.builtin id)) (ha : PE X a (tQ P f)) (hb : PE X b (tQ P g)) (hg : Gl X x := by rfl) (hn : x ≠ "__name__" := by decide) (hdb : (x == ("__debug__" : Str)) = false := by decide)
    (hst : starEach [a, b] X.env = (false, eval a X.env) :: starEach [b] X.env := by rfl) (hst2 : starEach [b] X.env = (false, eval b X.env) :: starEach [] X.env := by rfl) : PE X (.Call (.Name x p) [a, b] [] pos) (tS P (f2 sem f g)) :=
  (pe_callB hc hg hm hv (pa_cons ha (pa_cons hb pa_nil hst2) hst) hn hdb (he := hst) (hpl := by rw [hst2]; rfl)).wk fun σ H Q h =>
    seq2 (k := fun x y H => r [x, y] H Q) (fun x y d e z H' h1 h2 h3 h4 => hs x y d e z H' Q h1 h2 h3 h4) h
def sMax2 : D → D → Option D
  | .int i, .int j => some (.int (if j > i then j else i))
  | _, _ => none
def sMin2 : D → D → Option D
  | .int i, .int j => some (.int (if j < i then j else i))
  | _, _ => none
theorem sm_max2 {K : PySem.W.Frag} : SemC2 K (fun xs H Q => ∃ i j, xs = [.int i, .int j] ∧ Q (.int (if j > i then j else i)) H) sMax2 := by
  intro x y d e z H Q hx hy hz k
  unfold sMax2 at hz
  split at hz
  · cases hz
    cases hx
    cases hy
    exact ⟨_, _, rfl, k _ fun _ => .int _⟩
  · cases hz
theorem sm_min2 {K : PySem.W.Frag} : SemC2 K (fun xs H Q => ∃ i j, xs = [.int i, .int j] ∧ Q (.int (if j < i then j else i)) H) sMin2 := by
  intro x y d e z H Q hx hy hz k
  unfold sMin2 at hz
  split at hz
  · cases hz
    cases hx
    cases hy
    exact ⟨_, _, rfl, k _ fun _ => .int _⟩
  · cases hz
end
end DL

/-! ## several names at once; a list made anew on one line; dicts of one's own -/
namespace DL
open PySem L2

/-! ### what waits to be stored -/
theorem Ok.left {B : Bs} {O : Addr → Prop} {σ ps : St} {H : Hp} {ε es : En} (ok : Ok B O (σ ++ ps) H (ε ++ es)) (hl : σ.length = ε.length) : Ok B O σ H ε := by
  refine ⟨ok.keep, ok.tabs, ok.size, ok.sub, ok.dom, hl, fun i s ov h1 h2 => ?_, fun i j s u w hij h1 h2 o1 o2 h3 h4 => ?_⟩
  · exact ok.slot i s ov (by rw [List.getElem?_append_left (List.getElem?_eq_some_iff.mp h1).1]; exact h1) (by rw [List.getElem?_append_left (List.getElem?_eq_some_iff.mp h2).1]; exact h2)
  · exact ok.sep i j s u w hij (by rw [List.getElem?_append_left (List.getElem?_eq_some_iff.mp h1).1]; exact h1) (by rw [List.getElem?_append_left (List.getElem?_eq_some_iff.mp h2).1]; exact h2) o1 o2
      (by rw [List.getElem?_append_left (List.getElem?_eq_some_iff.mp h3).1]; exact h3) (by rw [List.getElem?_append_left (List.getElem?_eq_some_iff.mp h4).1]; exact h4)
theorem snoc_get {α : Type} {l : List α} {x y : α} {i : Nat} (h : (l ++ [x])[i]? = some y) : (i < l.length ∧ l[i]? = some y) ∨ (i = l.length ∧ y = x) := by
  by_cases e : i < l.length
  · rw [List.getElem?_append_left e] at h
    exact .inl ⟨e, h⟩
  · rw [List.getElem?_append_right (by omega)] at h
    have hi : i - l.length = 0 := by
      have := (List.getElem?_eq_some_iff.mp h).1
      simp at this
      omega
    rw [hi] at h
    simp at h
    exact .inr ⟨by omega, h.symm⟩
theorem Ok.snocDat {B : Bs} {O : Addr → Prop} {σ : St} {H : Hp} {ε : En} (ok : Ok B O σ H ε) {v : V} {d : D} (h : Rp B.K (hide O H) v d) : Ok B O (σ ++ [some v]) H (ε ++ [.dat d]) := by
  have hl := ok.len
  refine ⟨ok.keep, ok.tabs, ok.size, ok.sub, ok.dom, by simp [hl], fun i s ov h1 h2 => ?_, fun i j s u w hij h1 h2 o1 o2 h3 h4 => ?_⟩
  · rcases snoc_get h1 with ⟨q, a⟩ | ⟨q, a⟩
    · rcases snoc_get h2 with ⟨q2, b⟩ | ⟨q2, b⟩
      · exact ok.slot i s ov a b
      · omega
    · rcases snoc_get h2 with ⟨q2, b⟩ | ⟨q2, b⟩
      · omega
      · subst a b
        exact ⟨v, rfl, h⟩
  · rcases snoc_get h1 with ⟨q, a⟩ | ⟨q, a⟩
    · rcases snoc_get h2 with ⟨q2, b⟩ | ⟨q2, b⟩
      · rcases snoc_get h3 with ⟨q3, c⟩ | ⟨q3, c⟩
        · rcases snoc_get h4 with ⟨q4, d⟩ | ⟨q4, d⟩
          · exact ok.sep i j s u w hij a b o1 o2 c d
          · omega
        · omega
      · subst b
        cases o2
    · subst a
      cases o1
theorem Ok.snocOwn {B : Bs} {O : Addr → Prop} {σ : St} {H H' : Hp} {ε : En} (ok : Ok B O σ H ε) (ext : Ext B.T H H') {a : Addr} {s : Sl} {o : HO} (n : Nw H a) (ha : H' a = some o) (ht : ∀ ps, o ≠ .tbl ps) (hs : SlotR B (fun b => O b ∨ b = a) H' s (some (.ref a))) :
    Ok B (fun b => O b ∨ b = a) (σ ++ [some (.ref a)]) H' (ε ++ [s]) := by
  have ok' : Ok B (fun b => O b ∨ b = a) σ H' ε := ok.ext ext (fun b h => .inl h) fun b h => by
    rcases h with h | h
    · exact .inl h
    · exact .inr (by rw [h]; exact ⟨n, o, ha, ht⟩)
  have fresh : ∀ (j : Nat) (t : Sl), ε[j]? = some t → owns t = true → σ[j]? = some (some (.ref a)) → False := fun j t h1 h2 h3 => by
    obtain ⟨ov, q1, q2⟩ := slotAt ok h1
    rw [h3] at q1
    cases q1
    cases t with
    | lst _ => obtain ⟨b, _, eb, hb, _⟩ := q2; cases eb; exact ok.not0 n hb
    | dic _ => obtain ⟨b, _, eb, hb, _⟩ := q2; cases eb; exact ok.not0 n hb
    | _ => cases h2
  have hl := ok.len
  refine ⟨ok'.keep, ok'.tabs, ok'.size, ok'.sub, ok'.dom, by simp [hl], fun i t ov h1 h2 => ?_, fun i j t u w hij h1 h2 o1 o2 h3 h4 => ?_⟩
  · rcases snoc_get h1 with ⟨q, x⟩ | ⟨q, x⟩
    · rcases snoc_get h2 with ⟨q2, y⟩ | ⟨q2, y⟩
      · exact ok'.slot i t ov x y
      · omega
    · rcases snoc_get h2 with ⟨q2, y⟩ | ⟨q2, y⟩
      · omega
      · subst x y
        exact hs
  · rcases snoc_get h1 with ⟨q, x⟩ | ⟨q, x⟩
    · rcases snoc_get h3 with ⟨q3, c⟩ | ⟨q3, c⟩
      · rcases snoc_get h2 with ⟨q2, y⟩ | ⟨q2, y⟩
        · rcases snoc_get h4 with ⟨q4, d⟩ | ⟨q4, d⟩
          · exact ok.sep i j t u w hij x y o1 o2 c d
          · omega
        · rcases snoc_get h4 with ⟨q4, d⟩ | ⟨q4, d⟩
          · omega
          · cases d
            exact fresh i t x o1 c
      · omega
    · rcases snoc_get h3 with ⟨q3, c⟩ | ⟨q3, c⟩
      · omega
      · cases c
        rcases snoc_get h2 with ⟨q2, y⟩ | ⟨q2, y⟩
        · rcases snoc_get h4 with ⟨q4, d⟩ | ⟨q4, d⟩
          · exact fresh j u y o2 d
          · omega
        · omega
/-- what waits first is stored -/
theorem Ok.move {B : Bs} {O : Addr → Prop} {σ ps : St} {H : Hp} {ε es : En} {v : Option V} {s : Sl} (ok : Ok B O (σ ++ v :: ps) H (ε ++ s :: es)) (hl : σ.length = ε.length) (i : Nat) : Ok B O (σ.set i v ++ ps) H (ε.set i s ++ es) := by
  have back : ∀ {α : Type} {l r : List α} {x y : α} {j : Nat}, (l.set i x ++ r)[j]? = some y → ∃ m, (l ++ x :: r)[m]? = some y ∧ m = (if j < l.length then (if i = j then l.length else j) else j + 1) := fun {α l r x y j} h => by
    by_cases e : j < l.length
    · rw [List.getElem?_append_left (by rw [List.length_set]; exact e)] at h
      by_cases ei : i = j
      · subst ei
        rw [List.getElem?_set_self e] at h
        refine ⟨l.length, ?_, by rw [if_pos e, if_pos rfl]⟩
        rw [List.getElem?_append_right (Nat.le_refl _), Nat.sub_self]
        exact h
      · rw [List.getElem?_set_ne ei] at h
        refine ⟨j, ?_, by rw [if_pos e, if_neg ei]⟩
        rw [List.getElem?_append_left e]
        exact h
    · rw [List.getElem?_append_right (by rw [List.length_set]; omega), List.length_set] at h
      refine ⟨j + 1, ?_, by rw [if_neg e]⟩
      rw [List.getElem?_append_right (by omega), show j + 1 - l.length = (j - l.length) + 1 by omega, List.getElem?_cons_succ]
      exact h
  have hlen := ok.len
  refine ⟨ok.keep, ok.tabs, ok.size, ok.sub, ok.dom, by simp only [List.length_append, List.length_set, List.length_cons] at hlen ⊢; omega, fun j t ov h1 h2 => ?_, fun j k t u w hjk h1 h2 o1 o2 h3 h4 => ?_⟩
  · obtain ⟨m, a1, e1⟩ := back h1
    obtain ⟨m2, a2, e2⟩ := back h2
    rw [hl] at e2
    rw [← e1] at e2
    subst e2
    exact ok.slot _ t ov a1 a2
  · obtain ⟨m, a1, e1⟩ := back h1
    obtain ⟨n, a2, e2⟩ := back h2
    obtain ⟨m2, a3, e3⟩ := back h3
    obtain ⟨n2, a4, e4⟩ := back h4
    rw [hl, ← e1] at e3
    rw [hl, ← e2] at e4
    subst e3 e4
    refine ok.sep _ _ t u w (fun z => hjk ?_) a1 a2 o1 o2 a3 a4
    rw [e1, e2] at z
    split at z <;> split at z <;> (try split at z) <;> (try split at z) <;> omega

/-- kinds of what is stored -/
inductive Kd where
  | S (f : En → M D)
  | N (f : En → M (List D))
  | E
@[simp] def evK : Kd → En → M Sl
  | .S f, ε => bnd (f ε) fun d => .ok (.dat d)
  | .N f, ε => bnd (f ε) fun ds => .ok (.lst ds)
  | .E, _ => .ok (.dic [])
@[simp] def evKs : List Kd → En → M (List Sl)
  | [], _ => .ok []
  | k :: ks, ε => bnd (evK k ε) fun s => bnd (evKs ks ε) fun ss => .ok (s :: ss)
@[simp] def setS : List Nat → List Sl → En → En
  | i :: is, s :: ss, ε => setS is ss (ε.set i s)
  | _, _, ε => ε
@[simp] def parD (is : List Nat) (ks : List Kd) : En → M Fl := fun ε => bnd (evKs ks ε) fun ss => .ok (.nx (setS is ss ε))
/-- {}: a new dict -/
def tE0 (P : Pm) : TE := fun σ H Q => ∃ O ε, Ok P.b O σ H ε ∧ ∀ a H', Ext P.b.T H H' → Nw H a → H' a = some (.dK []) → Q (.ref a) H'
def tK (P : Pm) : Kd → TE
  | .S f => tS P f
  | .N f => tN P f
  | .E => tE0 P
def tKs (P : Pm) : List Kd → TA
  | [] => tNil
  | k :: ks => tCons (tK P k) (tKs P ks)
theorem par_run {P : Pm} : ∀ (ks : List Kd) (σ : St) (H : Hp) (O : Addr → Prop) (ε : En) (ps : St) (es : En) (Q : List V → Hp → Prop), σ.length = ε.length → Ok P.b O (σ ++ ps) H (ε ++ es) →
    (match evKs ks ε with
      | .ok ss => ∀ O' vs H', Ok P.b O' (σ ++ (ps ++ vs.map some)) H' (ε ++ (es ++ ss)) → vs.length = ks.length → ss.length = ks.length → Kept (hide O H) (hide O' H') → Q vs H'
      | .er e => outE P e) → tKs P ks σ H Q
  | [], σ, H, O, ε, ps, es, Q, hl, ok, w => by
    refine w O [] H ?_ rfl rfl (LamX.ExtN.refl _)
    rw [List.map_nil, List.append_nil, List.append_nil]
    exact ok
  | k :: ks, σ, H, O, ε, ps, es, Q, hl, ok, w => by
    have rest : ∀ (s : Sl) (v : V) (O1 : Addr → Prop) (H1 : Hp), evK k ε = .ok s → Ok P.b O1 (σ ++ (ps ++ [some v])) H1 (ε ++ (es ++ [s])) → Kept (hide O H) (hide O1 H1) → tKs P ks σ H1 fun vs H2 => Q (v :: vs) H2 := fun s v O1 H1 hs ok1 k1 => by
      refine par_run ks σ H1 O1 ε (ps ++ [some v]) (es ++ [s]) _ hl ok1 ?_
      simp only [evKs] at w
      rw [hs, bnd_ok] at w
      cases hks : evKs ks ε with
      | er x => rw [hks] at w; exact w
      | ok ss =>
        rw [hks, bnd_ok] at w
        intro O' vs H' ok' e1 e2 k'
        refine w O' (v :: vs) H' ?_ (by simp [e1]) (by simp [e2]) (k1.trans k')
        rw [List.append_assoc ps, List.append_assoc es] at ok'
        simpa using ok'
    have okl := ok.left hl
    have fail : ∀ x, evK k ε = .er x → outE P x := fun x hx => by
      simp only [evKs] at w
      rw [hx] at w
      exact w
    cases k with
    | S f =>
      refine ⟨O, ε, okl, ?_⟩
      cases hf : f ε with
      | er x => exact fail x (by simp [hf])
      | ok d =>
        intro v H1 e1 hv
        refine rest (.dat d) v O H1 (by simp [hf]) ?_ e1.kept.hide
        rw [← List.append_assoc, ← List.append_assoc]
        exact (ok.more e1).snocDat hv
    | N f =>
      refine ⟨O, ε, okl, ?_⟩
      cases hf : f ε with
      | er x => exact fail x (by simp [hf])
      | ok ds =>
        intro a vs H1 e1 n ha hd
        refine rest (.lst ds) (.ref a) _ H1 (by simp [hf]) ?_ (kept_own (O' := fun b => O b ∨ b = a) e1.kept fun b z => ?_)
        · rw [← List.append_assoc, ← List.append_assoc]
          exact ok.snocOwn e1 n ha (fun _ z => by cases z) ⟨a, vs, rfl, .inr rfl, fun z => ok.not0 n (ok.sub a z), n.back ok.keep, ha, hd⟩
        · rcases z with z | z
          · exact .inl z
          · exact .inr (by rw [z]; exact n)
    | E =>
      refine ⟨O, ε, okl, fun a H1 e1 n ha => ?_⟩
      refine rest (.dic []) (.ref a) _ H1 rfl ?_ (kept_own (O' := fun b => O b ∨ b = a) e1.kept fun b z => ?_)
      · rw [← List.append_assoc, ← List.append_assoc]
        exact ok.snocOwn e1 n ha (fun _ z => by cases z) ⟨a, [], rfl, .inr rfl, fun z => ok.not0 n (ok.sub a z), n.back ok.keep, ha, rfl, .nil⟩
      · rcases z with z | z
        · exact .inl z
        · exact .inr (by rw [z]; exact n)
section
variable {X : Cx} {P : Pm} {e e1 e2 e3 : Expr} {pos : Pos}
theorem k_S {f : En → M D} (h : PE X e (tS P f)) : PE X e (tK P (.S f)) := h
theorem k_N {f : En → M (List D)} (h : PE X e (tN P f)) : PE X e (tK P (.N f)) := h
theorem k_E : PE X (.Dict [] [] pos) (tK P .E) := pe_dnewK.wk fun σ H Q ⟨O, ε, ok, w⟩ => fun p hp => w p _ (Ext.laid hp fun xs h => by
  rcases h with h | ⟨_, h⟩ <;> cases h) (.of hp) upd_same
theorem par_set {is : List Nat} {ks : List Kd} {Dn : Ends} {σ : St} {H : Hp} {Q : List V → Hp → Prop} (w : tD P (parD is ks) Dn σ H) (hn : is.length = ks.length)
    (hQ : ∀ vs H', vs.length = ks.length → (∀ σ', σ' = (is.zip vs).foldl (fun σ p => σ.set p.1 (some p.2)) σ → Dn.nx σ' H') → Q vs H') : tKs P ks σ H Q := by
  obtain ⟨O, ε, ok, w⟩ := w
  refine par_run ks σ H O ε [] [] Q ok.len (by simpa using ok) ?_
  unfold parD at w
  cases hks : evKs ks ε with
  | er x => rw [hks] at w; exact w
  | ok ss =>
    rw [hks, bnd_ok] at w
    intro O' vs H' ok' e1 e2 k
    refine hQ vs H' e1 fun σ' es => w σ' H' O' ?_ k
    subst es
    simp only [List.nil_append] at ok'
    have go : ∀ (is : List Nat) (vs : List V) (ss : List Sl) (σ : St) (ε : En), is.length = vs.length → vs.length = ss.length → σ.length = ε.length → Ok P.b O' (σ ++ vs.map some) H' (ε ++ ss) → Ok P.b O' ((is.zip vs).foldl (fun σ p => σ.set p.1 (some p.2)) σ) H' (setS is ss ε) := by
      intro is
      induction is with
      | nil =>
        intro vs ss σ ε h1 h2 hl ok
        cases vs with
        | cons _ _ => simp at h1
        | nil =>
          cases ss with
          | cons _ _ => simp at h2
          | nil => simpa using ok
      | cons i is ih =>
        intro vs ss σ ε h1 h2 hl ok
        cases vs with
        | nil => simp at h1
        | cons v vs =>
          cases ss with
          | nil => simp at h2
          | cons s ss =>
            exact ih vs ss _ _ (by simpa using h1) (by simpa using h2) (by simp [hl]) (Ok.move ok hl i)
    exact go is vs ss σ ε (by rw [hn, e1]) (by rw [e1, e2]) ok.len ok'
theorem s_par {i j : Nat} {x y : Str} {px py pt : Pos} {kt k2 pt2} {k k' : Kd} (hc : X.calm = true) (hN : X.N.Nodup) (ha : PE X e1 (tK P k)) (hb : PE X e2 (tK P k')) (hw : swappedStores [.Tuple [.Name x px, .Name y py] kt pt] (.Tuple [e1, e2] k2 pt2) X.env = pure (some [x, y]))
    (hij : i ≠ j := by decide) (hi : X.N[i]? = some x := by rfl) (hj : X.N[j]? = some y := by rfl) (hx : X.env.scope.names.lookup x = some .local := by rfl) (hy : X.env.scope.names.lookup y = some .local := by rfl)
    (hs : swapsWithSole [.Tuple [.Name x px, .Name y py] kt pt] (.Tuple [e1, e2] k2 pt2) pos.line X.env = pure false := by rfl)
    (hst : starEach [e1, e2] X.env = (false, eval e1 X.env) :: starEach [e2] X.env := by rfl) (hst2 : starEach [e2] X.env = (false, eval e2 X.env) :: starEach [] X.env := by rfl) :
    PS X (.Assign [.Tuple [.Name x px, .Name y py] kt pt] (.Tuple [e1, e2] k2 pt2) pos) (tD P (parD [i, j] [k, k'])) :=
  (ps_par hc hN hi hj hij hx hy (pa_cons ha (pa_cons hb pa_nil hst2) hst) hw hs).wk fun Dn σ H w => par_set (ks := [k, k']) w rfl fun vs H' hl q => by
    match vs, hl with
    | [v, u], _ => exact ⟨v, u, rfl, q _ rfl⟩
theorem s_par3 {i j l : Nat} {x y z : Str} {px py pz pt : Pos} {kt k2 pt2} {k k' k'' : Kd} (hc : X.calm = true) (hN : X.N.Nodup) (ha : PE X e1 (tK P k)) (hb : PE X e2 (tK P k')) (hd : PE X e3 (tK P k'')) (hw : swappedStores [.Tuple [.Name x px, .Name y py, .Name z pz] kt pt] (.Tuple [e1, e2, e3] k2 pt2) X.env = pure (some [x, y, z]))
    (hij : i ≠ j := by decide) (hil : i ≠ l := by decide) (hjl : j ≠ l := by decide) (hi : X.N[i]? = some x := by rfl) (hj : X.N[j]? = some y := by rfl) (hl : X.N[l]? = some z := by rfl) (hx : X.env.scope.names.lookup x = some .local := by rfl) (hy : X.env.scope.names.lookup y = some .local := by rfl) (hz : X.env.scope.names.lookup z = some .local := by rfl)
    (hs : swapsWithSole [.Tuple [.Name x px, .Name y py, .Name z pz] kt pt] (.Tuple [e1, e2, e3] k2 pt2) pos.line X.env = pure false := by rfl)
    (hst : starEach [e1, e2, e3] X.env = (false, eval e1 X.env) :: starEach [e2, e3] X.env := by rfl) (hst2 : starEach [e2, e3] X.env = (false, eval e2 X.env) :: starEach [e3] X.env := by rfl) (hst3 : starEach [e3] X.env = (false, eval e3 X.env) :: starEach [] X.env := by rfl) :
    PS X (.Assign [.Tuple [.Name x px, .Name y py, .Name z pz] kt pt] (.Tuple [e1, e2, e3] k2 pt2) pos) (tD P (parD [i, j, l] [k, k', k''])) :=
  (ps_par3 hc hN hi hj hl hij hil hjl hx hy hz (pa_cons ha (pa_cons hb (pa_cons hd pa_nil hst3) hst2) hst) hw hs).wk fun Dn σ H w => par_set (ks := [k, k', k'']) w rfl fun vs H' hl q => by
    match vs, hl with
    | [v, u, t], _ => exact ⟨v, u, t, rfl, q _ rfl⟩
/-- x = {} -/
theorem s_new {i : Nat} {x : Str} {px : Pos} {k : Kd} (hN : X.N.Nodup) (he : PE X e (tK P k)) (hi : X.N[i]? = some x := by rfl) (hx : Loc X.env.scope x := by first | exact .inl rfl | exact .inr rfl) (hs : swapsWith e (some (.Name x px)) pos.line X.env = pure false := by rfl) (hf : X.fn x = true ∨ X.env.scope.names.lookup x = some .local := by first | exact .inl rfl | exact .inr rfl) :
    PS X (.Assign [.Name x px] e pos) (tD P (parD [i] [k])) := (ps_set hN hi hx he hs hf).wk fun Dn σ H w => by
  have h := par_set (ks := [k]) (Q := fun vs H' => ∃ v, vs = [v] ∧ Dn.nx (σ.set i (some v)) H') w rfl fun vs H' hl q => by
    match vs, hl with
    | [v], _ => exact ⟨v, rfl, q _ rfl⟩
  have h2 : tK P k σ H fun v H1 => ∃ u, [v] = [u] ∧ Dn.nx (σ.set i (some u)) H1 := h
  have mono : ∀ {Q Q' : VK}, (∀ v H, Q v H → Q' v H) → tK P k σ H Q → tK P k σ H Q' := fun {Q Q'} m t => by
    cases k with
    | S f =>
      obtain ⟨O, ε, ok, w⟩ := t
      refine ⟨O, ε, ok, ?_⟩
      cases hf : f ε with
      | er x => rw [hf] at w; exact w
      | ok d => rw [hf] at w; exact fun v H' e1 hv => m _ _ (w v H' e1 hv)
    | N f =>
      obtain ⟨O, ε, ok, w⟩ := t
      refine ⟨O, ε, ok, ?_⟩
      cases hf : f ε with
      | er x => rw [hf] at w; exact w
      | ok d => rw [hf] at w; exact fun a vs H' e1 n ha hd => m _ _ (w a vs H' e1 n ha hd)
    | E =>
      obtain ⟨O, ε, ok, w⟩ := t
      exact ⟨O, ε, ok, fun a H' e1 n ha => m _ _ (w a H' e1 n ha)⟩
  exact mono (fun v H1 ⟨u, e, q⟩ => by cases e; exact q) h2

/-! ### a tuple is unpacked -/
@[simp] def unpD (tg : Tg) (f : En → M D) : En → M Fl := fun ε => bnd (f ε) fun d => bnd (asg tg d ε) fun ε' => .ok (.nx ε')
theorem asg_er {tg : Tg} {d : D} {ε : En} {x : Er} (h : asg tg d ε = .er x) : x = .stuck := by
  cases tg with
  | nm j => cases h
  | tp is =>
    cases d <;> simp only [asg] at h <;> first | (cases h; rfl) | (split at h <;> first | (cases h; rfl) | cases h)
theorem s_unp {tgE : Expr} {f : En → M D} (tg : Tg) (he : PE X e (tS P f)) (hg : PG X tgE (tgG P.b.K tg)) (hs : swapsWithSole [tgE] e pos.line X.env = pure false := by rfl) (hw : swappedStores [tgE] e X.env = pure none := by rfl)
    (h1 : (assignEach [tgE] X.env).map (·.2) = [assign tgE X.env] := by rfl) : PS X (.Assign [tgE] e pos) (tD P (unpD tg f)) := (ps_asg he hg hs hw h1).wk fun Dn σ H ⟨O, ε, ok, w⟩ => ⟨O, ε, ok, by
  unfold unpD at w
  cases hf : f ε with
  | er x => rw [hf] at w; exact w
  | ok d =>
    rw [hf, bnd_ok] at w
    intro v H1 e1 hv
    cases ha : asg tg d ε with
    | er x =>
      rw [ha] at w
      rw [asg_er ha] at w
      exact False.elim w
    | ok ε' =>
      rw [ha, bnd_ok] at w
      exact tg_ok (vw := tg.slots) (ok.more e1) hv ha (fun _ h => h) fun σ' ok' _ => w σ' H1 O ok' e1.kept.hide⟩

/-! ### a list of one's own is given away: it is data from now on -/
def frzE (i : Nat) (ε : En) : M En := match ε[i]? with
  | some (.lst ds) => .ok (ε.set i (.dat (.list ds)))
  | some (.dat d) => .ok ε
  | _ => stuck
@[simp] def frzD (i : Nat) (F : En → M Fl) : En → M Fl := fun ε => bnd (frzE i ε) F
theorem Ok.freeze {B : Bs} {O : Addr → Prop} {σ : St} {H : Hp} {ε ε' : En} {i : Nat} (ok : Ok B O σ H ε) (h : frzE i ε = .ok ε') : ∃ O', Ok B O' σ H ε' ∧ Kept (hide O H) (hide O' H) := by
  unfold frzE at h
  split at h
  · rename_i ds hs
    cases h
    obtain ⟨ov, h1, h2⟩ := slotAt ok hs
    obtain ⟨a, vs, rfl, hO, h0, hn, hH, hd⟩ := h2
    have kk : Kept (hide O H) (hide (fun b => O b ∧ b ≠ a) H) := kept_unhide fun b z => z.1
    refine ⟨fun b => O b ∧ b ≠ a, ⟨ok.keep, ok.tabs, ok.size, fun b hb => ⟨ok.sub b hb, fun z => h0 (by rw [← z]; exact hb)⟩, fun b hb => ok.dom b hb.1, by rw [List.length_set]; exact ok.len, fun j t ov h3 h4 => ?_, fun j k t u w hjk h3 h4 o1 o2 h5 h6 => ?_⟩, kk⟩
    · by_cases hj : i = j
      · subst hj
        rw [List.getElem?_set_self (List.getElem?_eq_some_iff.mp hs).1] at h3
        cases h3
        rw [h1] at h4
        cases h4
        exact ⟨.ref a, rfl, .lst (.inl (hide_some.mpr ⟨fun z => z.2 rfl, hH⟩)) (RpAll_mono kk _ _ hd)⟩
      · rw [List.getElem?_set_ne hj] at h3
        have sl := ok.slot j t ov h3 h4
        cases t with
        | un => trivial
        | adr a => exact sl
        | dat d => obtain ⟨v, e, hq⟩ := sl; exact ⟨v, e, Rp_mono kk _ _ hq⟩
        | scr ns => obtain ⟨b, e, hq⟩ := sl; exact ⟨b, e, sqL_kept kk hq⟩
        | lst es =>
          obtain ⟨b, ws, e, a1, a2, a3, a4, a5⟩ := sl
          have nb : b ≠ a := fun z => ok.sep i j _ _ (.ref a) hj hs h3 rfl rfl h1 (by rw [h4, e, z])
          exact ⟨b, ws, e, ⟨a1, nb⟩, a2, a3, a4, RpAll_mono kk _ _ a5⟩
        | dic kvs =>
          obtain ⟨b, ws, e, a1, a2, a3, a4, a5⟩ := sl
          have nb : b ≠ a := fun z => ok.sep i j _ _ (.ref a) hj hs h3 rfl rfl h1 (by rw [h4, e, z])
          exact ⟨b, ws, e, ⟨a1, nb⟩, a2, a3, a4, a5.mono kk⟩
    · have back : ∀ {m : Nat} {x : Sl}, (ε.set i (.dat (.list ds)))[m]? = some x → owns x = true → ε[m]? = some x := fun {m x} h o => by
        by_cases e : i = m
        · subst e
          rw [List.getElem?_set_self (List.getElem?_eq_some_iff.mp hs).1] at h
          cases h
          cases o
        · rw [List.getElem?_set_ne e] at h
          exact h
      exact ok.sep j k t u w hjk (back h3 o1) (back h4 o2) o1 o2 h5 h6
  · cases h
    exact ⟨O, ok, LamX.ExtN.refl _⟩
  · cases h
theorem frzE_er {i : Nat} {ε : En} {x : Er} (h : frzE i ε = .er x) : x = .stuck := by
  unfold frzE at h
  split at h
  · cases h
  · cases h
  · cases h; rfl
theorem s_frz {sts : List Stmt} {F : En → M Fl} (i : Nat) (h : PSs X sts (tD P F)) : PSs X sts (tD P (frzD i F)) := h.wk fun Dn σ H w => by
  obtain ⟨O, ε, ok, w⟩ := tD_iff.mp w
  unfold frzD at w
  cases hf : frzE i ε with
  | er x =>
    rw [hf, frzE_er hf] at w
    exact False.elim w
  | ok ε' =>
    rw [hf, bnd_ok] at w
    obtain ⟨O', ok', k⟩ := ok.freeze hf
    exact tD_iff.mpr ⟨O', ε', ok', w.on k⟩

/-! ### name = [comprehension] on one line -/
theorem s_setLc {i : Nat} {y : Str} {py : Pos} {elt iter tgE : Expr} {ifs : List Expr} {scope : Scope} {spos : Pos} {it : En → M (List D)} {c : En → M Bool} {f : En → M D} (own : List (Str × Nat)) (tg : Tg) (hc : X.calm = true) (hN : X.N.Nodup) (hi : PI X tgE iter (tIt P true it)) (ok : BlkOk X.N X.env.scope scope own)
    (hg : ∀ (s : Shared) (H : Hp) (C : Addr) (cl : List (Str × Addr)) (fp : List Addr), PG (X.blk s H scope (compEnvC scope cl C X.env) fp) tgE (tgG P.b.K tg)) (ht : ∀ (s : Shared) (H : Hp) (C : Addr) (cl : List (Str × Addr)) (fp : List Addr), PTs (X.blk s H scope (compEnvC scope cl C X.env) fp) ifs (tT P.n c))
    (he : ∀ (s : Shared) (H : Hp) (C : Addr) (cl : List (Str × Addr)) (fp : List Addr), PE (X.blk s H scope (compEnvC scope cl C X.env) fp) elt (tS P.n f))
    (hsw : swapsWith (.ListComp elt [⟨tgE, iter, ifs, 0⟩] scope pos) (some (.Name y py)) spos.line X.env = pure true) (hv : ∀ i ∈ tg.slots, i ∈ own.map (·.2) := by decide) (hy : X.N[i]? = some y := by rfl) (hyl : X.env.scope.names.lookup y = some .local := by rfl) (hs : ∀ x, foldedSetIterable iter X.env x = pure x := by intro _; rfl) :
    PS X (.Assign [.Name y py] (.ListComp elt [⟨tgE, iter, ifs, 0⟩] scope pos) spos) (tD P (setN i (comp tg c f (own.map (·.2)) it))) :=
  (ps_setLc hc hN hy hyl hsw hi ok hg ht he hs).wk fun Dn σ H w => comp_run (fun _ z => z) hv (fun _ _ _ z => z) (fun _ _ _ z => z) (asg_own w)
end
end DL

/-! ## dicts of one's own -/
namespace DL
open PySem L2

def keyD : D → Option Key
  | .int i => some (.inl i)
  | .str x => some (.inr x)
  | _ => none
theorem keyD_V {K : PySem.W.Frag} {H : Hp} {v : V} {d : D} {k : Key} (h : Rp K H v d) (e : keyD d = some k) : v = kV k := by
  cases h <;> cases e <;> rfl
def valD (kvs : List (Key × D)) (k : Key) : Option D := (kvs.find? fun kv => decide (kv.1 = k)).map (·.2)
def putKD (kvs : List (Key × D)) (k : Key) (v : D) : List (Key × D) :=
  if (kvs.any fun kv => decide (kv.1 = k)) = true then kvs.map (fun kv => if kv.1 = k then (kv.1, v) else kv) else kvs ++ [(k, v)]
def dropKD (kvs : List (Key × D)) (k : Key) : List (Key × D) := kvs.filter fun kv => decide (kv.1 ≠ k)
theorem kvD_nil {K : PySem.W.Frag} {H : Hp} {ws : List (Key × V)} (h : KvD K H ws []) : ws = [] := by
  have := h.1
  simpa using this
theorem kvD_cons {K : PySem.W.Frag} {H : Hp} {ws : List (Key × V)} {p : Key × D} {kvs : List (Key × D)} (h : KvD K H ws (p :: kvs)) : ∃ v r, ws = (p.1, v) :: r ∧ Rp K H v p.2 ∧ KvD K H r kvs := by
  obtain ⟨h1, h2⟩ := h
  cases ws with
  | nil => simp at h1
  | cons w r =>
    simp only [List.map_cons, List.cons.injEq] at h1
    simp only [List.map_cons] at h2
    cases h2 with
    | cons a b =>
      refine ⟨w.2, r, ?_, a, h1.2, b⟩
      rw [← h1.1]
theorem KvD.cons {K : PySem.W.Frag} {H : Hp} {v : V} {p : Key × D} {ws : List (Key × V)} {kvs : List (Key × D)} (hv : Rp K H v p.2) (h : KvD K H ws kvs) : KvD K H ((p.1, v) :: ws) (p :: kvs) := ⟨by simp [h.1], .cons hv h.2⟩
theorem kvD_val {K : PySem.W.Frag} {H : Hp} {k : Key} : ∀ {kvs : List (Key × D)} {ws : List (Key × V)}, KvD K H ws kvs → (valD kvs k = none ∧ valV ws k = none) ∨ ∃ d v, valD kvs k = some d ∧ valV ws k = some v ∧ Rp K H v d
  | [], ws, h => by
    rw [kvD_nil h]
    exact .inl ⟨rfl, rfl⟩
  | p :: kvs, ws, h => by
    obtain ⟨v, r, rfl, hv, hr⟩ := kvD_cons h
    by_cases e : p.1 = k
    · exact .inr ⟨p.2, v, by simp [valD, e], valV_pos (p := (p.1, v)) e, hv⟩
    · have e1 : valD (p :: kvs) k = valD kvs k := by simp [valD, List.find?_cons, e]
      rw [e1, valV_neg (p := (p.1, v)) e]
      exact kvD_val hr
theorem kvD_any {K : PySem.W.Frag} {H : Hp} {k : Key} : ∀ {kvs : List (Key × D)} {ws : List (Key × V)}, KvD K H ws kvs → (ws.any fun kv => decide (kv.1 = k)) = (kvs.any fun kv => decide (kv.1 = k))
  | [], ws, h => by rw [kvD_nil h]; rfl
  | p :: kvs, ws, h => by
    obtain ⟨v, r, rfl, hv, hr⟩ := kvD_cons h
    rw [List.any_cons, List.any_cons, kvD_any hr]
theorem kvD_map {K : PySem.W.Frag} {H : Hp} {k : Key} {x : V} {y : D} (hx : Rp K H x y) : ∀ {kvs : List (Key × D)} {ws : List (Key × V)}, KvD K H ws kvs → KvD K H (ws.map fun kv => if kv.1 = k then (kv.1, x) else kv) (kvs.map fun kv => if kv.1 = k then (kv.1, y) else kv)
  | [], ws, h => by rw [kvD_nil h]; exact ⟨rfl, .nil⟩
  | p :: kvs, ws, h => by
    obtain ⟨v, r, rfl, hv, hr⟩ := kvD_cons h
    rw [List.map_cons, List.map_cons]
    by_cases e : p.1 = k
    · rw [if_pos e, if_pos e]
      exact KvD.cons (p := (p.1, y)) hx (kvD_map hx hr)
    · rw [if_neg e, if_neg e]
      exact KvD.cons (p := p) hv (kvD_map hx hr)
theorem kvD_snoc {K : PySem.W.Frag} {H : Hp} {k : Key} {x : V} {y : D} (hx : Rp K H x y) {kvs : List (Key × D)} {ws : List (Key × V)} (h : KvD K H ws kvs) : KvD K H (ws ++ [(k, x)]) (kvs ++ [(k, y)]) := by
  refine ⟨by rw [List.map_append, List.map_append, h.1]; rfl, ?_⟩
  rw [List.map_append, List.map_append]
  exact h.2.append (.cons hx .nil)
theorem kvD_put {K : PySem.W.Frag} {H : Hp} {k : Key} {x : V} {y : D} (hx : Rp K H x y) {kvs : List (Key × D)} {ws : List (Key × V)} (h : KvD K H ws kvs) : KvD K H (putK ws k x) (putKD kvs k y) := by
  unfold putK putKD
  rw [kvD_any h]
  split
  · exact kvD_map hx h
  · exact kvD_snoc hx h
theorem kvD_len {K : PySem.W.Frag} {H : Hp} {kvs : List (Key × D)} {ws : List (Key × V)} (h : KvD K H ws kvs) : ws.length = kvs.length := by
  have := congrArg List.length h.1
  simpa using this

section
variable {X : Cx} {P : Pm} {o e e2 value : Expr} {f g : En → M D} {pos tpos apos cpos : Pos}
/-- d[k] -/
@[simp] def dgF (i : Nat) (g : En → M D) : En → M D := fun ε => match ε[i]? with
  | some (.dic kvs) => bnd (g ε) fun d => bnd (opt (keyD d)) fun k => opt (valD kvs k)
  | _ => stuck
/-- d.get(k, x) -/
@[simp] def dg2F (i : Nat) (g f : En → M D) : En → M D := fun ε => match ε[i]? with
  | some (.dic kvs) => bnd (g ε) fun d => bnd (f ε) fun x => bnd (opt (keyD d)) fun k => .ok ((valD kvs k).getD x)
  | _ => stuck
/-- d[k] = v -/
@[simp] def dpD (i : Nat) (g f : En → M D) : En → M Fl := fun ε => bnd (f ε) fun d => match ε[i]? with
  | some (.dic kvs) => bnd (g ε) fun x => bnd (opt (keyD x)) fun k => if kvs.length < 1000000 then .ok (.nx (ε.set i (.dic (putKD kvs k d)))) else stuck
  | _ => stuck
theorem d_dget {i : Nat} (hu : X.A.units + 1 < cLine) (ho : PE X o (tVar i)) (hg : PE X e (tQ P g)) (hs : NoSl e := by exact fun _ _ => rfl) : PE X (.Subscript o e pos) (tS P (dgF i g)) := (pe_dget hu ho hg hs).wk fun σ H Q ⟨O, ε, ok, w⟩ => by
  unfold dgF at w
  cases hi : ε[i]? with
  | none => rw [hi] at w; exact False.elim w
  | some s =>
    rw [hi] at w
    cases s with
    | dic kvs =>
      obtain ⟨ov, h1, a, ws, rfl, hO, h0, hn, hH, hd⟩ := slotAt ok hi
      refine ⟨.ref a, h1, O, ε, ok, ?_⟩
      dsimp only at w
      cases hgv : g ε with
      | er x => rw [hgv] at w; exact w
      | ok d =>
        rw [hgv, bnd_ok] at w
        intro v H1 e1 hv
        cases hk : keyD d with
        | none => rw [hk] at w; exact False.elim w
        | some k =>
          rw [hk, opt_some, bnd_ok] at w
          have hH1 : H1 a = some (.dK ws) := e1.kept a _ hH (fun _ z => by cases z)
          rcases kvD_val (k := k) (hd.mono e1.kept.hide) with ⟨q1, q2⟩ | ⟨d', v', q1, q2, q3⟩
          · rw [q1] at w; exact False.elim w
          · rw [q1, opt_some] at w
            exact ⟨a, v', rfl, .inl ⟨ws, k, .inl hH1, keyD_V hv.now hk, q2.symm⟩, w v' H1 e1 q3⟩
    | _ => exact False.elim w
theorem d_dget2 {i : Nat} (hu : X.A.units + 1 < cLine) (ho : PE X o (tVar i)) (hg : PE X e (tQ P g)) (hf : PE X e2 (tS P f)) (m : M2 X o "get" apos e e2 cpos := by exact ⟨rfl, rfl, rfl, rfl⟩) : PE X (.Call (.Attribute o "get" apos) [e, e2] [] cpos) (tS P (dg2F i g f)) := (pe_dget2 hu ho hg hf m).wk fun σ H Q ⟨O, ε, ok, w⟩ => by
  unfold dg2F at w
  cases hi : ε[i]? with
  | none => rw [hi] at w; exact False.elim w
  | some s =>
    rw [hi] at w
    cases s with
    | dic kvs =>
      obtain ⟨ov, h1, a, ws, rfl, hO, h0, hn, hH, hd⟩ := slotAt ok hi
      refine ⟨.ref a, h1, a, rfl, .inl ⟨ws, .inl hH⟩, O, ε, ok, ?_⟩
      dsimp only at w
      cases hgv : g ε with
      | er x => rw [hgv] at w; exact w
      | ok d =>
        rw [hgv, bnd_ok] at w
        intro v H1 e1 hv
        refine ⟨O, ε, ok.more e1, ?_⟩
        cases hfv : f ε with
        | er x => rw [hfv] at w; exact w
        | ok x =>
          rw [hfv, bnd_ok] at w
          intro u H2 e2 hu2
          cases hk : keyD d with
          | none => rw [hk] at w; exact False.elim w
          | some k =>
            rw [hk, opt_some, bnd_ok] at w
            have e12 := e1.trans e2
            have hH2 : H2 a = some (.dK ws) := e12.kept a _ hH (fun _ z => by cases z)
            have hkv : v = kV k := keyD_V hv.now hk
            rcases kvD_val (k := k) (hd.mono e12.kept.hide) with ⟨q1, q2⟩ | ⟨d', v', q1, q2, q3⟩
            · rw [q1] at w
              exact ⟨none, .inl ⟨ws, k, .inl hH2, hkv, q2.symm⟩, w u H2 e12 hu2⟩
            · rw [q1] at w
              exact ⟨some v', .inl ⟨ws, k, .inl hH2, hkv, q2.symm⟩, w v' H2 e12 q3⟩
    | _ => exact False.elim w
theorem s_dput {i : Nat} (hu : X.A.units + 1 < cLine) (ho : PE X o (tVar i)) (hg : PE X e (tQ P g)) (hv : PE X value (tS P f)) (hs : swapsWith value (some (.Subscript o e tpos)) pos.line X.env = pure false := by rfl) :
    PS X (.Assign [.Subscript o e tpos] value pos) (tD P (dpD i g f)) := (ps_dput hu ho hg hv hs).wk fun Dn σ H w => by
  obtain ⟨O, ε, ok, w⟩ := tD_iff.mp w
  refine ⟨O, ε, ok, ?_⟩
  unfold dpD at w
  cases hf : f ε with
  | er x => rw [hf] at w; exact w
  | ok d =>
    rw [hf, bnd_ok] at w
    intro v H1 e1 hv
    cases hi : ε[i]? with
    | none => rw [hi] at w; exact False.elim w
    | some s =>
      rw [hi] at w
      cases s with
      | dic kvs =>
        have ok1 := ok.more e1
        obtain ⟨ov, q1, a, ws, rfl, hO, h0, hn, hH, hd⟩ := slotAt ok1 hi
        refine ⟨.ref a, q1, O, ε, ok1, ?_⟩
        dsimp only at w
        cases hg : g ε with
        | er x => rw [hg] at w; exact w
        | ok x =>
          rw [hg, bnd_ok] at w
          intro u H2 e2 hu2
          cases hk : keyD x with
          | none => rw [hk] at w; exact False.elim w
          | some k =>
            rw [hk, opt_some, bnd_ok] at w
            split at w
            · rename_i hlen
              have ok2 := ok1.more e2
              have hH2 : H2 a = some (.dK ws) := e2.kept a _ hH (fun _ z => by cases z)
              have hd2 := hd.mono e2.kept.hide
              have hv2 := Rp_mono e2.kept.hide _ _ hv
              have kw : Kept (hide O H2) (hide O (upd H2 a (.dK (putK ws k v)))) := kept_write hO
              obtain ⟨ok3, k3⟩ := ok2.writeOwn (s' := .dic (putKD kvs k d)) (o' := .dK (putK ws k v)) hi rfl q1 hO hn hH2 (fun _ z => by cases z) (fun _ z => by cases z)
                (fun xs h => by
                  rcases h with h | ⟨u, h⟩
                  · cases h
                  · cases h) dK_code ⟨a, _, rfl, hO, h0, hn, upd_same, (kvD_put hv2 hd2).mono kw⟩ rfl
              have h16 := sizeLine_eq
              exact ⟨a, _, rfl, .inl ⟨ws, k, hH2, keyD_V hu2.now hk, by rw [kvD_len hd2]; omega, rfl⟩, w σ _ O ok3 ((e1.kept.hide.trans e2.kept.hide).trans k3)⟩
            · exact False.elim w
      | _ => exact False.elim w
/-- sorted(d), keys ints -/
def intKeys : List (Key × D) → Option (List Int)
  | [] => some []
  | (.inl i, _) :: r => (intKeys r).map fun l => i :: l
  | _ => none
theorem intKeys_eq : ∀ {kvs : List (Key × D)} {ns : List Int}, intKeys kvs = some ns → kvs.map (·.1) = ns.map Sum.inl
  | [], ns, h => by cases h; rfl
  | (.inl i, d) :: r, ns, h => by
    simp only [intKeys, Option.map_eq_some_iff] at h
    obtain ⟨l, h1, rfl⟩ := h
    rw [List.map_cons, intKeys_eq h1]; rfl
  | (.inr _, _) :: _, _, h => by cases h
@[simp] def dsF (i : Nat) : En → M (List D) := fun ε => match ε[i]? with
  | some (.dic kvs) => bnd (opt (intKeys kvs)) fun ns => if ns.length < 64 then .ok ((sortI ns).map PyData.int) else stuck
  | _ => stuck
theorem d_sortD {i : Nat} {p : Pos} (hc : X.calm = true) (ho : PE X o (tVar i)) (hm : X.mg "sorted" = none) (hg : Gl X "sorted" := by rfl) (hv : bootBuiltins "sorted" = some (.builtin "sorted") := by kernel_rfl)
    (hst : starEach [o] X.env = (false, eval o X.env) :: starEach [] X.env := by rfl) : PE X (.Call (.Name "sorted" p) [o] [] cpos) (tN P (dsF i)) :=
  (pe_callB (call_sortedDI hc) hg hm hv (pa_cons ho pa_nil hst) (he := hst)).wk fun σ H Q ⟨O, ε, ok, w⟩ => by
    unfold dsF at w
    cases hi : ε[i]? with
    | none => rw [hi] at w; exact False.elim w
    | some s =>
      rw [hi] at w
      cases s with
      | dic kvs =>
        obtain ⟨ov, h1, a, ws, rfl, hO, h0, hn, hH, hd⟩ := slotAt ok hi
        dsimp only at w
        cases hk : intKeys kvs with
        | none => rw [hk] at w; exact False.elim w
        | some ns =>
          rw [hk, opt_some, bnd_ok] at w
          by_cases hlen : ns.length < 64
          · rw [if_pos hlen] at w
            refine ⟨.ref a, h1, a, ws, ns, rfl, .inl hH, by rw [hd.1, intKeys_eq hk], hlen, fun ys p hp hs hpn => ?_⟩
            have e : ys = sortI ns := sorted_unique (hp.trans (sortI_perm ns).symm) hs (sortI_sorted ns)
            subst e
            have h16 := sizeLine_eq
            exact w p _ _ (Ext.lst hpn (by rw [List.length_map, (sortI_perm ns).length_eq]; omega)) (.of hpn) upd_same (RpAll.ofInts _)
          · rw [if_neg hlen] at w
            exact False.elim w
      | _ => exact False.elim w
end
end DL

/-! ## defs; the script; the law -/
namespace DL
open PySem L2
open PyProof.Rows (envOfC)

theorem passL {X : Cx} : Passes (L2N.CX X.prog X.w) X E0 := fun _ _ _ _ _ _ _ h => by
  obtain ⟨_, _, _, _, _, _, _, _, _, _, _, _, z⟩ := h
  exact z.elim
/-- the promise of a def by its mirror, from a state of slots on -/
def spS (K : PySem.W.Frag) (T : List (Addr × Str)) (C : String → Addr) (N : List Str) (n : Nat) (Fb : En → M Fl) : Sp := fun vs H Q E => vs.length = n ∧ ∃ (O : Addr → Prop) (ε : En), Ok ⟨K, O, H, T⟩ O (L2.start N vs) H ε ∧ match Fb ε with
  | .ok (.nx _) => ∀ H', Bye ⟨K, O, H, T⟩ H' → Q .non H'
  | .ok (.rt d) => ∀ v H', Bye ⟨K, O, H, T⟩ H' → QS ⟨K, O, H, T⟩ H' v d → Q v H'
  | .ok (.bk _) => False
  | .ok (.ct _) => False
  | .er .stuck => False
  | .er (.exc c) => ∀ H', Bye ⟨K, O, H, T⟩ H' → E (.ref (C c)) none H'
section
variable {P : Program} {w : World} {K : PySem.W.Frag} {mg : Str → Option Value} {base : Heap} {T : List (Addr × Str)} {C : String → Addr}
theorem def_S {x qual : Str} {st : Stmt} {f : Addr} {fd : FuncData} {N ps : List Str} {k n : Nat} {Fb : En → M Fl} (F : Fun K x qual st f fd) (S : FnScope N ps (defScope st)) (hn : ps.length = n)
    (body : ∀ (cdv : Value) (A : Around) (outer : List Env) (s : Shared) (H : Hp) (E : XK) (O : Addr → Prop), Room k (A.deeper (envOfC qual (defScope st) s.heap.objs.size f cdv)) → PSs (cxOf (L2N.CX P w) P w K mg base N qual (defScope st) f cdv A outer s H E) (defBody st) (tD ⟨⟨K, O, H, T⟩, C, E⟩ Fb)) :
    FnOk P w K mg base (L2N.CX P w) (k + 1) f fd ps (spS K T C N n Fb) := by
  obtain ⟨oc, od, kV, doc, pm, an, cdv, ct, osl, rfl, lk, hcd⟩ := F.ex
  refine fn_of lk hcd S (fun vs H Q E h => by rw [hn]; exact h.1) fun A outer s H vs Q E hr h => ?_
  obtain ⟨_, O, ε, ok, h⟩ := h
  refine ⟨_, body cdv A outer s H E O hr, O, ε, ok, ?_⟩
  cases hf : Fb ε with
  | er e =>
    rw [hf] at h
    cases e with
    | stuck => exact h
    | exc c => exact h
  | ok fl =>
    rw [hf] at h
    cases fl with
    | rt d => exact h
    | nx ε' => exact fun σ' H' O' ok' k => h H' (bye ok')
    | bk ε' => exact h.elim
    | ct ε' => exact h.elim
/-- what a def's mirror makes of its arguments -/
def runF (len : Nat) (Fb : En → M Fl) : List D → M D := fun ds => bnd (Fb (ds.map Sl.dat ++ List.replicate (len - ds.length) Sl.un)) fun fl => match fl with
  | .nx _ => .ok .none
  | .rt d => .ok d
  | .bk _ => stuck
  | .ct _ => stuck
theorem getElem?_dats {ds : List D} {m i : Nat} {s : Sl} (h : (ds.map Sl.dat ++ List.replicate m Sl.un)[i]? = some s) : (∃ d, s = .dat d ∧ ds[i]? = some d) ∨ s = .un := by
  by_cases e : i < ds.length
  · rw [List.getElem?_append_left (by rw [List.length_map]; exact e), List.getElem?_map, List.getElem?_eq_getElem e] at h
    cases h
    exact .inl ⟨_, rfl, List.getElem?_eq_getElem e⟩
  · rw [List.getElem?_append_right (by rw [List.length_map]; omega)] at h
    exact .inr (List.eq_of_mem_replicate (List.mem_of_getElem? h))
theorem spS_D {N : List Str} {n : Nat} {Fb : En → M Fl} (hN : n ≤ N.length) : ∀ vs H Q E, spD K T C n (runF N.length Fb) vs H Q E → spS K T C N n Fb vs H Q E := fun vs H Q E ⟨O, ds, hn, hO, hT, hz, hd, h⟩ => by
  have hl : vs.length = n := by rw [hd.len, hn]
  refine ⟨hl, O, ds.map Sl.dat ++ List.replicate (N.length - ds.length) Sl.un, ⟨LamX.ExtN.refl _, hT, hz, fun _ z => z, hO, ?_, fun i s ov h1 h2 => ?_, fun i j s u v hij h1 h2 o1 o2 h3 h4 => ?_⟩, ?_⟩
  · unfold L2.start
    simp [hd.len]
  · rcases getElem?_dats h1 with ⟨d, rfl, e⟩ | rfl
    · obtain ⟨v, e1, e2⟩ := hd.get e
      unfold L2.start at h2
      have hi : i < vs.length := (List.getElem?_eq_some_iff.mp e1).1
      rw [List.getElem?_append_left (by rw [List.length_map]; exact hi), List.getElem?_map, e1] at h2
      cases h2
      exact ⟨v, rfl, e2⟩
    · trivial
  · rcases getElem?_dats h1 with ⟨d, rfl, e⟩ | rfl <;> cases o1
  · unfold runF at h
    have up : ∀ H', Bye ⟨K, O, H, T⟩ H' → Ext T H H' := fun H' b => ⟨b.kept, fun _ => b.tabs, fun _ => b.size⟩
    cases hf : Fb (ds.map Sl.dat ++ List.replicate (N.length - ds.length) Sl.un) with
    | er e =>
      rw [hf] at h
      cases e with
      | stuck => exact h
      | exc c => exact fun H' b => h H' (up H' b)
    | ok fl =>
      rw [hf, bnd_ok] at h
      cases fl with
      | rt d => exact fun v H' b q => h v H' (up H' b) q
      | nx ε' => exact fun H' b => h .non H' (up H' b) .non
      | bk ε' => exact h
      | ct ε' => exact h
/-- THE RULE for a def -/
theorem def_D {x qual : Str} {st : Stmt} {f : Addr} {fd : FuncData} {N ps : List Str} {k n : Nat} {Fb : En → M Fl} {m : List D → M D} (F : Fun K x qual st f fd) (S : FnScope N ps (defScope st)) (hn : ps.length = n)
    (body : ∀ (cdv : Value) (A : Around) (outer : List Env) (s : Shared) (H : Hp) (E : XK) (O : Addr → Prop), Room k (A.deeper (envOfC qual (defScope st) s.heap.objs.size f cdv)) → PSs (cxOf (L2N.CX P w) P w K mg base N qual (defScope st) f cdv A outer s H E) (defBody st) (tD ⟨⟨K, O, H, T⟩, C, E⟩ Fb))
    (hm : ∀ ds, ds.length = n → m ds = stuck ∨ m ds = runF N.length Fb ds) (hN : n ≤ N.length := by decide) :
    FnOk P w K mg base (L2N.CX P w) (k + 1) f fd ps (spD K T C n m) := (def_S F S hn body).imp fun vs H Q E q => spS_D hN vs H Q E (spD_le hm vs H Q E q)

/-! ### the script -/
section
variable {X : Cx} {Pm' : Pm} {o e : Expr} {g : En → M D} {p pos p2 : Pos} {i : Nat}
@[simp] def scrNil (i : Nat) : En → M Bool := fun ε => match ε[i]? with
  | some (.scr ns) => .ok (decide (ns = []))
  | _ => stuck
@[simp] def scrLen (i : Nat) : En → M D := fun ε => match ε[i]? with
  | some (.scr ns) => .ok (.int ns.length)
  | _ => stuck
@[simp] def scrIx (i : Nat) (g : En → M D) : En → M D := fun ε => match ε[i]? with
  | some (.scr ns) => bnd (g ε) fun d => bnd (opt (tI d)) fun k => bnd (opt (atI ns k)) fun n => .ok (.int n)
  | _ => stuck
theorem dpInts {H : Hp} : ∀ ns : List Int, DpAll K H (ns.map V.int) (ns.map PyData.int)
  | [] => .nil
  | n :: r => .cons (.int n) (dpInts r)
theorem shapedInts (ns : List Int) : SeqAt.shaped (.list (ns.map PyData.int)) = true := by
  have h1 : PyData.canLayAll0 (ns.map PyData.int) = true := by
    induction ns with
    | nil => rfl
    | cons n r ih =>
      simp only [List.map_cons, PyData.canLayAll0, PyData.canLay0, Bool.true_and]
      exact ih
  have h2 : PyData.depthAll (ns.map PyData.int) ≤ 1 := by
    clear h1
    induction ns with
    | nil => simp [PyData.depthAll]
    | cons n r ih => simp only [List.map_cons, PyData.depthAll, PyData.depth]; omega
  unfold SeqAt.shaped
  have h3 : PyData.canLay0 (.list (ns.map PyData.int)) = true := h1
  have h4 : PyData.depth (.list (ns.map PyData.int)) ≤ 64 := by
    simp only [PyData.depth]
    omega
  rw [h3, Bool.true_and]
  exact decide_eq_true h4
theorem t_scrNil (hu : X.A.units + 64 < cLine) (ho : PE X o (tVar i)) (hK : Pm'.b.K = X.K := by rfl) : PT X (.Compare o [.Eq] [.List [] p2] pos) (tT Pm' (scrNil i)) :=
  (pt_cmpR (op_eqD hu) ho (toQ (toP (toS (d_lstn (P := Pm') an_nil)))) rfl).wk fun σ H Q ⟨O, ε, ok, w⟩ => by
    unfold scrNil at w
    cases hi : ε[i]? with
    | none => rw [hi] at w; exact False.elim w
    | some s =>
      rw [hi] at w
      cases s with
      | scr ns =>
        obtain ⟨ov, h1, a, rfl, hq⟩ := slotAt ok hi
        refine ⟨.ref a, h1, O, ε, ok, ?_⟩
        intro v H1 e1 hv
        have hd : Dp X.K H1 (.ref a) (.list (ns.map PyData.int)) := by
          rw [← hK]
          exact .lst (sqL_kept kept_hide0 (sqL_kept e1.kept.hide hq)) (dpInts ns)
        have hd2 : Dp X.K H1 v (.list []) := by
          rw [← hK]
          exact Rp.dp _ _ hv.now
        have sh : SeqAt.shaped (.list (ns.map PyData.int)) = true := shapedInts ns
        refine ⟨.list (ns.map PyData.int), .list [], hd, hd2, sh, by decide, decide (ns = []), ?_, w H1 e1⟩
        cases ns with
        | nil => rfl
        | cons n r => rfl
      | _ => exact False.elim w
theorem d_scrLen (hm : X.mg "len" = none) (ho : PE X o (tVar i)) (hg : Gl X "len" := by rfl) (hst : starEach [o] X.env = (false, eval o X.env) :: starEach [] X.env := by rfl) (hK : Pm'.b.K = X.K := by rfl) : PE X (.Call (.Name "len" p) [o] [] pos) (tS Pm' (scrLen i)) :=
  (pe_callB call_len_seq hg hm PySem.boot_len (pa_cons ho pa_nil hst) (he := hst)).wk fun σ H Q ⟨O, ε, ok, w⟩ => by
    unfold scrLen at w
    cases hi : ε[i]? with
    | none => rw [hi] at w; exact False.elim w
    | some s =>
      rw [hi] at w
      cases s with
      | scr ns =>
        obtain ⟨ov, h1, a, rfl, hq⟩ := slotAt ok hi
        refine ⟨.ref a, h1, a, ns.map V.int, rfl, .inl ?_, ?_⟩
        · rw [← hK]
          exact sqL_kept kept_hide0 hq
        · rw [List.length_map]
          exact w _ H (Ext.refl _ _) (.int _)
      | _ => exact False.elim w
theorem d_scrIx (ho : PE X o (tVar i)) (he : PE X e (tQ Pm' g)) (hp : PlainIx e := by exact fun _ _ => rfl) (hK : Pm'.b.K = X.K := by rfl) : PE X (.Subscript o e pos) (tS Pm' (scrIx i g)) := (pe_ix ix_seq ho he hp).wk fun σ H Q ⟨O, ε, ok, w⟩ => by
  unfold scrIx at w
  cases hi : ε[i]? with
  | none => rw [hi] at w; exact False.elim w
  | some s =>
    rw [hi] at w
    cases s with
    | scr ns =>
      obtain ⟨ov, h1, a, rfl, hq⟩ := slotAt ok hi
      refine ⟨.ref a, h1, O, ε, ok, ?_⟩
      dsimp only at w
      cases hg : g ε with
      | er x => rw [hg] at w; exact w
      | ok d =>
        rw [hg, bnd_ok] at w
        intro v H1 e1 hv
        cases hk : tI d with
        | none => rw [hk] at w; exact False.elim w
        | some k =>
          rw [hk, opt_some, bnd_ok] at w
          rw [tI_eq hk] at hv
          cases hv
          cases hn : atI ns k with
          | none => rw [hn] at w; exact False.elim w
          | some n =>
            rw [hn, opt_some, bnd_ok] at w
            have hq1 : SqL X.K H1 a (ns.map V.int) := by
              rw [← hK]
              exact sqL_kept kept_hide0 (sqL_kept e1.kept.hide hq)
            have hat : atI (ns.map V.int) k = some (V.int n) := by
              unfold atI at hn ⊢
              rw [List.length_map]
              cases hj : ixN ns.length k with
              | none => rw [hj] at hn; cases hn
              | some j =>
                rw [hj] at hn
                have hn' : ns[j]? = some n := hn
                show (ns.map V.int)[j]? = some (V.int n)
                rw [List.getElem?_map, hn']; rfl
            exact .inl ⟨a, _, k, _, rfl, rfl, hq1, hat, w _ H1 e1 (.int _)⟩
    | _ => exact False.elim w
end

/-! ### a def that takes the script and an int -/
def spCell (K : PySem.W.Frag) (T : List (Addr × Str)) (m : List Int → Int → M D) : Sp := fun vs H Q E => ∃ (O : Addr → Prop) (a : Addr) (ns : List Int) (k : Int), vs = [.ref a, .int k] ∧ (∀ a, O a → ∃ o, H a = some o ∧ ∀ ps, o ≠ .tbl ps) ∧ LamX.Tabs T H ∧ Sz H ∧ SqL K (hide O H) a (ns.map V.int) ∧ match m ns k with
  | .ok d => ∀ v H', Ext T H H' → Rp K (hide O H') v d → Q v H'
  | .er _ => False
/-- what such a def's mirror makes of the two -/
def runC (Fb : En → M Fl) (ns : List Int) (k : Int) : M D := bnd (Fb [.scr ns, .dat (.int k)]) fun fl => match fl with
  | .rt d => .ok d
  | _ => stuck
theorem def_cell {x qual : Str} {st : Stmt} {f : Addr} {fd : FuncData} {N ps : List Str} {k : Nat} {Fb : En → M Fl} (F : Fun K x qual st f fd) (S : FnScope N ps (defScope st)) (hn : ps.length = 2)
    (body : ∀ (cdv : Value) (A : Around) (outer : List Env) (s : Shared) (H : Hp) (E : XK) (O : Addr → Prop), Room k (A.deeper (envOfC qual (defScope st) s.heap.objs.size f cdv)) → PSs (cxOf (L2N.CX P w) P w K mg base N qual (defScope st) f cdv A outer s H E) (defBody st) (tD ⟨⟨K, O, H, T⟩, C, E⟩ Fb))
    (hN : N.length = 2 := by rfl) :
    FnOk P w K mg base (L2N.CX P w) (k + 1) f fd ps (spCell K T (runC Fb)) := (def_S F S hn body).imp fun vs H Q E ⟨O, a, ns, k, hv, hO, hT, hz, hq, h⟩ => by
  subst hv
  unfold runC at h
  refine ⟨rfl, O, [.scr ns, .dat (.int k)], ⟨LamX.ExtN.refl _, hT, hz, fun _ z => z, hO, ?_, fun i s ov h1 h2 => ?_, fun i j s u v hij h1 h2 o1 o2 h3 h4 => ?_⟩, ?_⟩
  · unfold L2.start
    simp [hN]
  · unfold L2.start at h2
    rw [hN] at h2
    match i, h1, h2 with
    | 0, h1, h2 => cases h1; cases h2; exact ⟨a, rfl, hq⟩
    | 1, h1, h2 => cases h1; cases h2; exact ⟨.int k, rfl, .int k⟩
    | i + 2, h1, h2 => cases h1
  · match i, h1 with
    | 0, h1 => cases h1; cases o1
    | 1, h1 => cases h1; cases o1
    | i + 2, h1 => cases h1
  · cases hf : Fb [.scr ns, .dat (.int k)] with
    | er e => rw [hf] at h; exact h.elim
    | ok fl =>
      rw [hf, bnd_ok] at h
      cases fl with
      | rt d => exact fun v H' b q => h v H' ⟨b.kept, fun _ => b.tabs, fun _ => b.size⟩ q
      | _ => exact False.elim h
section
variable {X : Cx} {Pm' : Pm} {o e : Expr} {g : En → M D} {p pos p2 : Pos} {i j n : Nat} {a : Addr} {fd : FuncData} {ps : List Str} {x : Str} {m : List Int → Int → M D}
@[simp] def cellF (m : List Int → Int → M D) (i : Nat) (g : En → M D) : En → M D := fun ε => match ε[i]? with
  | some (.scr ns) => bnd (g ε) fun d => bnd (opt (tI d)) fun k => hush (m ns k)
  | _ => stuck
theorem d_cell (F : FnOk X.prog X.w X.K X.mg X.base (L2N.CX X.prog X.w) n a fd ps (spCell X.K Pm'.b.T m)) (hr : Room n X.A) (hm : X.mg x = some (.ref a)) (hk : PySem.W.keepIn X.K (.ref a) = true) (hb : Binds X.K fd ps []) (ho : PE X o (tVar i)) (he : PE X e (tQ Pm' g))
    (hg : Gl X x := by rfl) (hK : Pm'.b.K = X.K := by rfl) (hdb : (x == ("__debug__" : Str)) = false := by decide) (hst : starEach [o, e] X.env = (false, eval o X.env) :: starEach [e] X.env := by rfl) (hst2 : starEach [e] X.env = (false, eval e X.env) :: starEach [] X.env := by rfl) :
    PE X (.Call (.Name x p) [o, e] [] pos) (tS Pm' (cellF m i g)) := (pe_call F hr hg hm hk hb .nil passL (pa_cons ho (pa_cons he pa_nil hst2) hst) hdb (he := hst) (hpl := by rw [hst2]; rfl)).wk fun σ H Q ⟨O, ε, ok, w⟩ => by
  unfold cellF at w
  cases hi : ε[i]? with
  | none => rw [hi] at w; exact False.elim w
  | some s =>
    rw [hi] at w
    cases s with
    | scr ns =>
      obtain ⟨ov, h1, a, rfl, hq⟩ := slotAt ok hi
      refine ⟨.ref a, h1, O, ε, ok, ?_⟩
      dsimp only at w
      cases hg : g ε with
      | er x => rw [hg] at w; exact w
      | ok d =>
        rw [hg, bnd_ok] at w
        intro v H1 e1 hv
        cases hk : tI d with
        | none => rw [hk] at w; exact False.elim w
        | some k =>
          rw [hk, opt_some, bnd_ok] at w
          rw [tI_eq hk] at hv
          cases hv
          have ok1 := ok.more e1
          refine ⟨O, a, ns, k, rfl, ok1.dom, ok1.tabs, ok1.size, ?_, ?_⟩
          · rw [← hK]
            exact sqL_kept e1.kept.hide hq
          · cases hmk : m ns k with
            | er y => rw [hmk] at w; exact False.elim w
            | ok d =>
              rw [hmk] at w
              exact fun v H' e2 hv => w v H' (e1.trans e2) (by rw [hK]; exact hv)
    | _ => exact False.elim w
end

/-! ### the law -/
def spLaw (K : PySem.W.Frag) (T : List (Addr × Str)) : Sp := fun vs H Q E => ∃ (a : Addr) (ns : List Int), vs = [.ref a] ∧ ns.length ≤ 63 ∧ SqL K H a (ns.map V.int) ∧ LamX.Tabs T H ∧ ∀ H', Q (.bl true) H'
theorem sz_of {H : Hp} {h : Heap} (hok : HOk P w H h) : Sz H := fun a xs hx => by
  rcases hx with hx | ⟨o, hx⟩
  · exact (hok a _ hx).1
  · exact (hok a _ hx).2.1
theorem hide_none {H : Hp} : hide (fun _ => False) H = H := by
  funext a
  unfold hide
  rw [if_neg (fun z => z)]
theorem def_law {x qual : Str} {st : Stmt} {f : Addr} {fd : FuncData} {N ps : List Str} {k : Nat} {Fb : En → M Fl} (F : Fun K x qual st f fd) (S : FnScope N ps (defScope st)) (hn : ps.length = 1)
    (body : ∀ (cdv : Value) (A : Around) (outer : List Env) (s : Shared) (H : Hp) (E : XK) (O : Addr → Prop), Room k (A.deeper (envOfC qual (defScope st) s.heap.objs.size f cdv)) → PSs (cxOf (L2N.CX P w) P w K mg base N qual (defScope st) f cdv A outer s H E) (defBody st) (tD ⟨⟨K, O, H, T⟩, C, E⟩ Fb))
    (hm : ∀ ns : List Int, ns.length ≤ 63 → Fb (.scr ns :: List.replicate (N.length - 1) .un) = .ok (.rt (.bool true))) (hN : 1 ≤ N.length := by decide) :
    FnOk P w K mg base (L2N.CX P w) (k + 1) f fd ps (spLaw K T) := by
  have G := def_S (mg := mg) (base := base) (T := T) (C := C) F S hn body
  refine ⟨fun vs H Q E ⟨a, ns, e, _⟩ => by rw [e, hn]; rfl, fun A outer s H args us vs Q E hr e0 hb hv ⟨a, ns, e, hl, hq, hT, q⟩ => G.run A outer s H args us vs Q E hr e0 hb hv ?_⟩
  subst e
  refine ⟨rfl, fun _ => False, .scr ns :: List.replicate (N.length - 1) .un, ⟨LamX.ExtN.refl _, hT, sz_of e0.hok, fun _ z => z, fun _ z => z.elim, ?_, fun i s ov h1 h2 => ?_, fun i j s u v hij h1 h2 o1 o2 h3 h4 => ?_⟩, ?_⟩
  · unfold L2.start
    simp
  · match i, h1, h2 with
    | 0, h1, h2 =>
      cases h1
      unfold L2.start at h2
      cases h2
      refine ⟨a, rfl, ?_⟩
      rw [hide_none]
      exact hq
    | i + 1, h1, h2 =>
      rw [List.getElem?_cons_succ] at h1
      have e : s = .un := List.eq_of_mem_replicate (List.mem_of_getElem? h1)
      subst e
      trivial
  · match i, h1 with
    | 0, h1 => cases h1; cases o1
    | i + 1, h1 =>
      rw [List.getElem?_cons_succ] at h1
      have e : s = .un := List.eq_of_mem_replicate (List.mem_of_getElem? h1)
      subst e
      cases o1
  · rw [hm ns hl]
    intro v H' b hv
    cases hv
    exact q H'
end
theorem cx_no {P : Program} {w : World} (H : Hp) (s : Shared) (e : Value) (s' : Shared) (h : L2N.CX P w [] H s (fun _ _ _ => False) e s') : False := by
  obtain ⟨_, _, _, _, _, _, _, _, _, _, _, _, z⟩ := h
  exact z
end DL

/-! ## words for printed terms -/
namespace DL
open PySem L2
open PyProof.Rows (envOfC)

/-- a def of the text, by its global name -/
def Raw (K : PySem.W.Frag) (mg : Str → Option Value) (x : Str) (st : Stmt) : Prop := ∃ f fd, Fun K x x st f fd ∧ mg x = some (.ref f)
theorem raw_mk {K : PySem.W.Frag} {mg : Str → Option Value} {h : Heap} {x : Str} {st : Stmt} {f : Addr} {oc : Value} {od an : Option Addr} {osl : Array (Option Value)} {kV doc pm cdv ct : Value} (KX : K.In h) (G : h.Ns mainGlobals mg) (a : PySem.W.nsIn K mainGlobals x = some (some (.ref f))) (l : K.lookup f = some ⟨oc, od, .func (PySem.W.fnOf x x (defArgs st) (defBody st) (defScope st) .none kV doc pm an cdv ct), osl⟩)
    (c : PySem.W.codeIn K cdv x = true) (k : PySem.W.keepIn K (.ref f) = true) : Raw K mg x st := ⟨f, _, fun_mk l c k, PySem.W.mg_of KX G a⟩
/-- a def that keeps its promise -/
def Has (P : Program) (w : World) (K : PySem.W.Frag) (mg : Str → Option Value) (base : Heap) (k : Nat) (x : Str) (ps : List Str) (sp : Sp) : Prop := ∃ f fd, FnOk P w K mg base (L2N.CX P w) k f fd ps sp ∧ mg x = some (.ref f) ∧ PySem.W.keepIn K (.ref f) = true ∧ Binds K fd ps []
section
variable {P : Program} {w : World} {K : PySem.W.Frag} {mg : Str → Option Value} {base : Heap} {T : List (Addr × Str)} {C : String → Addr}
theorem has_D {x : Str} {st : Stmt} {N ps : List Str} {k n : Nat} {Fb : En → M Fl} (R : Raw K mg x st) (hb : ∀ (kV doc pm : Value) (an : Option Addr) (cdv ct : Value) (us : List Value), us.length = ps.length → bindArgs (PySem.W.fnOf x x (defArgs st) (defBody st) (defScope st) .none kV doc pm an cdv ct) ⟨us, []⟩ = pure (ps.zip us)) (S : FnScope N ps (defScope st)) (hn : ps.length = n)
    (body : ∀ (cdv : Value) (f : Addr) (A : Around) (outer : List Env) (s : Shared) (H : Hp) (E : XK) (O : Addr → Prop), Room k (A.deeper (envOfC x (defScope st) s.heap.objs.size f cdv)) → PSs (cxOf (L2N.CX P w) P w K mg base N x (defScope st) f cdv A outer s H E) (defBody st) (tD ⟨⟨K, O, H, T⟩, C, E⟩ Fb)) (hN : n ≤ N.length := by decide) :
    Has P w K mg base (k + 1) x ps (spD K T C n (runF N.length Fb)) := by
  obtain ⟨f, fd, F, g⟩ := R
  exact ⟨f, fd, def_D F S hn (fun cdv A outer s H E O hr => body cdv f A outer s H E O hr) (fun _ _ => .inr rfl) hN, g, F.kp, F.binds hb⟩
theorem has_cell {x : Str} {st : Stmt} {N ps : List Str} {k : Nat} {Fb : En → M Fl} (R : Raw K mg x st) (hb : ∀ (kV doc pm : Value) (an : Option Addr) (cdv ct : Value) (us : List Value), us.length = ps.length → bindArgs (PySem.W.fnOf x x (defArgs st) (defBody st) (defScope st) .none kV doc pm an cdv ct) ⟨us, []⟩ = pure (ps.zip us)) (S : FnScope N ps (defScope st)) (hn : ps.length = 2)
    (body : ∀ (cdv : Value) (f : Addr) (A : Around) (outer : List Env) (s : Shared) (H : Hp) (E : XK) (O : Addr → Prop), Room k (A.deeper (envOfC x (defScope st) s.heap.objs.size f cdv)) → PSs (cxOf (L2N.CX P w) P w K mg base N x (defScope st) f cdv A outer s H E) (defBody st) (tD ⟨⟨K, O, H, T⟩, C, E⟩ Fb)) (hN : N.length = 2 := by rfl) :
    Has P w K mg base (k + 1) x ps (spCell K T (runC Fb)) := by
  obtain ⟨f, fd, F, g⟩ := R
  exact ⟨f, fd, def_cell F S hn (fun cdv A outer s H E O hr => body cdv f A outer s H E O hr) hN, g, F.kp, F.binds hb⟩
/-- the same by another mirror that is met wherever it tells something -/
theorem Has.le {k n : Nat} {x : Str} {ps : List Str} {m m' : List D → M D} (h : Has P w K mg base k x ps (spD K T C n m)) (hm : ∀ ds, ds.length = n → m' ds = stuck ∨ m' ds = m ds) : Has P w K mg base k x ps (spD K T C n m') := by
  obtain ⟨f, fd, F, r⟩ := h
  exact ⟨f, fd, F.imp (spD_le hm), r⟩
end

/-- an own exception's class over ValueError -/
structure ExcF (K : PySem.W.Frag) (mg : Str → Option Value) (x : Str) (C : Addr) : Prop where
  q : PySem.W.excIn K C [.type "ValueError", .type "Exception", .type "BaseException", .type "object"] "ValueError.__new__" = true
  g : mg x = some (.ref C)
  k : PySem.W.keepIn K (.ref C) = true
  b : PySem.W.subIn K (.ref C) (.type "BaseException") = some true
  t : PySem.W.typeIn K (.ref C) = some (.type "type")
section
variable {X : Cx} {P : Pm} {e : Expr} {es : List Expr} {fs : En → M (List D)} {k n : Nat} {ps : List Str} {m : List D → M D} {x : Str} {p p2 pos pos2 : Pos}
theorem room65 {A : Around} (h : Room k A) : A.units + 65 < cLine := by have := h.un; omega
theorem room1 {A : Around} (h : Room k A) : A.units + 1 < cLine := by have := h.un; omega
theorem d_callH {j : Nat} (hh : Has X.prog X.w X.K X.mg X.base j x ps (spD X.K P.b.T P.C n m)) (hr : Room k X.A) (hx : Passes (L2N.CX X.prog X.w) X P.E) (ha : PAn X P n (e :: es) fs) (hj : j ≤ k := by decide)
    (hg : Gl X x := by rfl) (hK : P.b.K = X.K := by rfl) (hdb : (x == ("__debug__" : Str)) = false := by decide) (he : starEach (e :: es) X.env = (false, eval e X.env) :: starEach es X.env := by rfl) (hpl : (backTo pos (starEach es X.env)).any (·.1) = false := by rfl) :
    PE X (.Call (.Name x p) (e :: es) [] pos) (tS P (callF m fs)) := by
  obtain ⟨f, fd, F, g, kp, b⟩ := hh
  exact d_call F (hr.mono hj) g kp b hx ha hg hK hdb he hpl
theorem d_callHQ {j : Nat} (hh : Has X.prog X.w X.K X.mg X.base j x ps (spD X.K P.b.T P.C n m)) (hr : Room k X.A) (hx : Passes (L2N.CX X.prog X.w) X P.E) (ha : PAq X P n (e :: es) fs) (hj : j ≤ k := by decide)
    (hg : Gl X x := by rfl) (hK : P.b.K = X.K := by rfl) (hdb : (x == ("__debug__" : Str)) = false := by decide) (he : starEach (e :: es) X.env = (false, eval e X.env) :: starEach es X.env := by rfl) (hpl : (backTo pos (starEach es X.env)).any (·.1) = false := by rfl) :
    PE X (.Call (.Name x p) (e :: es) [] pos) (tQ P (callF m fs)) := by
  obtain ⟨f, fd, F, g, kp, b⟩ := hh
  exact d_callQ F (hr.mono hj) g kp b hx ha hg hK hdb he hpl
theorem d_cellH {j i : Nat} {o : Expr} {g : En → M D} {mc : List Int → Int → M D} (hh : Has X.prog X.w X.K X.mg X.base j x ps (spCell X.K P.b.T mc)) (hr : Room k X.A) (ho : PE X o (tVar i)) (he : PE X e (tQ P g)) (hj : j ≤ k := by decide)
    (hg : Gl X x := by rfl) (hK : P.b.K = X.K := by rfl) (hdb : (x == ("__debug__" : Str)) = false := by decide) (hst : starEach [o, e] X.env = (false, eval o X.env) :: starEach [e] X.env := by rfl) (hst2 : starEach [e] X.env = (false, eval e X.env) :: starEach [] X.env := by rfl) :
    PE X (.Call (.Name x p) [o, e] [] pos) (tS P (cellF mc i g)) := by
  obtain ⟨f, fd, F, g, kp, b⟩ := hh
  exact d_cell F (hr.mono hj) g kp b ho he hg hK hdb hst hst2
theorem s_raiseE {cn : String} {ms : Str} {j : Nat} (hc : X.calm = true) (tk : L2N.Takes X fun cls d _ H => P.E cls d H) (h : ExcF X.K X.mg x (P.C cn)) (hg : Gl X x := by rfl) (hdb : (x == ("__debug__" : Str)) = false := by decide) :
    PS X (.Raise (some (.Call (.Name x p) [.Constant (.str ms) j p2] [] pos)) none pos2) (tD P (raiseD cn)) :=
  s_raise hc tk (L2N.pmk_own PySem.F.excBase_ValueError h.q h.g h.k (raises_own h.b h.t) hg hdb) (fun σ H => ⟨rfl, rfl, rfl⟩) (fun σ H q => q) fun σ H Q Q' q w => w _ _ _ q
/-- a name of the module that stands for data -/
theorem d_glob {u : Value} {v : V} {d : D} (hm : X.mg x = some u) (r : RelV v u) (hd : ∀ H, Rp P.b.K H v d) (hg : Gl X x := by rfl) (hdb : (x == ("__debug__" : Str)) = false := by decide) : PE X (.Name x pos) (tS P (kn d)) := dc (pe_glob hg hm r hdb) hd
theorem d_globI {i : Int} {t : Tok} (hm : X.mg x = some (.int i t)) (hg : Gl X x := by rfl) (hdb : (x == ("__debug__" : Str)) = false := by decide) : PE X (.Name x pos) (tS P (kn (.int i))) := d_glob (v := .int i) hm ⟨t, rfl⟩ (fun _ => .int i) hg hdb
/-- name = [comprehension] on one line, to be data -/
theorem s_setLcF {i : Nat} {y : Str} {py : Pos} {elt iter tgE : Expr} {ifs : List Expr} {scope : Scope} {spos : Pos} {it : En → M (List D)} {c : En → M Bool} {f : En → M D} (own : List (Str × Nat)) (tg : Tg) (hc : X.calm = true) (hN : X.N.Nodup) (hi : PI X tgE iter (tIt P true it)) (ok : BlkOk X.N X.env.scope scope own)
    (hg : ∀ (s : Shared) (H : Hp) (C : Addr) (cl : List (Str × Addr)) (fp : List Addr), PG (X.blk s H scope (compEnvC scope cl C X.env) fp) tgE (tgG P.b.K tg)) (ht : ∀ (s : Shared) (H : Hp) (C : Addr) (cl : List (Str × Addr)) (fp : List Addr), PTs (X.blk s H scope (compEnvC scope cl C X.env) fp) ifs (tT P.n c))
    (he : ∀ (s : Shared) (H : Hp) (C : Addr) (cl : List (Str × Addr)) (fp : List Addr), PE (X.blk s H scope (compEnvC scope cl C X.env) fp) elt (tS P.n f))
    (hsw : swapsWith (.ListComp elt [⟨tgE, iter, ifs, 0⟩] scope pos) (some (.Name y py)) spos.line X.env = pure true) (hv : ∀ i ∈ tg.slots, i ∈ own.map (·.2) := by decide) (hy : X.N[i]? = some y := by rfl) (hyl : X.env.scope.names.lookup y = some .local := by rfl) (hs : ∀ x, foldedSetIterable iter X.env x = pure x := by intro _; rfl) :
    PS X (.Assign [.Name y py] (.ListComp elt [⟨tgE, iter, ifs, 0⟩] scope pos) spos) (tD P (setNF i (comp tg c f (own.map (·.2)) it))) :=
  (ps_setLc hc hN hy hyl hsw hi ok hg ht he hs).wk fun Dn σ H w => comp_run (fun _ z => z) hv (fun _ _ _ z => z) (fun _ _ _ z => z) (asg_ownF w)
theorem passB {X : Cx} {E : XK} (tk : L2N.Takes X fun cls d _ H => E cls d H) : Passes (L2N.CX X.prog X.w) X E := L2N.passes_call tk fun _ _ _ _ h => h
/-- an expression for its own sake -/
@[simp] def exprD (f : En → M D) : En → M Fl := fun ε => bnd (f ε) fun _ => .ok (.nx ε)
theorem s_expr {f : En → M D} (he : PE X e (tQ P f)) (hs : swapsWith e none pos.line X.env = pure false := by rfl) : PS X (.Expr e pos) (tD P (exprD f)) := (ps_expr he hs).wk fun Dn σ H ⟨O, ε, ok, w⟩ => ⟨O, ε, ok, by
  unfold exprD at w
  cases hf : f ε with
  | er x => rw [hf] at w; exact w
  | ok d =>
    rw [hf, bnd_ok] at w
    exact fun v H' ext _ => w σ H' O (ok.more ext) ext.kept.hide⟩
end
end DL

/-! ## names of the module that stand for data -/
namespace DL
open PySem L2
def GlobD (K : PySem.W.Frag) (mg : Str → Option Value) (x : Str) (d : D) : Prop := ∃ (u : Value) (v : V), mg x = some u ∧ RelV v u ∧ ∀ H, Rp K H v d
theorem globD_int {K : PySem.W.Frag} {mg : Str → Option Value} {x : Str} {i : Int} {t : Tok} (h : mg x = some (.int i t)) : GlobD K mg x (.int i) := ⟨_, .int i, h, ⟨t, rfl⟩, fun _ => .int i⟩
theorem d_globX {X : Cx} {P : Pm} {x : Str} {pos : Pos} {d : D} (h : GlobD X.K X.mg x d) (hg : Gl X x := by rfl) (hK : P.b.K = X.K := by rfl) (hdb : (x == ("__debug__" : Str)) = false := by decide) : PE X (.Name x pos) (tS P (kn d)) := by
  obtain ⟨u, v, hm, r, hd⟩ := h
  exact d_glob hm r (fun H => by rw [hK]; exact hd H) hg hdb
end DL

/-! ## plain lemmas over the mirrors -/
namespace DL
open PySem L2

@[simp] theorem sPlus_int (i j : Int) : sPlus (.int i) (.int j) = some (.int (i + j)) := rfl
theorem sPlus_list (a b : List D) : sPlus (.list a) (.list b) = if a.length + b.length ≤ sizeLine then some (.list (a ++ b)) else none := rfl
theorem sPlus_tup (a b : List D) : sPlus (.tuple a) (.tuple b) = if a.length + b.length ≤ sizeLine then some (.tuple (a ++ b)) else none := rfl
theorem sPlus_str (a b : Str) : sPlus (.str a) (.str b) = if a.length + b.length ≤ sizeLine then some (.str (a ++ b)) else none := rfl
@[simp] theorem sSub_int (i j : Int) : sSub (.int i) (.int j) = some (.int (i - j)) := rfl
@[simp] theorem sMod_int (i j : Int) : sMod (.int i) (.int j) = if 0 < j then some (.int (i % j)) else none := rfl
@[simp] theorem sDiv_int (i j : Int) : sDiv (.int i) (.int j) = if 0 < j ∧ j < 36893488147419103232 then some (.int (i / j)) else none := rfl
@[simp] theorem sLt_int (i j : Int) : sLt (.int i) (.int j) = some (.bool (decide (i < j))) := rfl
@[simp] theorem sLe_int (i j : Int) : sLe (.int i) (.int j) = some (.bool (decide (i ≤ j))) := rfl
@[simp] theorem sGt_int (i j : Int) : sGt (.int i) (.int j) = some (.bool (decide (j < i))) := rfl
@[simp] theorem sGe_int (i j : Int) : sGe (.int i) (.int j) = some (.bool (decide (j ≤ i))) := rfl
@[simp] theorem sPow_int (i j : Int) : sPow (.int i) (.int j) = if 0 ≤ j ∧ j ≤ 1000 ∧ 0 ≤ i ∧ i < 1000 then some (.int (i ^ j.toNat)) else none := rfl
@[simp] theorem sMax2_int (i j : Int) : sMax2 (.int i) (.int j) = some (.int (if j > i then j else i)) := rfl
@[simp] theorem sMin2_int (i j : Int) : sMin2 (.int i) (.int j) = some (.int (if j < i then j else i)) := rfl
theorem sMul_lo {i j : Int} (h : -18446744073709551616 < j ∧ j < 18446744073709551616) : sMul (.int i) (.int j) = some (.int (i * j)) := if_pos (.inr (.inl h))
theorem sMul_lo' {i j : Int} (h : -18446744073709551616 < i ∧ i < 18446744073709551616) : sMul (.int i) (.int j) = some (.int (i * j)) := if_pos (.inl h)
theorem sMul_big {i j : Int} (h : 0 ≤ i ∧ i < big ∧ 0 ≤ j ∧ j < big) : sMul (.int i) (.int j) = some (.int (i * j)) := if_pos (.inr (.inr h))
@[simp] theorem sIs_non (d : D) : sIs d .none = some (.bool (isNone d)) := rfl
@[simp] theorem sIsNot_non (d : D) : sIsNot d .none = some (.bool (!isNone d)) := rfl
@[simp] theorem isNone_int (i : Int) : isNone (.int i) = false := rfl
@[simp] theorem isNone_none : isNone .none = true := rfl
@[simp] theorem isNone_str (x : Str) : isNone (.str x) = false := rfl
@[simp] theorem isNone_bool (b : Bool) : isNone (.bool b) = false := rfl
@[simp] theorem isNone_tup (l : List D) : isNone (.tuple l) = false := rfl
@[simp] theorem isNone_list (l : List D) : isNone (.list l) = false := rfl
@[simp] theorem sh_int (i : Int) : SeqAt.shaped (.int i) = true := rfl
@[simp] theorem sh_bool (i : Bool) : SeqAt.shaped (.bool i) = true := rfl
@[simp] theorem sh_none : SeqAt.shaped .none = true := rfl
@[simp] theorem sEq_int (i j : Int) : sEq (.int i) (.int j) = some (.bool (decide (i = j))) := by
  rfl
@[simp] theorem sNe_int (i j : Int) : sNe (.int i) (.int j) = some (.bool (!decide (i = j))) := by
  rfl
@[simp] theorem sLen_list (ds : List D) : sLen (.list ds) = some (.int ds.length) := rfl
@[simp] theorem sLen_tup (ds : List D) : sLen (.tuple ds) = some (.int ds.length) := rfl
@[simp] theorem sIx_list (ds : List D) (i : Int) : sIx (.list ds) (.int i) = atI ds i := rfl
@[simp] theorem sIx_tup (ds : List D) (i : Int) : sIx (.tuple ds) (.int i) = atI ds i := rfl
@[simp] theorem items_list (ds : List D) : items (.list ds) = some ds := rfl
theorem items_tup {ds : List D} (h : ds.length ≤ 1000) : items (.tuple ds) = some ds := if_pos h
@[simp] theorem sAll_bools (bs : List Bool) : sAll (.list (bs.map PyData.bool)) = some (.bool (bs.all id)) := by simp [sAll]
@[simp] theorem sAny_bools (bs : List Bool) : sAny (.list (bs.map PyData.bool)) = some (.bool (bs.any id)) := by simp [sAny]
@[simp] theorem sSum_ints (ns : List Int) : sSum (.list (ns.map PyData.int)) = some (.int ns.sum) := by simp [sSum]
@[simp] theorem sRev_list (ds : List D) : sRev (.list ds) = some ds.reverse := rfl
@[simp] theorem sList_list (ds : List D) : sList (.list ds) = some ds := rfl
@[simp] theorem keyD_int (i : Int) : keyD (.int i) = some (.inl i) := rfl
@[simp] theorem sR1_int (n : Int) : sR1 (.int n) = if n ≤ 1000000 ∧ -1000000 ≤ n then some (rng 0 n) else none := rfl
@[simp] theorem sR2_int (a b : Int) : sR2 (.int a) (.int b) = if (-1000000 ≤ a ∧ a ≤ 1000000) ∧ (-1000000 ≤ b ∧ b ≤ 1000000) then some (rng a b) else none := rfl
theorem atI_nat {α : Type} (ds : List α) (n : Nat) : atI ds (n : Int) = ds[n]? := by
  unfold atI ixN
  rw [if_pos (Int.natCast_nonneg n)]
  by_cases h : n < ds.length
  · rw [if_pos (by omega)]; rfl
  · rw [if_neg (by omega), List.getElem?_eq_none (by omega)]; rfl
theorem atI_pos {α : Type} (ds : List α) {i : Int} (h : 0 ≤ i) : atI ds i = ds[i.toNat]? := by
  have := atI_nat ds i.toNat
  rw [Int.toNat_of_nonneg h] at this
  exact this
@[simp] theorem atI_0 {α : Type} (a : α) (l : List α) : atI (a :: l) 0 = some a := by have := atI_nat (a :: l) 0; simpa using this
@[simp] theorem atI_1 {α : Type} (a b : α) (l : List α) : atI (a :: b :: l) 1 = some b := by have := atI_nat (a :: b :: l) 1; simpa using this
@[simp] theorem atI_2 {α : Type} (a b c : α) (l : List α) : atI (a :: b :: c :: l) 2 = some c := by have := atI_nat (a :: b :: c :: l) 2; simpa using this
@[simp] theorem atI_3 {α : Type} (a b c d : α) (l : List α) : atI (a :: b :: c :: d :: l) 3 = some d := by have := atI_nat (a :: b :: c :: d :: l) 3; simpa using this
@[simp] theorem atI_4 {α : Type} (a b c d e : α) (l : List α) : atI (a :: b :: c :: d :: e :: l) 4 = some e := by have := atI_nat (a :: b :: c :: d :: e :: l) 4; simpa using this
@[simp] theorem atI_5 {α : Type} (a b c d e f : α) (l : List α) : atI (a :: b :: c :: d :: e :: f :: l) 5 = some f := by have := atI_nat (a :: b :: c :: d :: e :: f :: l) 5; simpa using this
@[simp] theorem atI_two {α : Type} (a b : α) (x : Int) : atI [a, b] (x % 2) = some (if x % 2 = 0 then a else b) := by
  have h : x % 2 = 0 ∨ x % 2 = 1 := by omega
  rcases h with h | h <;> rw [h] <;> simp
@[simp] theorem atI_three {α : Type} (a b c : α) (x : Int) : atI [a, b, c] (x % 3) = some (if x % 3 = 0 then a else if x % 3 = 1 then b else c) := by
  have h : x % 3 = 0 ∨ x % 3 = 1 ∨ x % 3 = 2 := by omega
  rcases h with h | h | h <;> rw [h] <;> simp

@[simp] theorem wipeE_nil (ε : En) : wipeE ε [] = ε := rfl
@[simp] theorem wipeE_cons (ε : En) (v : Nat) (vs : List Nat) : wipeE ε (v :: vs) = (wipeE ε vs).set v .un := rfl
@[simp] theorem asg_nm (i : Nat) (d : D) (ε : En) : asg (.nm i) d ε = .ok (ε.set i (.dat d)) := rfl
@[simp] theorem compL_nil (tg : Tg) (c : En → M Bool) (f : En → M D) (ε : En) : compL tg c f ε [] = .ok [] := rfl
/-! ### comprehensions and loops -/
theorem comp_nm {α : Type} {i : Nat} {c : En → M Bool} {f : En → M D} {ε : En} (enc : α → D) (p : α → Bool) (g : α → D) : ∀ l : List α, (∀ a ∈ l, c (ε.set i (.dat (enc a))) = .ok (p a)) → (∀ a ∈ l, p a = true → f (ε.set i (.dat (enc a))) = .ok (g a)) → compL (.nm i) c f ε (l.map enc) = .ok ((l.filter p).map g)
  | [], _, _ => rfl
  | a :: l, hc, hf => by
    have ih := comp_nm enc p g l (fun a h => hc a (List.mem_cons_of_mem _ h)) (fun a h => hf a (List.mem_cons_of_mem _ h))
    rw [List.map_cons]
    unfold compL
    simp only [asg, bnd_ok, hc a List.mem_cons_self, hush]
    cases hp : p a with
    | false =>
      simp only [Bool.false_eq_true, if_false]
      rw [ih, List.filter_cons_of_neg (by simp [hp])]
    | true =>
      simp only [if_true]
      rw [hf a List.mem_cons_self hp]
      simp only [hush, bnd_ok]
      rw [ih, List.filter_cons_of_pos hp]
      rfl
theorem comp_all {α : Type} {i : Nat} {f : En → M D} {ε : En} (enc : α → D) (g : α → D) (l : List α) (hf : ∀ a ∈ l, f (ε.set i (.dat (enc a))) = .ok (g a)) : compL (.nm i) yesT f ε (l.map enc) = .ok (l.map g) := by
  have := comp_nm (i := i) (c := yesT) (f := f) (ε := ε) enc (fun _ => true) g l (fun _ _ => rfl) (fun a h _ => hf a h)
  rw [this, List.filter_eq_self.mpr (fun _ _ => rfl)]
theorem loop_inv {α : Type} {tg : Tg} {F : En → M Fl} (enc : α → D) (I : List α → En → Prop) : ∀ (l done : List α) (ε : En), I done ε →
    (∀ a done ε, a ∈ l → I done ε → ∃ ε1 ε2, asg tg (enc a) ε = .ok ε1 ∧ (F ε1 = .ok (.nx ε2) ∨ F ε1 = .ok (.ct ε2)) ∧ I (done ++ [a]) ε2) → ∃ ε', loopD tg F (l.map enc) ε = .ok (.nx ε') ∧ I (done ++ l) ε'
  | [], done, ε, h, _ => ⟨ε, rfl, by simpa using h⟩
  | a :: l, done, ε, h, step => by
    obtain ⟨ε1, ε2, h1, h2, h3⟩ := step a done ε List.mem_cons_self h
    obtain ⟨ε', h4, h5⟩ := loop_inv enc I l (done ++ [a]) ε2 h3 fun b d e hb => step b d e (List.mem_cons_of_mem _ hb)
    refine ⟨ε', ?_, by simpa using h5⟩
    rw [List.map_cons]
    unfold loopD
    rw [h1, bnd_ok]
    rcases h2 with h2 | h2 <;> rw [h2, bnd_ok] <;> exact h4
theorem loop_pre {α : Type} {tg : Tg} {F : En → M Fl} (enc : α → D) (I : List α → En → Prop) (l0 : List α) (ε : En) (h : I [] ε) (step : ∀ pre a suf ε, l0 = pre ++ a :: suf → I pre ε → ∃ ε1 ε2, asg tg (enc a) ε = .ok ε1 ∧ (F ε1 = .ok (.nx ε2) ∨ F ε1 = .ok (.ct ε2)) ∧ I (pre ++ [a]) ε2) : ∃ ε', loopD tg F (l0.map enc) ε = .ok (.nx ε') ∧ I l0 ε' := by
  have go : ∀ (l pre : List α) (ε : En), l0 = pre ++ l → I pre ε → ∃ ε', loopD tg F (l.map enc) ε = .ok (.nx ε') ∧ I l0 ε' := by
    intro l
    induction l with
    | nil =>
      intro pre ε e hi
      rw [List.append_nil] at e
      subst e
      exact ⟨ε, rfl, hi⟩
    | cons a l ih =>
      intro pre ε e hi
      obtain ⟨ε1, ε2, h1, h2, h3⟩ := step pre a l ε e hi
      obtain ⟨ε', h4, h5⟩ := ih (pre ++ [a]) ε2 (by rw [e]; simp) h3
      refine ⟨ε', ?_, h5⟩
      rw [List.map_cons]
      unfold loopD
      rw [h1, bnd_ok]
      rcases h2 with h2 | h2 <;> rw [h2, bnd_ok] <;> exact h4
  exact go l0 [] ε rfl h
/-- a loop whose body always goes on, and of whose slots nothing is wanted but that I holds -/
theorem loop_keep {α : Type} {tg : Tg} {F : En → M Fl} (enc : α → D) (I : En → Prop) (l : List α) (ε : En) (h : I ε) (step : ∀ a ε, a ∈ l → I ε → ∃ ε1 ε2, asg tg (enc a) ε = .ok ε1 ∧ (F ε1 = .ok (.nx ε2) ∨ F ε1 = .ok (.ct ε2)) ∧ I ε2) : ∃ ε', loopD tg F (l.map enc) ε = .ok (.nx ε') ∧ I ε' :=
  loop_inv enc (fun _ => I) l [] ε h fun a _ ε ha hi => step a ε ha hi
theorem rng_map (a b : Int) : rng a b = (List.range (b - a).toNat).map fun (i : Nat) => PyData.int (a + (i : Int)) := rfl
theorem rng0 (n : Int) : rng 0 n = (List.range n.toNat).map fun (i : Nat) => PyData.int (i : Int) := by
  unfold rng
  simp

/-! ### equality of data with itself -/
mutual
theorem eqv_self : ∀ d : D, PyData.canLay0 d = true → PyData.eqv d d = true
  | .none, _ => rfl
  | .bool b, _ => by simp [PyData.eqv]
  | .int i, _ => by simp [PyData.eqv]
  | .str x, _ => by simp [PyData.eqv]
  | .list l, h => by simp only [PyData.canLay0] at h; simp only [PyData.eqv]; exact eqvAll_self l h
  | .tuple l, h => by simp only [PyData.canLay0] at h; simp only [PyData.eqv]; exact eqvAll_self l h
  | .dict _, h => by simp [PyData.canLay0] at h
theorem eqvAll_self : ∀ l : List D, PyData.canLayAll0 l = true → PyData.eqvAll l l = true
  | [], _ => rfl
  | d :: l, h => by
    simp only [PyData.canLayAll0, Bool.and_eq_true] at h
    simp only [PyData.eqvAll, Bool.and_eq_true]
    exact ⟨eqv_self d h.1, eqvAll_self l h.2⟩
end
/-- data of a bounded depth that can be compared -/
def ShN (n : Nat) (d : D) : Prop := PyData.canLay0 d = true ∧ PyData.depth d ≤ n
theorem shN_all {n : Nat} : ∀ l : List D, (∀ d ∈ l, ShN n d) → PyData.canLayAll0 l = true ∧ PyData.depthAll l ≤ n
  | [], _ => ⟨rfl, Nat.zero_le _⟩
  | d :: l, h => by
    obtain ⟨h1, h2⟩ := shN_all l fun e he => h e (List.mem_cons_of_mem _ he)
    obtain ⟨h3, h4⟩ := h d List.mem_cons_self
    refine ⟨by simp only [PyData.canLayAll0, h1, h3, Bool.and_self], ?_⟩
    simp only [PyData.depthAll]
    omega
theorem shN_list {n : Nat} {l : List D} (h : ∀ d ∈ l, ShN n d) : ShN (n + 1) (.list l) := by
  obtain ⟨h1, h2⟩ := shN_all l h
  exact ⟨h1, by simp only [PyData.depth]; omega⟩
theorem shN_tup {n : Nat} {l : List D} (h : ∀ d ∈ l, ShN n d) : ShN (n + 1) (.tuple l) := by
  obtain ⟨h1, h2⟩ := shN_all l h
  exact ⟨h1, by simp only [PyData.depth]; omega⟩
theorem shN_int {n : Nat} (i : Int) : ShN n (.int i) := ⟨rfl, Nat.zero_le _⟩
theorem shN_none {n : Nat} : ShN n .none := ⟨rfl, Nat.zero_le _⟩
theorem shN_bool {n : Nat} (b : Bool) : ShN n (.bool b) := ⟨rfl, Nat.zero_le _⟩
theorem ShN.sh {n : Nat} {d : D} (h : ShN n d) (hn : n ≤ 64 := by decide) : SeqAt.shaped d = true := by
  unfold SeqAt.shaped
  rw [h.1, Bool.true_and]
  exact decide_eq_true (Nat.le_trans h.2 hn)
theorem sNe_self {n : Nat} {d : D} (h : ShN n d) (hn : n ≤ 64 := by decide) : sNe d d = some (.bool false) := by
  unfold sNe
  rw [if_pos ⟨h.sh hn, h.sh hn⟩, eqv_self d h.1]
  rfl
theorem sEq_self {n : Nat} {d : D} (h : ShN n d) (hn : n ≤ 64 := by decide) : sEq d d = some (.bool true) := by
  unfold sEq
  rw [if_pos ⟨h.sh hn, h.sh hn⟩, eqv_self d h.1]

/-! ### the drawn numbers -/
def cellI (ns : List Int) (k : Int) : Int := if ns = [] then k * 7919 else ns.getD (k % ns.length).toNat 0 + k / ns.length * 104729
def drawnI (c k : Int) : Int :=
  let m := (c * 6364136223846793005 + (k + 1) * 1442695040888963407) % 340282366920938463463374607431768211507
  let m := m * m % 340282366920938463463374607431768211297
  let m := (m % 18446744073709551557 + 1) * (m / 18446744073709551557 + 1) * m
  m % 340282366920938463463374607431768211507
theorem drawnI_nonneg (c k : Int) : 0 ≤ drawnI c k := Int.emod_nonneg _ (by decide)
theorem drawnI_lt (c k : Int) : drawnI c k < 340282366920938463463374607431768211507 := Int.emod_lt_of_pos _ (by decide)
theorem mul_bd {a b A B : Int} (ha : 0 ≤ a) (ha2 : a ≤ A) (hb : 0 ≤ b) (hb2 : b ≤ B) : 0 ≤ a * b ∧ a * b ≤ A * B := ⟨Int.mul_nonneg ha hb, Int.mul_le_mul ha2 hb2 hb (Int.le_trans ha ha2)⟩
theorem big_eq : big = 1606938044258990275541962092341162602522202993782792835301376 := by decide +kernel
end DL

/-! ## lists walked while an exception is handled -/
namespace HotX
open PySem PySem.Spec PyProof.Rows
section
variable {prog : Program} {w : World} {A : Around} {E : Value → Shared → Prop} {s : Shared}
/-- the handled exception's object -/
def HotO (x1 : Addr) (h : Heap) : Prop := ∃ (o : Obj) (vs : Array Value), h.get? x1 = some o ∧ o.data = .fields vs ∧ vs[2]? = some .none
theorem list_end_hot {it l x1 : Addr} {i : Nat} {items : Array Value} {Q : Option Value → Shared → Prop} (hh : A.handled = some (.ref x1)) (ho1 : HotO x1 s.heap) (hne : x1 ≠ it) (hit : s.heap.IsListIter it l i) (hl : s.heap.IsList l items) (hx : items[i]? = none)
    (hQ : ∀ h', Heap.ExtBut it s.heap h' → Q none { s with heap := h' }) : wpAny (model prog w) A (pyNext (.ref it)) Q E s := by
  obtain ⟨o, ho, hc, hd⟩ := id hit
  obtain ⟨ol, hol, _, nl, hdl⟩ := hl
  obtain ⟨o1, vs1, h1, d1, c1⟩ := ho1
  unfold pyNext
  refine wpAny_bind (wpAny_attempt (wpAny_callSpecial?_slot (name := Str.ofString "__next__") hit.typeIs slot_listiter_next (wpAny_call_entry slot_listiter_next hit.typeIs entry_listiter_next ?_ (args_listiter_next _))))
  show wpAny _ _ (field (.ref it) 0 >>= _) _ _ s
  refine wpAny_bind (wpAny_field ho hd (x := .ref l) rfl ?_)
  show wpAny _ _ (if (Value.ref l == Value.none) = true then _ else _) _ _ s
  rw [if_neg (show ¬ ((Value.ref l == Value.none) = true) from Bool.false_ne_true)]
  show wpAny _ _ (field (.ref it) 1 >>= _) _ _ s
  refine wpAny_bind (wpAny_field ho hd (x := .int i 0) rfl ?_)
  show wpAny _ _ (seqItems? (.ref l) >>= _) _ _ s
  refine wpAny_bind (wpAny_seqItems hol hdl ?_)
  simp only [Int.toNat_natCast, hx]
  refine wpAny_bind (wpAny_rule (wpAny_bind (wpAny_setField ho hd (by simp) ?_)))
  show wpAny _ _ (newExc (.type "StopIteration") [] >>= _) _ _ _
  refine wpAny_bind ?_
  simp only [newExc, newTuple]
  refine wpAny_bind (wpAny_newObj_type ?_ (by size_fits))
  refine wpAny_bind (m := firstArgMember _ _) (wpAny_of_eq (a := Value.none) (by first | rfl | (simp only [firstArgMember]; rfl)) ?_)
  refine wpAny_newObj_type ?_ (by size_fits)
  have g1 : ∀ f : Obj → Obj, (s.heap.update it f).get? x1 = some o1 := fun f => by rw [Heap.get?_update_other _ _ (Ne.symm hne)]; exact h1
  refine raiseNew_hot ⟨hh, o1, vs1, Heap.get?_push_of_some _ (Heap.get?_push_of_some _ (g1 _)), d1, c1⟩ (Nat.ne_of_lt (Heap.lt_size (Heap.get?_push_of_some _ (g1 _)))) (Heap.get?_push_size _ rfl) rfl (by first | (simp; done) | (simp; omega) | (simp only [Array.size_append]; simp; omega)) ?_
  refine wpAny_bind (wpAny_isInstance (T := "StopIteration") (b := true) ⟨_, Heap.get?_update_self _ (Heap.get?_push_size _ rfl) rfl, rfl⟩ isSubtype_stop ?_)
  refine wpAny_pure (hQ _ fun b u hb e => ?_)
  have e2 : (s.heap.update it (Obj.mapFields fun x => x.setIfInBounds 0 .none)).get? b = some u := by rw [Heap.get?_update_other _ _ (Ne.symm hb)]; exact e
  rw [Heap.get?_update_other _ _ (Nat.ne_of_gt (Heap.lt_size (Heap.get?_push_of_some _ e2)))]
  exact Heap.get?_push_of_some _ (Heap.get?_push_of_some _ e2)
theorem walks_listH (x1 : Addr) (hh : A.handled = some (.ref x1)) (I ax : Addr) (hne : ax ≠ I) (hx1 : x1 ≠ I) (items : Array Value) :
    Walks prog w A I [I, ax, x1] [I] items.size (fun i v => items[i]? = some v) (fun i h => h.IsListIter I ax i ∧ h.IsList ax items ∧ HotO x1 h) where
  sub := fun b hb => by simp at hb; simp [hb]
  frame := fun _ _ _ st hk => ⟨st.1.at fun o e => hk I (by simp) o e, st.2.1.at fun o e => hk ax (by simp) o e, let ⟨o, vs, a, b⟩ := st.2.2; ⟨o, vs, hk x1 (by simp) o a, b⟩⟩
  item := fun i s Q E hi st hQ => by
    refine wpAny_pyNext_list_item st.1 st.2.1 (x := items[i]) (by simp [hi]) fun h2 hit2 hs2 => hQ _ h2 s.toks (by simp [hi]) ⟨hit2, st.2.1.extBut hs2.extBut hne, ?_⟩ fun b o hb e => hs2.extBut b o (fun h => hb (by simp [h])) e
    obtain ⟨o, vs, a, b⟩ := st.2.2
    exact ⟨o, vs, hs2.extBut x1 o hx1 a, b⟩
  done := fun s Q E st hQ => list_end_hot hh st.2.2 hx1 st.1 st.2.1 (by simp) fun h2 he2 => hQ h2 s.toks fun b o hb e => he2 b o (fun h => hb (by simp [h])) e
  self := fun _ _ _ _ st hQ => wpAny_pyIter_listiter st.1 hQ
end
end HotX

/-! ## sum of a list, a comprehension over a list, while an exception is handled -/
namespace L2H
open PySem PySem.Spec PyProof.Rows L2 HotX
theorem hot_of {X : Cx} {pins : List (Addr × Obj)} {σ : L2.St} {H : Hp} {s : Shared} (hc : HotC X) (I : Inv X pins σ H s) : ∃ x1, X.A.handled = some (.ref x1) ∧ HotO x1 s.heap ∧ H x1 = none ∧ x1 ∉ frs X.stack ∧ x1 < s.heap.objs.size := by
  obtain ⟨p, ⟨hh, v1, e1, c1⟩, hp⟩ := hc
  have P1 := I.pin p (List.mem_append_left _ hp)
  exact ⟨p.1, hh, ⟨p.2, v1, P1.1, e1, c1⟩, P1.2.1, fun hm => (List.mem_cons.mp (I.stkSub p.1 hm)).elim P1.2.2.1 P1.2.2.2.1, Heap.lt_size P1.1⟩
theorem cr_sumH {X : Cx} (hc : HotC X) : CallR X (.builtin "sum") (rSum X.K) := by
  intro pins s σ H vs us Q I r h
  obtain ⟨a, ns, rfl, hs, q⟩ := h
  obtain ⟨its, rv, hl, _⟩ := I.list hs
  obtain ⟨x1, hh, ho, _, _, hlt⟩ := hot_of hc I
  rw [Vals.ref1 r]
  obtain ⟨xs, e⟩ := rv.ints.allInts.items
  have hn : numsOf (intItems xs).toList = ns := by rw [← e]; exact rv.ints.numsOf
  rw [nums_intItems] at hn
  have hL : s.heap.IsList a (intItems xs) := by rw [← e]; exact hl.isList
  refine call_sum_walkG (iter_intList hL fun s₂ e2 st hfp hlI => ?_)
  subst e2
  have n1 : x1 ≠ s.heap.objs.size := Nat.ne_of_lt hlt
  obtain ⟨o1, v1, g1, d1, c1⟩ := ho
  refine ⟨_, _, _, _, _, _, numAt xs, rfl, walks_listH (A := X.A.in1) x1 hh _ a hlI n1 (intItems xs), ⟨st.1, st.2, o1, v1, Heap.get?_push_of_some _ g1, d1, c1⟩, fun b hb => ?_, (fun _ _ => intItems_at), fun h2 tk t2 hk => ?_⟩
  · rcases List.mem_cons.mp hb with z | z
    · exact hfp b (by rw [z]; simp)
    · rcases List.mem_cons.mp z with z | z
      · exact hfp b (by rw [z]; simp)
      · rw [List.mem_singleton.mp z]
        show x1 < (s.heap.push _).objs.size
        rw [Heap.size_push]
        exact Nat.lt_succ_of_lt hlt
  · have eN : preSum (numAt xs) (intItems xs).size = ns.sum := by
      rw [preSum_eq, List.take_of_length_le (by simp [intItems]), hn]
    exact ⟨.int ns.sum, H, I.kept (old_kept hk), ⟨t2, by rw [eN]⟩, q⟩
end L2H

namespace L2H
open PySem PySem.Spec PyProof.Rows L2 HotX
/-- what a walked list reads -/
def iLst (K : PySem.W.Frag) (tl : TE) : TI := fun σ H R => tl σ H fun x H1 => ∃ a, x = .ref a ∧ (∃ xs, SqL K H1 a xs) ∧ R (Itl K a) H1
theorem pe_lcH {X : Cx} {elt tg iter : Expr} {ifs : List Expr} {scope : Scope} {own : List (Str × Nat)} {pos : Pos} {tl : TE} {g : TG} {tt : TT} {te : TE} (hc : HotC X) (hN : X.N.Nodup) (hl : PE X iter tl) (ok : BlkOk X.N X.env.scope scope own)
    (hg : ∀ (s : Shared) (H : Hp) (C : Addr) (cl : List (Str × Addr)) (fp : List Addr), PG (X.blk s H scope (compEnvC scope cl C X.env) fp) tg g) (ht : ∀ (s : Shared) (H : Hp) (C : Addr) (cl : List (Str × Addr)) (fp : List Addr), PTs (X.blk s H scope (compEnvC scope cl C X.env) fp) ifs tt)
    (he : ∀ (s : Shared) (H : Hp) (C : Addr) (cl : List (Str × Addr)) (fp : List Addr), PE (X.blk s H scope (compEnvC scope cl C X.env) fp) elt te) (hs : ∀ x, foldedSetIterable iter X.env x = pure x := by intro _; rfl) :
    PE X (.ListComp elt [⟨tg, iter, ifs, 0⟩] scope pos) (tLc (iLst X.K tl) g tt te (own.map (·.2))) := by
  refine ⟨fun pins s σ H Q I h => ?_⟩
  rw [eval_ListComp]
  have hfree : ∀ y ∈ scope.names, y.2 = .free → ∃ c, X.env.cells.lookup y.1 = some c := fun y hy e => by
    rcases ok.free y hy e with k | k
    · exact I.ok.has _ (.inl k)
    · exact I.ok.has _ (.inr k)
  refine wpAny_comprehension_free (use := none) rfl hs (closure_ok hfree) ok.kind (fun y hy e => by rw [ok.uniq y hy, e]) (thn (hl.run pins s σ H _ I h) fun xv s1 hx => ?_)
  obtain ⟨xr, H2, I1, r1, a, e1, ⟨xs0, hq0⟩, q⟩ := hx
  subst e1
  cases r1
  obtain ⟨its0, rv0, p0, _⟩ := I1.list hq0
  refine wpAny_pyIter_list p0.isList ?_
  -- the iterator, the new list
  generalize hit : s1.heap.objs.size = it
  generalize hs2 : ({ s1 with heap := s1.heap.push { cls := .type "list_iterator", data := .fields #[.ref a, .int 0 0] } } : Shared) = s2
  have h2 : s2.heap = s1.heap.push { cls := .type "list_iterator", data := .fields #[.ref a, .int 0 0] } := by rw [← hs2]
  have I2 : Inv X pins σ H2 s2 := by
    rw [← hs2]
    exact I1.kept (t' := s1.toks) fun b o e => Heap.get?_push_of_some _ e
  have st2 : s2.heap.IsListIter it a 0 := by
    rw [h2, ← hit]
    exact ⟨_, Heap.get?_push_size _ rfl, rfl, rfl⟩
  have f2 : FpOk X pins H2 it := by
    rw [← hit]
    exact I1.fpOk (Nat.le_refl _) (I1.hok.fresh (Nat.le_refl _))
  have hlt2 : it < s2.heap.objs.size := by
    rw [h2, Heap.size_push, ← hit]
    exact Nat.lt_succ_self _
  refine wpAny_newObj_type (newEnv_comp ?_) (by show 0 ≤ sizeLine; decide)
  generalize hD : s2.heap.objs.size = D
  have hDn : H2 D = none := I2.hok.fresh (Nat.le_of_eq hD)
  obtain ⟨W, ⟨m0, w0⟩, turn⟩ := q D hDn
  generalize hs3 : ({ s2 with heap := s2.heap.push { cls := .type "list", data := .seq ([] : List Value).toArray } } : Shared) = s3
  have I3 : Inv X pins σ (upd H2 D (.lst [])) s3 := by
    rw [← hs3]
    refine I2.laid (t' := s2.toks) (fun b o e => Heap.get?_push_of_some _ e) (Nat.le_of_eq hD) ⟨Nat.zero_le _, [], 0, .nil, ?_⟩
    rw [← hD]
    exact Heap.get?_push_size _ rfl
  have h3 : s3.heap = s2.heap.push { cls := .type "list", data := .seq ([] : List Value).toArray } := by rw [← hs3]
  have itD : it ≠ D := by rw [← hD]; exact Nat.ne_of_lt hlt2
  have f3 : ∀ b ∈ [it], FpOk X pins (upd H2 D (.lst [])) b ∧ b < s3.heap.objs.size := fun b hb => by
    rw [List.mem_singleton.mp hb]
    refine ⟨⟨?_, f2.2⟩, by rw [h3, Heap.size_push]; exact Nat.lt_succ_of_lt hlt2⟩
    rw [upd_ne itD]
    exact f2.1
  have T := turn_list (P := X.prog) (w := X.w) (K := X.K) (tg := tg) a it
  have st3 : s3.heap.IsListIter it a 0 := T.keep 0 _ _ st2 fun b _ o e => by rw [h3]; exact Heap.get?_push_of_some _ e
  have I4 := block_start I3 ok hN f3
  have pg := hg s3 (upd H2 D (.lst [])) s3.heap.objs.size (cellsFrom (s3.heap.objs.size + 1) scope.names (cloFrom X.env.cells scope.names [])) [it]
  have pt := ht s3 (upd H2 D (.lst [])) s3.heap.objs.size (cellsFrom (s3.heap.objs.size + 1) scope.names (cloFrom X.env.cells scope.names [])) [it]
  have pe := he s3 (upd H2 D (.lst [])) s3.heap.objs.size (cellsFrom (s3.heap.objs.size + 1) scope.names (cloFrom X.env.cells scope.names [])) [it]
  obtain ⟨x1, hh, ho3, nx1, fx1, ltx1⟩ := hot_of hc I3
  have ltIt : s1.heap.objs.size = it := hit
  have x1it : x1 ≠ it := fun z => by
    -- the exception stood before the iterator
    obtain ⟨x1', hh', ho1, _, _, lt1⟩ := hot_of hc I1
    rw [hh] at hh'
    cases hh'
    rw [z, ← hit] at lt1
    exact Nat.lt_irrefl _ lt1
  show codeAny _ _ (.compStart (.ListComp elt [⟨tg, iter, ifs, 0⟩] scope pos) 0 (.ref it) (.ref D) (compEnvC scope (cellsFrom (s3.heap.objs.size + 1) scope.names (cloFrom X.env.cells scope.names [])) s3.heap.objs.size X.env)) (compPost (model X.prog X.w) X.A X.xe none (EP X pins σ Q) (.ref D) s3.heap.objs.size) { s3 with heap := pushCells (s3.heap.push { cls := .type "dict", data := .dict #[] }) scope.names }
  have nfp : (upd H2 D (.lst [])) it = none := (f3 it (by simp)).1.1
  generalize hce : compEnvC scope (cellsFrom (s3.heap.objs.size + 1) scope.names (cloFrom X.env.cells scope.names [])) s3.heap.objs.size X.env = ce at I4 pg pt pe ⊢
  have cL : ce.locals = s3.heap.objs.size := by subst hce; rfl
  generalize hH3 : upd H2 D (.lst []) = H3 at I3 I4 pg pt pe w0 nfp f3 nx1
  generalize hs4 : ({ s3 with heap := pushCells (s3.heap.push { cls := .type "dict", data := .dict #[] }) scope.names } : Shared) = s4 at I4 ⊢
  have st4 : s4.heap.IsListIter it a 0 := T.keep 0 _ _ st3 fun b _ o e => by rw [← hs4]; exact pushCells_keeps _ _ _ _ (Heap.get?_push_of_some _ e)
  have stat : ∀ {σ' : L2.St} {H' : Hp} {s' : Shared}, Inv (X.blk s3 H3 scope ce [it]) [] σ' H' s' → H' it = none → FpOk (X.blk s3 H3 scope ce [it]) [] H' it := fun {σ' H' s'} I' hn =>
    ⟨hn, (I'.ok.exf it (by simp)).1, I'.ok.exfs it (by simp), .inl (by simp), fun x c e => (I'.ok.exf it (by simp)).2 x c e, fun p hp => absurd (show p ∈ ([] : List (Addr × Obj)) ++ [] from hp) (by simp)⟩
  have loop : codeAny (model X.prog X.w) X.A (.compLoop (.ListComp elt [⟨tg, iter, ifs, 0⟩] scope pos) 0 (.ref it) (.ref D) ce) (compPost (model X.prog X.w) X.A X.xe none (EP X pins σ Q) (.ref D) s3.heap.objs.size) s4 := by
    refine compLoop_any (fun n s' => ∃ i H', Inv (X.blk s3 H3 scope ce [it]) [] (wipe σ (own.map (·.2))) H' s' ∧ s'.heap.IsListIter it a i ∧ H' it = none ∧ W i n H') ?_ m0 ⟨0, H3, I4, st4, nfp, w0⟩
    rintro n s5 ⟨i, H5, I5, st5, n5, w5⟩
    obtain ⟨k0, k1, k2, k3, k4, k5⟩ := stat I5 n5
    rcases turn i n H5 w5 with ⟨stop, qq⟩ | ⟨go, Nx, hNx, step⟩
    · -- the end
      obtain ⟨xs, hq, hx⟩ := stop
      obtain ⟨its, rv, p, hz⟩ := I5.list hq
      have hlen := rv.length
      have ho5 : HotO x1 s5.heap := by
        obtain ⟨o, vs, g1, d1, c1⟩ := ho3
        exact ⟨o, vs, I5.base.keep x1 o g1 nx1 fx1 (fun z => x1it (List.mem_singleton.mp z)), d1, c1⟩
      refine list_end_hot hh ho5 x1it st5 p.isList (by simp; omega) fun h6 eb => ?_
      have I6 : Inv (X.blk s3 H3 scope ce [it]) [] (wipe σ (own.map (·.2))) H5 { s5 with heap := h6 } := I5.turned (t' := s5.toks) (fun b o hb e => eb b o hb e) k0 k1 k3 k4 k5
      have I7 : Inv X pins σ H5 { s5 with heap := h6 } := I3.call' (ch := [it]) I6.os I6.base I6.hok I6.bare fun b hb => ⟨(f3 b hb).1.2.2.2.1, (f3 b hb).1.2.1, (f3 b hb).1.2.2.2.2.1, (f3 b hb).1.2.2.2.2.2⟩
      have nC : H5 s3.heap.objs.size = none := by
        have z : H5 ce.locals = none := I6.free
        rw [cL] at z
        exact z
      obtain ⟨m, hn, _⟩ := I6.loc
      have hn : h6.Ns ce.locals m := hn
      rw [cL] at hn
      have fC := I3.fpOk (b := s3.heap.objs.size) (Nat.le_refl _) nC
      refine ⟨m, hn, fun h8 sb => ?_⟩
      obtain ⟨g0, g1, g2, g3, g4, g5⟩ := fC
      exact ⟨.ref D, H5, I7.turned (t' := s5.toks) (fun b o hb e => (sb.2 b hb).trans e) g0 g1 g3 g4 g5, rfl, qq⟩
    · obtain ⟨xs, x, hq, hx⟩ := id go
      obtain ⟨its, rv, p, hz⟩ := I5.list hq
      obtain ⟨u, hu, ru⟩ := rv.get hx
      refine wpAny_pyNext_list_item st5 p.isList (x := u) (by simpa using hu) fun h6 st6 sb => ?_
      have I6 : Inv (X.blk s3 H3 scope ce [it]) [] (wipe σ (own.map (·.2))) H5 { s5 with heap := h6 } := I5.turned (t' := s5.toks) (fun b o hb e => (sb.2 b hb).trans e) k0 k1 k3 k4 k5
      obtain ⟨oit, eit, cit, dit⟩ := id st6
      refine thnF (go_of (s := { s5 with heap := h6 }) eit cit dit (by decide) (Q := fun _ s7 => s7 = { s5 with heap := h6 }) rfl) fun _ s7 e7 => ?_
      subst e7
      have I7' := I6.pinned (fp := [it]) (fun b hb => by rw [List.mem_singleton.mp hb]; exact stat I6 n5) (T.obj (i + 1) _ st6)
      refine thnF (pg.run _ _ _ H5 x u _ I7' ru (step x H5 ⟨rfl, fun ys hy => by rw [I5.list_inj hy hq]; exact hx⟩)) fun _ s8 ⟨σ8, H8, I8, hw8, q8⟩ => ?_
      refine thnF (pt.run _ s8 σ8 H8 _ I8 q8) fun b s9 ⟨H9, I9, q9⟩ => ?_
      have fin : ∀ {s' : Shared} {H' : Hp}, Inv (X.blk s3 H3 scope ce [it]) ([] ++ pinsAt [it] h6) σ8 H' s' → Nx H' → ∃ m, m < n ∧ ∃ i H', Inv (X.blk s3 H3 scope ce [it]) [] (wipe σ (own.map (·.2))) H' s' ∧ s'.heap.IsListIter it a i ∧ H' it = none ∧ W i m H' := fun {s' H'} I' nx => by
        obtain ⟨m', hm, w'⟩ := hNx H' nx
        have pin' : ∀ b ∈ [it], ∀ o, h6.get? b = some o → s'.heap.get? b = some o ∧ H' b = none := fun b hb o e =>
          let z := I'.pin (b, o) (List.mem_append_right _ (List.mem_append_right _ (mem_pinsAt hb e)))
          ⟨z.1, z.2.1⟩
        have hlw : (wipe σ (own.map (·.2))).length = σ8.length := by rw [← hw8, wipe_length]
        refine ⟨m', hm, i + 1, H', (I'.unpinned (pins := [])).weak hlw (fun j v e => ?_), T.keep (i + 1) _ _ st6 fun b hb o e => (pin' b hb o e).1, ?_, w'⟩
        · rw [← hw8] at e
          exact (wipe_some e).1
        · exact (pin' it (by simp) oit eit).2
      cases b with
      | false =>
        simp only [Bool.false_eq_true, if_false] at q9 ⊢
        exact fin I9 q9
      | true =>
        simp only [if_true] at q9 ⊢
        refine thnF (pe.run _ s9 σ8 H9 _ I9 q9) fun z s10 ⟨yv, H10, I10, r10, acc, hD10, hz10, nx⟩ => ?_
        exact app_ok (X := X.blk s3 H3 scope ce [it]) I10 hD10 hz10 r10 fun s11 I11 => fin I11 nx
  exact codeAny_compStart_list loop (T.self X.A 0 _ _ _ st4 loop)
end L2H

/-! ## what a deed tells, or the word of its refusal: x(lambda: body), def x(a): try: return a() / except S as n: return word(n) -/
namespace TolX
open PySem PySem.Spec PyProof.Rows L2 LamX L2H
/-- the context of the lambda's body -/
def lamCxN (X : Cx) (A : Around) (outer : List Env) (s : Shared) (H : Hp) (E : XK) (scope : Scope) (f c' : Addr) : Cx :=
  { lamCx X A outer s H E scope f c' with xe := fun e s' => wpAny (model X.prog X.w) (A.deeper (lamEnv X scope s.heap.objs.size f c')) (leaving (lamEnv X scope s.heap.objs.size f c') e) (fun _ s'' => L2N.CX X.prog X.w outer H s E e s'') (fun e' s'' => L2N.CX X.prog X.w outer H s E e' s'') s' }
theorem inv_lamN {X : Cx} {A : Around} {outer : List Env} {s s1 : Shared} {H H1 : Hp} {E : XK} {scope : Scope} {f c' : Addr} {pins : List (Addr × Obj)} {σ : L2.St} (I : Inv (lamCx X A outer s H E scope f c') pins σ H1 s1) : Inv (lamCxN X A outer s H E scope f c') pins σ H1 s1 :=
  ⟨⟨I.ok.mod, I.ok.kind, I.ok.glob, I.ok.blt, I.ok.above, I.ok.inj, I.ok.has, I.ok.cab, I.ok.hd, I.ok.frames, I.ok.stk, I.ok.exf, I.ok.bs, I.ok.bsz, I.ok.noex, I.ok.exfs, I.ok.funs, I.ok.frf⟩, I.os, I.bare, I.base, I.loc, I.cell, I.free, I.freeC, I.pin, I.hok, I.len⟩
section
variable {X : Cx} {pins : List (Addr × Obj)} {σ : L2.St} {H : Hp} {s : Shared}
/-- a(), in the def that got the lambda -/
theorem pe_actN {CXg : CXT} {Eg : XK} {Ng : List Str} {qg : Str} {sg : Scope} {g f c' : Addr} {cdg pm ctv : Value} {params : Arguments} {body : Expr} {scope : Scope} {k i : Nat} {a : Str} {pn : List (Addr × Obj)} {xe : Value → Shared → Prop} {W : WX} {E : XK} {tb : TE} {p1 p2 : Pos}
    (I : Inv X pins σ H s) (L : LamS X.env.scope scope) (hf : s.heap.get? f = some (PySem.W.kla_obj "<lambda>" (X.env.qual ++ "<lambda>") params body scope (cloFrom X.env.cells scope.names []) pm c' ctv)) (hfn : H f = none) (hfr : f ∉ frs X.stack)
    (hbind : bindArgs (PySem.W.kla_fn "<lambda>" (X.env.qual ++ "<lambda>") params body scope (cloFrom X.env.cells scope.names []) pm (.ref c') ctv) ⟨[], []⟩ = pure [])
    (tk : L2N.Takes ((cxOf CXg X.prog X.w X.K X.mg X.base Ng qg sg g cdg X.A X.stack s H Eg).tr pn xe) W) (hW : ∀ cls d σ' H', E cls d H' → W cls d σ' H') (hr : Room (k + 1) (X.A.deeper (envOfC qg sg s.heap.objs.size g cdg)))
    (hbody : ∀ (A : Around) (outer : List Env) (s : Shared) (H : Hp), Room k (A.deeper (lamEnv X scope s.heap.objs.size f c')) → PE (lamCxN X A outer s H E scope f c') body tb)
    (hN : Ng[i]? = some a) (hv : Vis sg a) (hd : (a == ("__debug__" : Str)) = false := by decide) (hcd : (a == ("__classdict__" : Str)) = false := by decide) :
    PE ((cxOf CXg X.prog X.w X.K X.mg X.base Ng qg sg g cdg X.A X.stack s H Eg).tr pn xe) (.Call (.Name a p1) [] [] p2)
      (fun σZ HZ Q => σZ[i]? = some (some (.ref f)) ∧ HZ c' = some (CodeO c' (X.env.qual ++ "<lambda>")) ∧ tb σ HZ Q) := by
  refine ⟨fun pinsZ sZ σZ HZ Q IZ ⟨hs, hc, ht⟩ => ?_⟩
  refine wpAny_Call_Name_kw (thn ((pe_var (pos := p1) (i := i) hN hv hd hcd).run pinsZ sZ σZ HZ (fun v H1 => v = .ref f ∧ H1 = HZ) IZ ⟨.ref f, hs, rfl, rfl⟩) fun u s1 ⟨v, H1, I1, r1, ev, eH⟩ => ?_)
  subst ev
  rw [eH] at I1
  obtain rfl : u = Value.ref f := r1
  have of1 : s1.heap.get? f = some (PySem.W.kla_obj "<lambda>" (X.env.qual ++ "<lambda>") params body scope (cloFrom X.env.cells scope.names []) pm c' ctv) := I1.base.keep f _ hf hfn hfr (fun z => nomatch (show f ∈ ([] : List Addr) from z))
  refine PySem.W.callWith_F0 ⟨_, _, _, _, of1⟩ ?_
  have un : Un (frs X.stack) [] H HZ s.heap s1.heap := I1.base
  obtain ⟨⟨oc, vs, t, hoc, hdc, hvc⟩, _, _⟩ := I1.hok c' _ hc
  have rc : codeAny (model X.prog X.w) (X.A.deeper (envOfC qg sg s.heap.objs.size g cdg)) (.call (.ref f) ⟨[], []⟩) (CR (L2N.CX X.prog X.w) (envOfC qg sg s.heap.objs.size g cdg :: X.stack) X.prog X.w HZ s1 Q E) s1 := by
    refine PySem.W.kla_callFunE hr.depth of1 rfl L.co L.gen rfl ⟨c', oc, vs, t, rfl, hoc, hdc, hvc⟩ ?_
    rw [hbind]
    refine wpAny_pure (wpAny_newFunctionEnv (fun y hy => (L.own y hy).2) (fun y hy => absurd hy (by simp)) (fun h₁ hns hsb => ⟨I1.nolimit.fresh _ hsb, ?_⟩) L.kind)
    show codeAny _ _ (.expr body (lamEnv X scope s1.heap.objs.size f c')) _ _
    have kp : ∀ b o, s1.heap.get? b = some o → h₁.get? b = some o := fun b o e => hsb.extBut b o (Nat.ne_of_lt (Heap.lt_size e)) (Heap.get?_push_of_some _ e)
    have J := inv_lamN (lam_start2 (tk := s1.toks + ([] : List (Str × Value)).length) (E := E) (f := f) (c' := c') I L I1.env0 hr.hd un hns kp)
    refine PySem.W.kla_codeExpr (wpAny_mono ((hbody _ _ s1 HZ (hr.deeper _)).run [] _ _ HZ Q J ht) (fun v s' hq => ?_) fun e s' hq => hq)
    obtain ⟨w', H', J', rv, q⟩ := hq
    exact ⟨w', H', J'.os, J'.bare, J'.base, J'.hok, rv, q⟩
  have hx : Passes (L2N.CX X.prog X.w) ((cxOf CXg X.prog X.w X.K X.mg X.base Ng qg sg g cdg X.A X.stack s H Eg).tr pn xe) E := L2N.passes_call tk hW
  refine wpAny_call (codeAny_mono rc fun r s' hq => ?_)
  cases r with
  | error e => exact hx pinsZ σZ HZ s1 e s' I1 hq
  | ok fl =>
    cases fl with
    | ret u => exact I1.after hq
    | next => exact False.elim hq
    | brk => exact False.elim hq
    | cont => exact False.elim hq
end

/-! ### the word of a refusal -/
/-- the word of the exceptions of the class D is wd -/
def WordOk (P : Program) (w : World) (K : PySem.W.Frag) (mg : Str → Option Value) (base : Heap) (T : List (Addr × Str)) (k : Nat) (x : Str) (D : Addr) (wd : Str) : Prop := ∃ f : Addr, mg x = some (.ref f) ∧ PySem.W.keepIn K (.ref f) = true ∧
  ∀ (A : Around) (outer : List Env) (s : Shared) (H : Hp) (Q : VK) (p : Addr × Obj), RoomH k A → Hot1 A p → PinOk outer H s p → Env0 P w K mg base A outer s H → p.2.cls = .ref D → p.2.dict = none → Tabs T H → (∀ H', ExtN H H' → Tabs T H' → DL.Sz H' → Q (.str wd) H') →
    codeAny (model P w) A (.call (.ref f) ⟨[.ref p.1], []⟩) (CR C8.CX0 outer P w H s Q C8.E0) s
theorem pe_word {X : Cx} {T : List (Addr × Str)} {k i : Nat} {x n : Str} {D a : Addr} {wd : Str} {oe : Obj} {pn : List (Addr × Obj)} {q p pos : Pos} (W : WordOk X.prog X.w X.K X.mg X.base T k x D wd) (hr : RoomH k X.A) (hz : L2N.Zn (.ref D) none oe) (hf : ∃ vs, oe.data = .fields vs)
    (hg : Gl X x) (ho : PE (X.suite a ((a, oe) :: pn)) (.Name n p) (tVar i)) (hdb : (x == ("__debug__" : Str)) = false) (he : starEach [.Name n p] X.env = (false, eval (.Name n p) X.env) :: starEach [] X.env := by rfl) :
    PE (X.suite a ((a, oe) :: pn)) (.Call (.Name x q) [.Name n p] [] pos) (fun σ H Q => σ[i]? = some (some (.ref a)) ∧ Tabs T H ∧ ∀ H', ExtN H H' → Tabs T H' → DL.Sz H' → Q (.str wd) H') := by
  obtain ⟨f, hm, hk, run⟩ := W
  refine ⟨fun pins s σ H Q I ⟨hs, hT, h⟩ => ?_⟩
  refine wpAny_Call_Name_kw (ld_glob I hg hm ?_ hdb)
  have ha : PA (X.suite a ((a, oe) :: pn)) [.Name n p] (tCons (tVar i) tNil) := pa_cons ho pa_nil he
  refine PySem.W.callWith_K (h₀ := X.base) I.ok.mod.kin hk (thn (ha.run pos pins s σ H (fun vs H1 => vs = [V.ref a] ∧ H1 = H) I ⟨.ref a, hs, rfl, rfl⟩) fun us s1 ⟨vs, H1, I1, r, ev, eH⟩ => ?_) he (by rfl)
  subst ev
  rw [eH] at I1
  refine ⟨I1.kIn, ?_⟩
  rw [Vals.ref1 r]
  have P1 := I1.pin (a, oe) (List.mem_append_left _ List.mem_cons_self)
  have hpin : PinOk (X.suite a ((a, oe) :: pn)).stack H s1 (a, oe) := ⟨P1.1, P1.2.1, fun hmm => (List.mem_cons.mp (I1.stkSub a hmm)).elim P1.2.2.1 P1.2.2.2.1, P1.2.2.2.2⟩
  obtain ⟨vs, hv⟩ := hf
  have hot : Hot1 (X.suite a ((a, oe) :: pn)).A (a, oe) := ⟨rfl, vs, hv, hz.2.2 vs hv⟩
  have hr' : RoomH k (X.suite a ((a, oe) :: pn)).A := ⟨hr.dp, hr.un⟩
  refine wpAny_call (codeAny_mono (run _ _ s1 H Q (a, oe) hr' hot hpin I1.env0 hz.1 hz.2.1 hT h) fun r s' hq => ?_)
  cases r with
  | error e => exact (show False from hq).elim
  | ok fl =>
    cases fl with
    | ret u => exact I1.after hq
    | next => exact False.elim hq
    | brk => exact False.elim hq
    | cont => exact False.elim hq
end TolX

namespace TolX
open PySem PySem.Spec PyProof.Rows L2 LamX L2H
theorem takes0N {X : Cx} : L2N.Takes X (fun _ _ _ _ => False) := fun _ _ x => by
  obtain ⟨_, _, _, _, _, _, _, _, _, _, _, _, _, _, _, _, z⟩ := x
  exact z.elim
/-- a refusal's class is among those whose word is known; then what follows upon the word -/
def EWord (T : List (Addr × Str)) (C : String → Addr) (L : List String) (Q : VK) : XK := fun cls d H' => ∃ cn ∈ L, cls = .ref (C cn) ∧ d = none ∧ Tabs T H' ∧ ∀ H'', ExtN H' H'' → Tabs T H'' → DL.Sz H'' → Q (.str (PySem.Str.ofString cn)) H''
/-- the def that tells: at its own frame -/
structure ToldDef (P : Program) (w : World) (K : PySem.W.Frag) (mg : Str → Option Value) (base : Heap) (T : List (Addr × Str)) (C : String → Addr) (L : List String) (x : Str) (g : Addr) (k : Nat) (a n S wn : Str) (sg : Scope) (cdg : Value) (bg : List Stmt) : Prop where
  body : ∃ (p1 p2 p3 p4 p5 p6 p7 p8 p9 p10 : Pos), bg = [.Try [.Return (some (.Call (.Name a p1) [] [] p2)) p3] [.ExceptHandler (some (.Name S p4)) (some n) [.Return (some (.Call (.Name wn p5) [.Name n p6] [] p7)) p8] p9] [] [] p10]
  nd : [a, n].Nodup
  va : Vis sg a
  vn : sg.names.lookup n = some .local
  gS : sg.names.lookup S = some .globalImplicit
  gW : sg.names.lookup wn = some .globalImplicit
  da : (a == ("__debug__" : Str)) = false
  ca : (a == ("__classdict__" : Str)) = false
  dn : (n == ("__debug__" : Str)) = false
  cn : (n == ("__classdict__" : Str)) = false
  dS : (S == ("__debug__" : Str)) = false
  dW : (wn == ("__debug__" : Str)) = false
  mS : ∃ CS, mg S = some (.ref CS) ∧ ∀ c ∈ L, PySem.W.exmOne K (.ref (C c)) (.ref CS) = some true
  word : ∀ c ∈ L, WordOk P w K mg base T k wn (C c) (PySem.Str.ofString c)
theorem told_run {X : Cx} {T : List (Addr × Str)} {C : String → Addr} {L : List String} {x a n S wn : Str} {g f c' : Addr} {k : Nat} {sg : Scope} {cdg : Value} {bg : List Stmt} {q : Str} {s : Shared} {H : Hp} {Q : VK} {tl : XK → Hp → VK → Prop} (D : ToldDef X.prog X.w X.K X.mg X.base T C L x g k a n S wn sg cdg bg)
    (hr : Room k (X.A.deeper (envOfC x sg s.heap.objs.size g cdg)))
    (act : ∀ (W : WX) (pn : List (Addr × Obj)) (xe : Value → Shared → Prop) (E : XK) (p1 p2 : Pos), L2N.Takes ((cxOf C8.CX0 X.prog X.w X.K X.mg X.base [a, n] x sg g cdg X.A X.stack s H C8.E0).tr pn xe) W → (∀ cls d σ' H', E cls d H' → W cls d σ' H') →
      PE ((cxOf C8.CX0 X.prog X.w X.K X.mg X.base [a, n] x sg g cdg X.A X.stack s H C8.E0).tr pn xe) (.Call (.Name a p1) [] [] p2) (fun σZ HZ Q => σZ[0]? = some (some (.ref f)) ∧ HZ c' = some (CodeO c' q) ∧ tl E HZ Q))
    (hc : H c' = some (CodeO c' q)) (h : tl (EWord T C L Q) H Q) :
    ∃ t, PSs (cxOf C8.CX0 X.prog X.w X.K X.mg X.base [a, n] x sg g cdg X.A X.stack s H C8.E0).nox bg t ∧ t { nx := fun _ H' => Q .non H', rt := Q } (L2.start [a, n] [.ref f]) H := by
  obtain ⟨p1, p2, p3, p4, p5, p6, p7, p8, p9, p10, rfl⟩ := D.body
  obtain ⟨CS, mS, hx⟩ := D.mS
  have hgS : Gl (cxOf C8.CX0 X.prog X.w X.K X.mg X.base [a, n] x sg g cdg X.A X.stack s H C8.E0).nox S := D.gS
  have hgW : Gl (cxOf C8.CX0 X.prog X.w X.K X.mg X.base [a, n] x sg g cdg X.A X.stack s H C8.E0).nox wn := D.gW
  refine ⟨_, pss_one (L2N.ps_try_as (X := (cxOf C8.CX0 X.prog X.w X.K X.mg X.base [a, n] x sg g cdg X.A X.stack s H C8.E0).nox) (i := 1) (c := .ref CS)
      (tb := fun W D σ H => ∃ Ech : XK, (∀ cls d σ' H', Ech cls d H' → W cls d σ' H') ∧ σ[0]? = some (some (.ref f)) ∧ H c' = some (CodeO c' q) ∧ tl Ech H D.rt)
      (ts := fun b cls d D σ H => ∃ c ∈ L, cls = .ref (C c) ∧ d = none ∧ (1 < σ.length → σ[1]? = some (some (.ref b))) ∧ Tabs T H ∧ ∀ H', ExtN H H' → Tabs T H' → DL.Sz H' → D.rt (.str (PySem.Str.ofString c)) H')
      (Wout := fun _ _ _ _ => False) rfl rfl D.nd rfl D.vn ⟨hgS, D.dS, .inl mS⟩ takes0N (fun W pn xe tk _ => ?_) (fun b oe cls d pn hz hf => ?_)), ?_⟩
  · refine ⟨fun pins s2 σ H2 Dn I ⟨Ech, hW, h1, h2, h3⟩ => ?_⟩
    exact (pss_one (ps_ret (pos := p3) (act W pn xe Ech p1 p2 tk hW))).run pins s2 σ H2 Dn I ⟨h1, h2, h3⟩
  · refine ⟨fun pins s2 σ H2 Dn I ⟨c, hcL, e1, e2, h1, h2, h3⟩ => ?_⟩
    subst e1 e2
    have ho : PE ((cxOf C8.CX0 X.prog X.w X.K X.mg X.base [a, n] x sg g cdg X.A X.stack s H C8.E0).nox.suite b ((b, oe) :: pn)) (.Name n p6) (tVar 1) := pe_var rfl (.inl D.vn) D.dn D.cn
    have pw := pe_word (X := (cxOf C8.CX0 X.prog X.w X.K X.mg X.base [a, n] x sg g cdg X.A X.stack s H C8.E0).nox) (q := p5) (pos := p7) (D.word c hcL) (roomH_of hr) hz hf hgW ho D.dW
    exact (pss_one (ps_ret (pos := p8) pw)).run pins s2 σ H2 Dn I ⟨h1 (by have := I.len; rw [this]; exact Nat.lt_succ_self 1), h2, h3⟩
  · refine ⟨EWord T C L Q, fun cls d σ' H' ⟨c, hcL, e1, e2, hT, hQ⟩ => ⟨true, by rw [e1]; exact hx c hcL, fun _ b hb => ⟨c, hcL, e1, e2, fun hl => List.getElem?_set_self (by rw [List.length_set] at hl; exact hl), hT, hQ⟩, fun z => by cases z⟩, rfl, hc, h⟩
/-- the def that tells, as it stands in the text -/
structure ToldFn (P : Program) (w : World) (K : PySem.W.Frag) (mg : Str → Option Value) (base : Heap) (T : List (Addr × Str)) (C : String → Addr) (L : List String) (k : Nat) (x : Str) : Prop where
  ex : ∃ (g : Addr) (a n S wn : Str) (pg : Arguments) (bg : List Stmt) (sg : Scope) (dV kV doc pm cdv ct oc : Value) (an od : Option Addr) (osl : Array (Option Value)), mg x = some (.ref g) ∧ PySem.W.keepIn K (.ref g) = true ∧
    K.lookup g = some ⟨oc, od, .func (PySem.W.fnOf x x pg bg sg dV kV doc pm an cdv ct), osl⟩ ∧ PySem.W.codeIn K cdv x = true ∧ L2.Binds K (PySem.W.fnOf x x pg bg sg dV kV doc pm an cdv ct) [a] [] ∧ FnScope [a, n] [a] sg ∧ ToldDef P w K mg base T C L x g k a n S wn sg cdv bg
def tTold (T : List (Addr × Str)) (C : String → Addr) (L : List String) (t : XK → TE) : TE := fun σ H Q => Tabs T H ∧ ∀ H1, ExtN H H1 → Tabs T H1 → DL.Sz H1 → t (EWord T C L Q) σ H1 Q
/-- x(lambda: body) -/
theorem pe_told {X : Cx} {T : List (Addr × Str)} {C : String → Addr} {L : List String} {x : Str} {c P : Addr} {k : Nat} {params : Arguments} {body : Expr} {scope : Scope} {t : XK → TE} {p lpos pos : Pos} (D : ToldFn X.prog X.w X.K X.mg X.base T C L k x) (hg : Gl X x)
    (TB : TabB X.base X.mg c P) (hcode : X.env.code = .ref c) (hmT : (P, X.env.qual ++ "<lambda>") ∈ T) (hu : ∀ p ∈ T, p.1 = P → p.2 = X.env.qual ++ "<lambda>") (hr : Room (k + 2) X.A) (Ls : LamS X.env.scope scope) (hdef : defaultsOf params X.env = ([], []))
    (hbind : ∀ (q : Str) (cl : List (Str × Addr)) (pm cv ctv : Value), bindArgs (PySem.W.kla_fn "<lambda>" q params body scope cl pm cv ctv) ⟨[], []⟩ = pure [])
    (hbody : ∀ (A : Around) (outer : List Env) (s : Shared) (H : Hp) (E : XK) (f c' : Addr), Room k (A.deeper (lamEnv X scope s.heap.objs.size f c')) → PE (lamCxN X A outer s H E scope f c') body (t E))
    (hdb : (x == ("__debug__" : Str)) = false := by decide) :
    PE X (.Call (.Name x p) [.Lambda params body scope lpos] [] pos) (tTold T C L t) := by
  obtain ⟨g, a, n, S, wn, pg, bg, sg, dV, kV, doc, pm, cdv, ct, oc, an, od, osl, hm, hk, lk, hcg, hb, Sg, TD⟩ := D.ex
  refine ⟨fun pins s σ H Q I ⟨hT, h⟩ => ?_⟩
  refine wpAny_Call_Name_kw (ld_glob I hg hm ?_ hdb)
  refine PySem.W.callWith_K (h₀ := X.base) I.ok.mod.kin hk ?_ (by rfl) (by rfl)
  show wpAny _ _ (spliced ((false, eval (.Lambda params body scope lpos) X.env) :: backTo pos (starEach [] X.env))) _ _ s
  refine Calls.spliced_cons (lam_make2 I TB hcode hmT hu hT hdef (Ls.has I.ok) fun f c' pm' ctv H1 s' I1 eN T1 hf hfn hfr hco => ?_)
  refine Calls.spliced_nil ⟨I1.kIn, ?_⟩
  have rc : codeAny (model X.prog X.w) X.A (.call (.ref g) ⟨[.ref f], []⟩) (CR C8.CX0 X.stack X.prog X.w H1 s' Q C8.E0) s' := by
    refine run_ofS (N := [a, n]) (ps := [a]) (us := [.ref f]) (vs := [.ref f]) lk hcg Sg hr I1.env0 (hb s' [.ref f] I1.kIn rfl) (.cons rfl .nil) rfl fun hr' => ?_
    obtain ⟨t', ht', hq'⟩ := told_run (tl := fun E H' Q' => t E σ H' Q') TD (hr'.mono (Nat.le_succ k)) (fun W pn xe E p1 p2 tk hW => pe_actN (i := 0) I1 Ls hf hfn hfr (hbind _ _ _ _ _) tk hW hr' (fun A outer s H hr2 => hbody A outer s H E f c' hr2) rfl TD.va TD.da TD.ca) hco (h H1 eN T1 (DL.sz_of I1.hok))
    exact ⟨t', ht'.nox, hq'⟩
  refine wpAny_call (codeAny_mono rc fun r s2 hq => ?_)
  cases r with
  | error e => exact (show False from hq).elim
  | ok fl =>
    cases fl with
    | ret u => exact I1.after hq
    | next => exact False.elim hq
    | brk => exact False.elim hq
    | cont => exact False.elim hq
end TolX

namespace DL
open PySem L2
open PyProof.Rows (envOfC)

/-! ### x(lambda: body) at the level of data -/
def strip (ε : En) : En := ε.map fun s => if owns s = true then .un else s
@[simp] theorem strip_nil : strip [] = [] := rfl
@[simp] theorem strip_cons (s : Sl) (ε : En) : strip (s :: ε) = (if owns s = true then .un else s) :: strip ε := rfl
@[simp] theorem owns_un : owns .un = false := rfl
@[simp] theorem owns_dat (d : D) : owns (.dat d) = false := rfl
@[simp] theorem owns_adr (a : Addr) : owns (.adr a) = false := rfl
@[simp] theorem owns_scr (ns : List Int) : owns (.scr ns) = false := rfl
@[simp] theorem owns_lst (ds : List D) : owns (.lst ds) = true := rfl
@[simp] theorem owns_dic (ds : List (Key × D)) : owns (.dic ds) = true := rfl
def toldM (L : List String) : M D → M D
  | .ok d => .ok d
  | .er (.exc c) => if L.contains c = true then .ok (.str (PySem.Str.ofString c)) else stuck
  | .er .stuck => stuck
@[simp] theorem toldM_ok (L : List String) (d : D) : toldM L (.ok d) = .ok d := rfl
@[simp] theorem toldM_exc (L : List String) (c : String) : toldM L (.er (.exc c)) = if L.contains c = true then .ok (.str (PySem.Str.ofString c)) else stuck := rfl
@[simp] def toldF (L : List String) (g : En → M D) : En → M D := fun ε => toldM L (g (strip ε))
theorem Ok.rebase {B : Bs} {O : Addr → Prop} {σ : St} {H : Hp} {ε : En} (ok : Ok B O σ H ε) : Ok ⟨B.K, O, H, B.T⟩ O σ H (strip ε) := by
  have at_ : ∀ {i : Nat} {s : Sl}, (strip ε)[i]? = some s → s = .un ∨ (ε[i]? = some s ∧ owns s = false) := fun {i s} h => by
    unfold strip at h
    rw [List.getElem?_map] at h
    cases he : ε[i]? with
    | none => rw [he] at h; cases h
    | some t =>
      rw [he] at h
      simp only [Option.map_some, Option.some.injEq] at h
      by_cases ho : owns t = true
      · rw [if_pos ho] at h; exact .inl h.symm
      · rw [if_neg ho] at h; subst h; exact .inr ⟨rfl, by simpa using ho⟩
  refine ⟨LamX.ExtN.refl _, ok.tabs, ok.size, fun _ h => h, ok.dom, by unfold strip; rw [List.length_map]; exact ok.len, fun i s ov h1 h2 => ?_, fun i j s u w hij h1 h2 o1 o2 h3 h4 => ?_⟩
  · rcases at_ h1 with rfl | ⟨h, ho⟩
    · trivial
    · have sl := ok.slot i s ov h h2
      cases s with
      | un => trivial
      | adr a => exact sl
      | dat d => exact sl
      | scr ns => exact sl
      | lst ds => cases ho
      | dic ds => cases ho
  · rcases at_ h1 with rfl | ⟨h, ho⟩
    · cases o1
    · rw [ho] at o1; cases o1
section
variable {X : Cx} {P : Pm} {e o : Expr} {f g : En → M D} {p pos apos cpos : Pos}
theorem d_told {L : List String} {x : Str} {c Pt : Addr} {k : Nat} {params : Arguments} {body : Expr} {scope : Scope} {lpos : Pos} (Dn : TolX.ToldFn X.prog X.w X.K X.mg X.base P.b.T P.C L k x)
    (TB : LamX.TabB X.base X.mg c Pt) (hcode : X.env.code = .ref c) (hmT : (Pt, X.env.qual ++ "<lambda>") ∈ P.b.T) (hu : ∀ p ∈ P.b.T, p.1 = Pt → p.2 = X.env.qual ++ "<lambda>") (hr : Room (k + 2) X.A) (Ls : LamX.LamS X.env.scope scope)
    (hbody : ∀ (A : Around) (outer : List Env) (s : Shared) (H : Hp) (E : XK) (f c' : Addr) (O : Addr → Prop) (H0 : Hp), Room k (A.deeper (LamX.lamEnv X scope s.heap.objs.size f c')) → PE (TolX.lamCxN X A outer s H E scope f c') body (tS ⟨⟨X.K, O, H0, P.b.T⟩, P.C, E⟩ g))
    (hg : Gl X x := by rfl) (hK : P.b.K = X.K := by rfl) (hdef : defaultsOf params X.env = ([], []) := by rfl)
    (hbind : ∀ (q : Str) (cl : List (Str × Addr)) (pm cv ctv : Value), bindArgs (PySem.W.kla_fn "<lambda>" q params body scope cl pm cv ctv) ⟨[], []⟩ = pure [] := by intros; rfl)
    (hdb : (x == ("__debug__" : Str)) = false := by decide) : PE X (.Call (.Name x p) [.Lambda params body scope lpos] [] pos) (tS P (toldF L g)) :=
  (TolX.pe_told (t := fun E σ H Q => ∃ (O : Addr → Prop) (H0 : Hp), tS ⟨⟨X.K, O, H0, P.b.T⟩, P.C, E⟩ g σ H Q) Dn hg TB hcode hmT hu hr Ls hdef hbind (fun A outer s H E f c' hr2 => ⟨fun pins s2 σ H2 Q I ⟨O, H0, q⟩ => (hbody A outer s H E f c' O H0 hr2).run pins s2 σ H2 Q I q⟩) hdb).wk fun σ H Q ⟨O, ε, ok, w⟩ => by
    refine ⟨ok.tabs, fun H1 k1 t1 z1 => ⟨O, H1, O, strip ε, ?_, ?_⟩⟩
    · have e1 : Ext P.b.T H H1 := ⟨k1, fun _ => t1, fun _ => z1⟩
      have r := (ok.more e1).rebase
      rw [hK] at r
      exact r
    · unfold toldF at w
      cases hgv : g (strip ε) with
      | ok d =>
        rw [hgv] at w
        intro v H2 e2 hv
        have e1 : Ext P.b.T H H1 := ⟨k1, fun _ => t1, fun _ => z1⟩
        exact w v H2 (e1.trans e2) (by rw [hK]; exact hv)
      | er x =>
        rw [hgv] at w
        cases x with
        | stuck => exact w
        | exc cn =>
          rw [toldM_exc] at w
          by_cases hL : L.contains cn = true
          · rw [if_pos hL] at w
            intro H2 b2
            refine ⟨cn, List.contains_iff_mem.mp hL, rfl, rfl, b2.tabs, fun H3 k3 t3 z3 => w _ H3 ⟨(k1.trans b2.kept).trans k3, fun _ => t3, fun _ => z3⟩ (.str _)⟩
          · rw [if_neg hL] at w
            exact False.elim w

/-! ### the word -/
@[simp] def isE (i : Nat) (a : Addr) (b : Bool) : En → M D := fun ε => match ε[i]? with
  | some (.adr a') => if a' = a then .ok (.bool b) else stuck
  | _ => stuck
theorem call_isN {q : Addr × Obj} {Dc : Addr} (hq : q ∈ X.pn) (C : ExcC X.K Dc) (h1 : q.2.cls = .ref Dc) (h2 : q.2.dict = none) (hf : ∃ vs, q.2.data = .fields vs) : CallR X (.builtin "isinstance") (rIsE X.K Dc q.1) := by
  intro pins s σ H xs us Q I r h
  obtain ⟨c, cv, b, rfl, hcv, e, k⟩ := h
  cases r with
  | cons rx rr =>
    cases rr with
    | cons rt rr =>
      cases rr
      cases rx
      cases hcv _ rt
      obtain ⟨hget, _⟩ := I.pin q (List.mem_append.mpr (.inl hq))
      obtain ⟨vs, hv⟩ := hf
      have J : PySem.W.InstAt s.heap q.1 q.2 Dc none := by
        obtain ⟨qa, oc, od, oda, osl⟩ := q
        dsimp only at h1 h2 hv
        subst h1 h2 hv
        exact ⟨hget, rfl, rfl, trivial⟩
      exact PySem.W.kia_one (PySem.W.handS_kitx_exc C.hg C.hk C.hs C.hd C.ha C.hn C.ht C.hm) I.kIn J e (fun z => nomatch z) fun tk => ⟨.bl b, H, I.kept (t' := tk) fun _ _ z => z, rfl, k⟩
theorem d_isE {i : Nat} {a Dc : Addr} {b : Bool} {cE : Expr} {cv : Value} {v : V} (hc : CallR X (.builtin "isinstance") (rIsE X.K Dc a)) (hm : X.mg "isinstance" = none) (ho : PE X o (tVar i)) (hcl : PE X cE (tC v)) (hv : ∀ u, RelV v u → u = cv) (hk : PySem.W.kitOne X.K (.ref Dc) cv = some b)
    (hg : Gl X "isinstance" := by rfl) (hst : starEach [o, cE] X.env = (false, eval o X.env) :: starEach [cE] X.env := by rfl) (hst2 : starEach [cE] X.env = (false, eval cE X.env) :: starEach [] X.env := by rfl) :
    PE X (.Call (.Name "isinstance" p) [o, cE] [] pos) (tS P (isE i a b)) := (pe_callB hc hg hm (by decide +kernel) (pa_cons ho (pa_cons hcl pa_nil hst2) hst) (he := hst) (hpl := by rw [hst2]; rfl)).wk fun σ H Q ⟨O, ε, ok, w⟩ => by
  unfold isE at w
  cases hi : ε[i]? with
  | none => rw [hi] at w; exact False.elim w
  | some s =>
    rw [hi] at w
    cases s with
    | adr a' =>
      obtain ⟨ov, h1, h2⟩ := slotAt ok hi
      dsimp only at w
      by_cases e : a' = a
      · rw [if_pos e] at w
        subst e
        have h2' : ov = some (.ref a') := h2
        subst h2'
        exact ⟨.ref a', h1, v, cv, b, rfl, hv, hk, w _ H (Ext.refl _ _) (.bl b)⟩
      · rw [if_neg e] at w
        exact False.elim w
    | _ => exact False.elim w
@[simp] def itL (f : En → M D) : En → M (List D) := fun ε => bnd (f ε) fun d => match d with
  | .list ds => .ok ds
  | _ => stuck
theorem d_lcH {iter tgE : Expr} {scope : Scope} (own : List (Str × Nat)) (tg : Tg) (hc : L2H.HotC X) (hN : X.N.Nodup) (hl : PE X iter (tP P g)) (ok : BlkOk X.N X.env.scope scope own)
    (hg : ∀ (s : Shared) (H : Hp) (C : Addr) (cl : List (Str × Addr)) (fp : List Addr), PG (X.blk s H scope (compEnvC scope cl C X.env) fp) tgE (tgG P.b.K tg))
    (he : ∀ (s : Shared) (H : Hp) (C : Addr) (cl : List (Str × Addr)) (fp : List Addr), PE (X.blk s H scope (compEnvC scope cl C X.env) fp) e (tS P.n f)) (hv : ∀ i ∈ tg.slots, i ∈ own.map (·.2) := by decide) (hs : ∀ x, foldedSetIterable iter X.env x = pure x := by intro _; rfl) (hK : P.b.K = X.K := by rfl) :
    PE X (.ListComp e [⟨tgE, iter, [], 0⟩] scope pos) (tN P (comp tg yesT f (own.map (·.2)) (itL g))) := (L2H.pe_lcH hc hN hl ok hg (fun _ _ _ _ _ => ts_nil (P := P.n)) he hs).wk fun σ H Q h => comp_run (it := itL g) (fun R ⟨O, ε, ok, w⟩ => ⟨O, ε, ok, by
    unfold itL at w
    cases hgv : g ε with
    | er x => rw [hgv] at w; exact w
    | ok d =>
      rw [hgv, bnd_ok] at w
      intro v H1 e1 hv
      cases d with
      | list ds =>
        obtain ⟨a, vs, rfl, hr, hd⟩ := hv.lst
        refine ⟨a, rfl, ⟨vs, .inl hr⟩, ?_⟩
        rw [← hK]
        exact w _ H1 e1 (wk_listP hr hd (by rw [← hd.len]; exact sz_rd (ok.more e1) hr))
      | _ => exact False.elim w⟩) hv (fun _ _ _ z => z) (fun _ _ _ z => z) h
/-- l.index(d) -/
def sIndex : D → D → Option D
  | .list ds, d => if SeqAt.shaped (.list ds) = true ∧ SeqAt.shaped d = true then (ds.findIdx? fun z => PyData.eqv z d).map fun j => .int (j : Nat) else none
  | _, _ => none
@[simp] def idxF (f g : En → M D) : En → M D := fun ε => bnd (f ε) fun d => match d with
  | .list ds => bnd (g ε) fun x => opt (sIndex (.list ds) x)
  | _ => stuck
theorem d_index (hu : X.A.units + 65 < cLine) (ho : PE X o (tP P f)) (he : PE X e (tQ P g)) (hbase : attributeBase o "index" X.env (eval o X.env) = eval o X.env := by rfl) (hst : starEach (e :: []) X.env = (false, eval e X.env) :: starEach [] X.env := by rfl)
    (hfew : (((backTo cpos (starEach [e] X.env)).all fun x => !x.1) && ((backToKw cpos (keywordEach [] X.env)).all fun x => x.1.isSome) && decide ([e].length + ([] : List Keyword).length + (if ([] : List Keyword).isEmpty then 0 else 1) < 30)) = true := by rfl)
    (hline : (apos.endLine == cpos.line) = true := by rfl) (hty : typeOf (.builtin "list.index") = pure (.type "method_descriptor") := by first | exact PySem.F.type_list_index | (show builtinType _ = _; rw [builtinType_eq_fast]; kernel_rfl)) (hK : P.b.K = X.K := by rfl) :
    PE X (.Call (.Attribute o "index" apos) [e] [] cpos) (tS P (idxF f g)) := (pe_bm PySem.F.plainAttrs_list PySem.F.slot_list_index hty (mt_indexD hu) ho (pa_cons he pa_nil hst) hbase hfew hline hst).wk fun σ H Q ⟨O, ε, ok, w⟩ => ⟨O, ε, ok, by
    unfold idxF at w
    cases hf : f ε with
    | er x => rw [hf] at w; exact w
    | ok d =>
      rw [hf, bnd_ok] at w
      intro v H1 e1 hv
      cases d with
      | list ds =>
        dsimp only at w
        obtain ⟨a, vs, rfl, hr, hd⟩ := hv.lst
        refine ⟨.inl ⟨rfl, vs, .inl hr⟩, O, ε, ok.more e1, ?_⟩
        cases hgv : g ε with
        | er x => rw [hgv] at w; exact w
        | ok x =>
          rw [hgv, bnd_ok] at w
          intro u H2 e2 hu2
          cases hz : sIndex (.list ds) x with
          | none => rw [hz] at w; exact False.elim w
          | some z =>
            rw [hz, opt_some] at w
            simp only [sIndex] at hz
            split at hz
            · rename_i hsh
              cases hj : ds.findIdx? fun z => PyData.eqv z x with
              | none => rw [hj] at hz; cases hz
              | some j =>
                rw [hj] at hz
                cases hz
                obtain ⟨h1, h2, h3⟩ := List.findIdx?_eq_some_iff_getElem.mp hj
                refine ⟨a, u, x, ds, j, ds[j], rfl, rfl, ?_, ?_, hsh.1, hsh.2, List.getElem?_eq_getElem h1, h2, fun m z' hm hz' => ?_, w _ H2 (e1.trans e2) (.int _)⟩
                · rw [← hK]
                  exact Rp.dp _ _ ((hv.more e2).q ok.sub).now
                · rw [← hK]
                  exact Rp.dp _ _ hu2.now
                · obtain ⟨hm2, e⟩ := List.getElem?_eq_some_iff.mp hz'
                  subst e
                  simpa using h3 m hm
            · cases hz
      | _ => exact False.elim w⟩
end
end DL

namespace DL
open PySem L2
open PySem.Spec
open PyProof.Rows (envOfC)
section
variable {P : Program} {w : World} {K : PySem.W.Frag} {mg : Str → Option Value} {base : Heap} {T : List (Addr × Str)} {C : String → Addr}
theorem word_of {x e : Str} {st : Stmt} {N : List Str} {k : Nat} {Fw : Addr → En → M Fl} {D : Addr} {wd : Str} (R : Raw K mg x st) (hb : ∀ (kV doc pm : Value) (an : Option Addr) (cdv ct : Value) (us : List Value), us.length = [e].length → bindArgs (PySem.W.fnOf x x (defArgs st) (defBody st) (defScope st) .none kV doc pm an cdv ct) ⟨us, []⟩ = pure ([e].zip us)) (S : FnScope N [e] (defScope st))
    (body : ∀ (cdv : Value) (f : Addr) (A : Around) (outer : List Env) (s : Shared) (H : Hp) (p : Addr × Obj), L2H.Hot1 A p → p.2.cls = .ref D → p.2.dict = none → L2H.RoomH k (A.deeper (envOfC x (defScope st) s.heap.objs.size f cdv)) →
      PSs (L2H.cxH C8.CX0 P w K mg base N x (defScope st) f cdv A outer s H C8.E0 p) (defBody st) (tD ⟨⟨K, fun _ => False, H, T⟩, C, E0⟩ (Fw p.1)))
    (hw : ∀ a, Fw a (.adr a :: List.replicate (N.length - 1) .un) = .ok (.rt (.str wd))) (hN : 1 ≤ N.length := by decide) : TolX.WordOk P w K mg base T (k + 1) x D wd := by
  obtain ⟨f, fd, F, hm⟩ := R
  have hbd : Binds K fd [e] [] := F.binds hb
  obtain ⟨oc, od, kV, doc, pm, an, cdv, ct, osl, rfl, lk, hcd⟩ := F.ex
  refine ⟨f, hm, F.kp, fun A outer s H Q p hr hot hpin e0 hc hd hT q => ?_⟩
  have KX : K.In s.heap := e0.mod.kin.keeps fun b o e => (e0.bs b o e).1
  have lim : s.heap.NoLimit := e0.mod.nolimit.keeps fun b o e => (e0.bs b o e).1
  have hkind : ∀ y ∈ [e].zip [Value.ref p.1], (defScope st).names.lookup y.1 = some .local ∨ ((defScope st).names.lookup y.1 = some .cell ∧ ((cellsFrom (s.heap.objs.size + 1) (defScope st).names []).lookup y.1).isSome = true) := fun ⟨n, v⟩ hy => by
    rcases S.par n (List.of_mem_zip hy).1 with z | z
    · exact .inl z
    · exact .inr ⟨z, PySem.W.cellsFrom_some _ _ _ (.inl z)⟩
  have hbind := hbd s [Value.ref p.1] KX rfl
  rw [List.append_nil] at hbind
  refine codeAny_call_function hr.depth (KX _ _ lk) rfl S.co S.gen rfl (PySem.W.codeRec_of KX hcd) (hbind _ _ _ _ ?_)
  refine wpAny_newFunctionEnv_cells S.kind hkind fun env he s1 xx => ?_
  subst he
  refine ⟨lim.keeps xx.toInCall.keep, codeAny_func ?_⟩
  have I := L2H.inv_startH (CX := C8.CX0) (P := P) (w := w) (K := K) (mg := mg) (base := base) (N := N) (qual := x) (f := f) (cd := cdv) (E := C8.E0) (vs := [V.ref p.1]) S hpin e0 rfl (.cons rfl .nil) xx
  have ht := body cdv f A outer s H p hot hc hd (hr.deeper _)
  refine wpAny_mono (ht.run [] s1 (L2.start N [V.ref p.1]) H { nx := fun _ H' => Q .non H', rt := Q } I ?_) (fun fl s' hs => ?_) fun e s' hs => hs
  · refine ⟨fun _ => False, .adr p.1 :: List.replicate (N.length - 1) .un, ⟨LamX.ExtN.refl _, hT, sz_of e0.hok, fun _ z => z, fun _ z => z.elim, ?_, fun i t ov h1 h2 => ?_, fun i j t u v hij h1 h2 o1 o2 h3 h4 => ?_⟩, ?_⟩
    · unfold L2.start
      simp
    · match i, h1, h2 with
      | 0, h1, h2 =>
        cases h1
        unfold L2.start at h2
        cases h2
        rfl
      | i + 1, h1, h2 =>
        rw [List.getElem?_cons_succ] at h1
        have e : t = .un := List.eq_of_mem_replicate (List.mem_of_getElem? h1)
        subst e
        trivial
    · match i, h1 with
      | 0, h1 => cases h1; cases o1
      | i + 1, h1 =>
        rw [List.getElem?_cons_succ] at h1
        have e : t = .un := List.eq_of_mem_replicate (List.mem_of_getElem? h1)
        subst e
        cases o1
    · rw [hw p.1]
      intro v H' b hv
      cases hv
      exact q H' b.kept b.tabs b.size
  · have fin : ∀ {σ' : L2.St} {H' : Hp} {v : V} {u : Value}, Inv (L2H.cxH C8.CX0 P w K mg base N x (defScope st) f cdv A outer s H C8.E0 p) [] σ' H' s' → RelV v u → Q v H' → CE outer P w H s Q u s' :=
      fun {σ' H' v u} J rv q => ⟨v, H', J.os, J.bare, J.base, J.hok, rv, q⟩
    cases fl with
    | ret u =>
      obtain ⟨v, σ', H', J, rv, q⟩ := hs
      exact fin J rv q
    | next =>
      obtain ⟨σ', H', J, q⟩ := hs
      exact fin (v := V.non) (u := Value.none) J rfl q
    | brk =>
      obtain ⟨_, _, _, q⟩ := hs
      exact False.elim q
    | cont =>
      obtain ⟨_, _, _, q⟩ := hs
      exact False.elim q
theorem told_mk {x a n S wn : Str} {st : Stmt} {k : Nat} {L : List String} {CS : Addr} (R : Raw K mg x st) (hb : ∀ (kV doc pm : Value) (an : Option Addr) (cdv ct : Value) (us : List Value), us.length = [a].length → bindArgs (PySem.W.fnOf x x (defArgs st) (defBody st) (defScope st) .none kV doc pm an cdv ct) ⟨us, []⟩ = pure ([a].zip us)) (Sc : FnScope [a, n] [a] (defScope st))
    (body : ∃ (p1 p2 p3 p4 p5 p6 p7 p8 p9 p10 : Pos), defBody st = [.Try [.Return (some (.Call (.Name a p1) [] [] p2)) p3] [.ExceptHandler (some (.Name S p4)) (some n) [.Return (some (.Call (.Name wn p5) [.Name n p6] [] p7)) p8] p9] [] [] p10])
    (mS : mg S = some (.ref CS)) (hx : ∀ c ∈ L, PySem.W.exmOne K (.ref (C c)) (.ref CS) = some true) (word : ∀ c ∈ L, TolX.WordOk P w K mg base T k wn (C c) (PySem.Str.ofString c))
    (va : Vis (defScope st) a := by first | exact Or.inl rfl | exact Or.inr (Or.inl rfl)) (vn : (defScope st).names.lookup n = some .local := by rfl) (gS : (defScope st).names.lookup S = some .globalImplicit := by rfl) (gW : (defScope st).names.lookup wn = some .globalImplicit := by rfl)
    (nd : [a, n].Nodup := by decide) (da : (a == ("__debug__" : Str)) = false := by decide) (ca : (a == ("__classdict__" : Str)) = false := by decide) (dn : (n == ("__debug__" : Str)) = false := by decide) (cn : (n == ("__classdict__" : Str)) = false := by decide) (dS : (S == ("__debug__" : Str)) = false := by decide) (dW : (wn == ("__debug__" : Str)) = false := by decide) :
    TolX.ToldFn P w K mg base T C L k x := by
  obtain ⟨f, fd, F, hm⟩ := R
  have hbd : Binds K fd [a] [] := F.binds hb
  obtain ⟨oc, od, kV, doc, pm, an, cdv, ct, osl, rfl, lk, hcd⟩ := F.ex
  exact ⟨⟨f, a, n, S, wn, _, _, _, _, kV, doc, pm, cdv, ct, oc, an, od, osl, hm, F.kp, lk, hcd, hbd, Sc, ⟨body, nd, va, vn, gS, gW, da, ca, dn, cn, dS, dW, ⟨CS, mS, hx⟩, word⟩⟩⟩
end
end DL

namespace DL
open PySem L2
open PyProof.Rows (envOfC)
theorem hot_f {A : Around} {p : Addr × Obj} (h : L2H.Hot1 A p) : ∃ vs, p.2.data = .fields vs := ⟨h.2.choose, h.2.choose_spec.1⟩
theorem roomh64 {k : Nat} {A : Around} (h : L2H.RoomH k A) : A.units + 64 < cLine := by have := h.un; omega
theorem roomh65 {k : Nat} {A : Around} (h : L2H.RoomH k A) : A.units + 65 < cLine := by have := h.un; omega
theorem roomh1 {k : Nat} {A : Around} (h : L2H.RoomH k A) : A.units + 1 < cLine := by have := h.un; omega
section
variable {P : Program} {w : World} {K : PySem.W.Frag} {mg : Str → Option Value} {base : Heap} {T : List (Addr × Str)} {C : String → Addr}
/-- the same of a def whose code object is known -/
theorem def_Sc {x qual : Str} {st : Stmt} {f : Addr} {fd : FuncData} {N ps : List Str} {k n : Nat} {Fb : En → M Fl} {cd0 : Value} (F : Fun K x qual st f fd) (hc0 : fd.code = cd0) (S : FnScope N ps (defScope st)) (hn : ps.length = n)
    (body : ∀ (A : Around) (outer : List Env) (s : Shared) (H : Hp) (E : XK) (O : Addr → Prop), Room k (A.deeper (envOfC qual (defScope st) s.heap.objs.size f cd0)) → PSs (cxOf (L2N.CX P w) P w K mg base N qual (defScope st) f cd0 A outer s H E) (defBody st) (tD ⟨⟨K, O, H, T⟩, C, E⟩ Fb)) :
    FnOk P w K mg base (L2N.CX P w) (k + 1) f fd ps (spS K T C N n Fb) := by
  obtain ⟨oc, od, kV, doc, pm, an, cdv, ct, osl, rfl, lk, hcd⟩ := F.ex
  have e : cdv = cd0 := hc0
  subst e
  refine fn_of lk hcd S (fun vs H Q E h => by rw [hn]; exact h.1) fun A outer s H vs Q E hr h => ?_
  obtain ⟨_, O, ε, ok, h⟩ := h
  refine ⟨_, body A outer s H E O hr, O, ε, ok, ?_⟩
  cases hf : Fb ε with
  | er e =>
    rw [hf] at h
    cases e with
    | stuck => exact h
    | exc c => exact h
  | ok fl =>
    rw [hf] at h
    cases fl with
    | rt d => exact h
    | nx ε' => exact fun σ' H' O' ok' k => h H' (bye ok')
    | bk ε' => exact h.elim
    | ct ε' => exact h.elim
theorem law_S {f : Addr} {fd : FuncData} {N ps : List Str} {k : Nat} {Fb : En → M Fl} (hn : ps.length = 1) (G : FnOk P w K mg base (L2N.CX P w) k f fd ps (spS K T C N 1 Fb))
    (hm : ∀ ns : List Int, ns.length ≤ 63 → Fb (.scr ns :: List.replicate (N.length - 1) .un) = .ok (.rt (.bool true))) (hN : 1 ≤ N.length := by decide) : FnOk P w K mg base (L2N.CX P w) k f fd ps (spLaw K T) := by
  refine ⟨fun vs H Q E ⟨a, ns, e, _⟩ => by rw [e, hn]; rfl, fun A outer s H args us vs Q E hr e0 hb hv ⟨a, ns, e, hl, hq, hT, q⟩ => G.run A outer s H args us vs Q E hr e0 hb hv ?_⟩
  subst e
  refine ⟨rfl, fun _ => False, .scr ns :: List.replicate (N.length - 1) .un, ⟨LamX.ExtN.refl _, hT, sz_of e0.hok, fun _ z => z, fun _ z => z.elim, ?_, fun i s ov h1 h2 => ?_, fun i j s u v hij h1 h2 o1 o2 h3 h4 => ?_⟩, ?_⟩
  · unfold L2.start
    simp
  · match i, h1, h2 with
    | 0, h1, h2 =>
      cases h1
      unfold L2.start at h2
      cases h2
      refine ⟨a, rfl, ?_⟩
      rw [hide_none]
      exact hq
    | i + 1, h1, h2 =>
      rw [List.getElem?_cons_succ] at h1
      have e : s = .un := List.eq_of_mem_replicate (List.mem_of_getElem? h1)
      subst e
      trivial
  · match i, h1 with
    | 0, h1 => cases h1; cases o1
    | i + 1, h1 =>
      rw [List.getElem?_cons_succ] at h1
      have e : s = .un := List.eq_of_mem_replicate (List.mem_of_getElem? h1)
      subst e
      cases o1
  · rw [hm ns hl]
    intro v H' b hv
    cases hv
    exact q H'
/-- the same as def_D of a def whose code object is known -/
theorem has_Dc {x : Str} {st : Stmt} {N ps : List Str} {k n : Nat} {Fb : En → M Fl} {f : Addr} {fd : FuncData} {cd0 : Value} (F : Fun K x x st f fd) (g : mg x = some (.ref f)) (hc0 : fd.code = cd0) (hb : ∀ (kV doc pm : Value) (an : Option Addr) (cdv ct : Value) (us : List Value), us.length = ps.length → bindArgs (PySem.W.fnOf x x (defArgs st) (defBody st) (defScope st) .none kV doc pm an cdv ct) ⟨us, []⟩ = pure (ps.zip us)) (S : FnScope N ps (defScope st)) (hn : ps.length = n)
    (body : ∀ (A : Around) (outer : List Env) (s : Shared) (H : Hp) (E : XK) (O : Addr → Prop), Room k (A.deeper (envOfC x (defScope st) s.heap.objs.size f cd0)) → PSs (cxOf (L2N.CX P w) P w K mg base N x (defScope st) f cd0 A outer s H E) (defBody st) (tD ⟨⟨K, O, H, T⟩, C, E⟩ Fb)) (hN : n ≤ N.length := by decide) :
    Has P w K mg base (k + 1) x ps (spD K T C n (runF N.length Fb)) := ⟨f, fd, (def_Sc F hc0 S hn body).imp fun vs H Q E q => spS_D hN vs H Q E q, g, F.kp, F.binds hb⟩
end
open PySem.W PySem.Spec PyProof.Rows in
theorem walk_tabs {l : PySem.W.OpenLaw} {n k : Nat} {q : Program} {loose : List Str} {XP : (Str → Option Value) → Heap → Prop} {YP : World → Heap → Prop} {d : DefRec} {K : Params → PySem.W.Frag} {CX : World → CXT} {x : Str}
    (hn : l.most = some n) (hn2 : n ≤ sizeLine) (hdf : d.params.defaults = []) (hr : Room k callerA) (hY : ∀ (w : World) (h : Heap), YP w h → (K w.params).In h)
    (F : ∀ (w : World) (mg : Str → Option Value) (fa : Addr) (h : Heap), YP w h → (K w.params).In h → h.Ns mainGlobals mg → mg d.name = some (.ref fa) →
      (∀ (e : DefRec) (x : Str) (c P : Addr), (recsOf q).find? (fun e => e.name == x) = some e → tabIn (K w.params) x = some (c, P) → CodeHd h c P ∧ h.get? P = some { cls := .none, data := .fields #[] }) → LamX.LawAtS l w (K w.params) (CX w) k n x mg fa h)
    (hCX : ∀ (w : World) (H : Hp) (s : Shared) (e : Value) (s' : Shared), CX w [] H s (fun _ _ _ => False) e s' → False) :
    PySem.W.WalkO q loose XP YP l.row.toRowW d [] (fun f vs => PySem.call f vs) := by
  refine Att.attach_callB hn hdf fun w s₀ s₁ mg mb fa o pm cd doc a vs ns G Y ho hd hcd hmg hobj hints hlen hbits hg => ?_
  have KX := hY w _ Y
  obtain ⟨fd, cs, sp, hT, nT, C, hb, hsp, hF⟩ := F w mg fa _ Y KX G.T.g hmg (fun e x c P hrec ht => tab_of G.T KX hrec ht)
  exact LamX.law_callTs KX G.T.g G.T.b G.T.builtins G.T.nolimit hg hT nT C G.T.bmain hobj hints (Nat.le_trans hlen hn2) hr hF hb (fun H hH hS => hsp H a ns hlen hbits hH hS) fun H e s' => hCX w H s₁ e s'
end DL
namespace DL
open PySem L2
theorem rpStrs {K : PySem.W.Frag} {H : Hp} : ∀ xs : List Str, RpAll K H (xs.map V.str) (xs.map PyData.str)
  | [] => .nil
  | x :: r => .cons (.str x) (rpStrs r)
/-- a tuple of texts of the module -/
theorem globD_strs {K : PySem.W.Frag} {mg : Str → Option Value} {x : Str} {a : Addr} {o : Obj} {its : Array Value} {n : Nat} (xs : List Str) (hm : mg x = some (.ref a)) (lk : K.lookup a = some o) (hc : o.cls = .type "tuple") (hd : o.data = .seq its n) (hs : PyProof.Rows.StrsAre its.toList xs) (hz : its.size ≤ 1000) : GlobD K mg x (.tuple (xs.map PyData.str)) := by
  have h16 := sizeLine_eq
  exact ⟨_, .ref a, hm, rfl, fun H => .tup (.inr ⟨o, its, n, lk, hc, hd, by omega, vals_of_strs hs⟩) (rpStrs xs)⟩
end DL
namespace DL
open PySem
/-- the table of a def's code object, found link by link -/
theorem tab_mk {K : PySem.W.Frag} {x : Str} {f c P : Addr} {o1 o2 : Obj} {fd : FuncData} {vs : Array Value} (h1 : PySem.W.nsIn K mainGlobals x = some (some (.ref f))) (h2 : K.lookup f = some o1) (d1 : o1.data = .func fd) (h3 : fd.code = .ref c) (h4 : K.lookup c = some o2) (d2 : o2.data = .fields vs) (h5 : (vs[11]? : Option Value) = some (.ref P)) : PySem.W.tabIn K x = some (c, P) := by
  cases o1; cases o2
  cases d1; cases d2
  unfold PySem.W.tabIn
  rw [h1]
  dsimp only
  rw [h2]
  dsimp only
  rw [h3]
  dsimp only
  rw [h4]
  dsimp only
  rw [h5]
end DL

/-! ## sorted(l, key=lambda n: x[n][c]) -/
namespace DL
open PySem PySem.Spec PyProof.Rows L2 LamX
/-- one parameter n, else captured names and globals -/
structure LamK (sc scope : Scope) (n : Str) : Prop where
  kind : scope.kind = .function
  co : scope.isCoroutine = false
  gen : scope.isGenerator = false
  noc : ∀ y ∈ scope.names, y.2 ≠ .cell
  par : scope.names.lookup n = some .local
  free : ∀ y ∈ scope.names, y.2 = .free → sc.names.lookup y.1 = some .cell ∨ sc.names.lookup y.1 = some .free
def lamKB (sc scope : Scope) (n : Str) : Bool :=
  decide (scope.kind = .function) && !scope.isCoroutine && !scope.isGenerator && decide (scope.names.lookup n = some .local) && scope.names.all fun y => !decide (y.2 = .cell) && (!decide (y.2 = .free) || decide (sc.names.lookup y.1 = some .cell) || decide (sc.names.lookup y.1 = some .free))
theorem lamK_by {sc scope : Scope} {n : Str} (h : lamKB sc scope n = true) : LamK sc scope n := by
  unfold lamKB at h
  simp only [Bool.and_eq_true, Bool.or_eq_true, Bool.not_eq_true', decide_eq_true_eq, decide_eq_false_iff_not, List.all_eq_true] at h
  obtain ⟨⟨⟨⟨h1, h2⟩, h3⟩, h5⟩, h4⟩ := h
  refine ⟨h1, h2, h3, fun y hy => (h4 y hy).1, h5, fun y hy e => ?_⟩
  rcases (h4 y hy).2 with (z | z) | z
  · exact absurd e z
  · exact .inl z
  · exact .inr z
section
variable {prog : Program} {w : World} {A : Around} {s : Shared}
/-- x[n][c], evaluated in the lambda's frame -/
theorem key_eval {E : Value → Shared → Prop} {env : Env} {x n : Str} {cx l tp : Addr} {k z c : Int} {t t2 : Tok} {its xs : Array Value} {j kd : Nat} {p1 p2 p3 p4 p5 : Pos} {Q : Value → Shared → Prop} {m : Str → Option Value}
    (hkind : env.scope.kind = .function) (hn : env.kindOf n = some .local) (hx : env.kindOf x = some .free) (hc : env.cells.lookup x = some cx) (hcell : s.heap.IsCell cx (some (.ref l))) (hns : s.heap.Ns env.locals m) (hm : m n = some (.int k t))
    (hl : s.heap.IsList l its) (h0 : 0 ≤ k) (hfit : k < 2 ^ 63) (hi : its[k.toNat]? = some (.ref tp)) (ht : IsTup s.heap tp xs) (hlo : -(2 ^ 63) ≤ c) (hhi : c < 2 ^ 63) (hj : seqIndex? c xs.size = some j) (hv : xs[j]? = some (.int z t2))
    (hd1 : (x == ("__debug__" : Str)) = false) (hd2 : (n == ("__debug__" : Str)) = false) (hcd : (x == ("__classdict__" : Str)) = false)
    (q : ∀ tk, Q (.int z t2) { s with toks := tk }) : wpAny (model prog w) A (eval (.Subscript (.Subscript (.Name x p1) (.Name n p2) p3) (.Constant (.int c) kd p4) p5) env) Q E s := by
  refine Subscript_ (Subscript_ (wpAny_Name (wpAny_loadName_free hkind hx hc hcell (wpAny_Name (wpAny_loadName_local hkind hn hns hm ?_) hd2) hcd) hd1))
  refine subscriptTail_builtinR (x := .ref tp) hl.typeIs slot_list_getitem.lookup (wpAny_getItem_list (Q := fun r s' => r = .ref tp ∧ _) hl h0 hfit hi ⟨rfl, ?_⟩) (by with_unfolding_all rfl)
  refine wpAny_Constant_int ?_
  exact subscriptTail_builtinR (x := .int z t2) (s := { s with toks := s.toks + 1 }) (IsTup.typeIs (s := { s with toks := s.toks + 1 }) ht) slot_tuple_getitem.lookup (getItem_tuple (s := { s with toks := s.toks + 1 }) (Q := fun r s' => r = .int z t2 ∧ _) ht hlo hhi hj hv ⟨rfl, q _⟩) (by with_unfolding_all rfl)
/-- the lambda called: it gives x[k][c], and what was there is as it was -/
theorem key_call {f c' cx l tp : Addr} {pm ctv : Value} {x n qual : Str} {clos : List (Str × Addr)} {params : Arguments} {scope sc : Scope} {k z c : Int} {t t2 : Tok} {its xs : Array Value} {j kd : Nat} {p1 p2 p3 p4 p5 : Pos} (hroom : A.depth < recursionLimit)
    (L : LamK sc scope n) (hf : s.heap.get? f = some (PySem.W.kla_obj "<lambda>" qual params (.Subscript (.Subscript (.Name x p1) (.Name n p2) p3) (.Constant (.int c) kd p4) p5) scope clos pm c' ctv)) (hcr : s.heap.CodeRec (.ref c') qual)
    (hbind : ∀ v : Value, bindArgs (PySem.W.kla_fn "<lambda>" qual params (.Subscript (.Subscript (.Name x p1) (.Name n p2) p3) (.Constant (.int c) kd p4) p5) scope clos pm (.ref c') ctv) ⟨[v], []⟩ = pure [(n, v)])
    (hx : scope.names.lookup x = some .free) (hc : clos.lookup x = some cx) (hcell : s.heap.IsCell cx (some (.ref l))) (nolim : s.heap.NoLimit)
    (hl : s.heap.IsList l its) (h0 : 0 ≤ k) (hfit : k < 2 ^ 63) (hi : its[k.toNat]? = some (.ref tp)) (ht : IsTup s.heap tp xs) (hlo : -(2 ^ 63) ≤ c) (hhi : c < 2 ^ 63) (hj : seqIndex? c xs.size = some j) (hv : xs[j]? = some (.int z t2))
    (hd1 : (x == ("__debug__" : Str)) = false := by decide) (hd2 : (n == ("__debug__" : Str)) = false := by decide) (hcd : (x == ("__classdict__" : Str)) = false := by decide) :
    wpAny (model prog w) A (call (.ref f) [.int k t]) (PySem.W.KeyPure (.int z) s) (fun _ _ => False) s := by
  refine wpAny_call ?_
  refine PySem.W.kla_callFunE hroom hf rfl L.co L.gen rfl hcr ?_
  rw [hbind]
  refine wpAny_pure (wpAny_newFunctionEnv (fun y hy => L.noc y hy) (fun y hy => by rw [List.mem_singleton.mp hy]; exact L.par) (fun h₁ hns hsb => ⟨nolim.fresh _ hsb, ?_⟩) L.kind)
  have kp : ∀ b o, s.heap.get? b = some o → h₁.get? b = some o := fun b o e => hsb.extBut b o (Nat.ne_of_lt (Heap.lt_size e)) (Heap.get?_push_of_some _ e)
  refine PySem.W.kla_codeExpr ?_
  obtain ⟨oc, ec, dc⟩ := hcell
  obtain ⟨ol, el, cl, dl⟩ := hl
  obtain ⟨ot, et, ct, dt⟩ := ht
  refine key_eval (t := t) (s := { s with heap := h₁, toks := s.toks + [(n, Value.int k t)].length }) (m := fun y => [(n, Value.int k t)].reverse.lookup y) L.kind L.par hx ?_ ⟨oc, kp _ _ ec, dc⟩ hns ?_ ⟨ol, kp _ _ el, cl, dl⟩ h0 hfit hi ⟨ot, kp _ _ et, ct, dt⟩ hlo hhi hj hv hd1 hd2 hcd fun tk => ?_
  · exact hc
  · simp
  · exact ⟨h₁, tk, rfl, kp, .int z t2⟩
end
end DL

namespace DL
open PySem PySem.Spec PyProof.Rows L2 LamX
/-- what sorted(l, key=lambda n: x[n][c]) wants and gives: i0 is the slot of x -/
def tSortK (K : PySem.W.Frag) (T : List (Addr × Str)) (i0 : Nat) (c : Int) (ta : TA) : TE := fun σ H Q => ta σ H fun vs H1 => Tabs T H1 ∧ ∀ H2, ExtN H1 H2 → Tabs T H2 → Sz H2 → ∃ (a la : Addr) (ns : List Int) (ls : List V) (kz : Int → Int),
  vs = [V.ref a] ∧ SqL K H2 a (ns.map V.int) ∧ σ[i0]? = some (some (.ref la)) ∧ SqL K H2 la ls ∧ (∀ n ∈ ns, 0 ≤ n ∧ ∃ tp xs, ls[n.toNat]? = some (.ref tp) ∧ SqT K H2 tp xs ∧ L2.atI xs c = some (.int (kz n))) ∧
  ∀ p, H2 p = none → Q (.ref p) (upd H2 p (.lst ((ns.mergeSort (PySem.W.dataLe false fun n => .int (kz n))).map V.int)))
section
variable {X : Cx}
theorem LamK.has {scope : Scope} {n : Str} (L : LamK X.env.scope scope n) (ok : X.Ok) : ∀ y ∈ scope.names, y.2 = .free → ∃ c, X.env.cells.lookup y.1 = some c := fun y hy e => by
  rcases L.free y hy e with k | k
  · exact ok.has _ (.inl k)
  · exact ok.has _ (.inr k)
theorem each_ints : ∀ {ns : List Int} {vs : List Value}, Vals (ns.map V.int) vs → PySem.W.EachIs (fun (v : Value) (n : Int) => ∃ t, v = .int n t) vs ns
  | [], _, h => by cases h; exact .nil
  | n :: ns, _, h => by
    cases h with
    | cons r rr =>
      obtain ⟨t, rfl⟩ := r
      exact .cons ⟨t, rfl⟩ (each_ints rr)
theorem ints_each : ∀ {ns : List Int} {vs : List Value}, PySem.W.EachIs (fun (v : Value) (n : Int) => ∃ t, v = .int n t) vs ns → Vals (ns.map V.int) vs
  | _, _, .nil => .nil
  | _, _, .cons ⟨t, e⟩ r => by
    subst e
    exact .cons ⟨t, rfl⟩ (ints_each r)
theorem pe_sortKey {T : List (Addr × Str)} {C P : Addr} {i0 : Nat} {x n : Str} {e : Expr} {ta : TA} {c : Int} {kd : Nat} {k : Nat} {params : Arguments} {scope : Scope} {p p1 p2 p3 p4 p5 lpos kpos pos : Pos}
    (hg : Gl X "sorted") (hm : X.mg "sorted" = none) (ha : PA X [e] ta) (TB : TabB X.base X.mg C P) (hcode : X.env.code = .ref C) (hmT : (P, X.env.qual ++ "<lambda>") ∈ T) (hu : ∀ p ∈ T, p.1 = P → p.2 = X.env.qual ++ "<lambda>") (hr : Room (k + 1) X.A)
    (L : LamK X.env.scope scope n) (hdef : defaultsOf params X.env = ([], [])) (hbind : ∀ (q : Str) (cl : List (Str × Addr)) (pm cv ctv v : Value), bindArgs (PySem.W.kla_fn "<lambda>" q params (.Subscript (.Subscript (.Name x p1) (.Name n p2) p3) (.Constant (.int c) kd p4) p5) scope cl pm cv ctv) ⟨[v], []⟩ = pure [(n, v)])
    (hN : X.N[i0]? = some x) (hxf : scope.names.lookup x = some .free) (hlo : -(2 ^ 63) ≤ c) (hhi : c < 2 ^ 63)
    (hd1 : (x == ("__debug__" : Str)) = false := by decide) (hd2 : (n == ("__debug__" : Str)) = false := by decide) (hcd : (x == ("__classdict__" : Str)) = false := by decide)
    (he : backTo pos (starEach [e] X.env) = (false, eval e X.env) :: backTo pos (starEach [] X.env) := by rfl) (hpl : (backTo pos (starEach [e] X.env)).any (·.1) = false := by rfl) :
    PE X (.Call (.Name "sorted" p) [e] [⟨some "key", .Lambda params (.Subscript (.Subscript (.Name x p1) (.Name n p2) p3) (.Constant (.int c) kd p4) p5) scope lpos, kpos⟩] pos) (tSortK X.K T i0 c ta) := by
  refine ⟨fun pins s σ H Q I h => ?_⟩
  refine wpAny_Call_Name_kw (ld_blt I hg hm rfl ?_ (by decide) (by decide))
  refine PyProof.Rows.callWith_kw (thn (ha.run pos pins s σ H _ I h) fun us s1 ⟨vs, H1, I1, r1, hT, q1⟩ => ?_) he hpl rfl rfl
  show wpAny _ _ (evalAll ((do let v ← eval (.Lambda params _ scope lpos) X.env; standAt pos; pure v) :: (backToKw pos (keywordEach [] X.env)).map (·.2))) _ _ s1
  refine wpAny_evalAll_cons (wpAny_bind (lam_make2 I1 TB hcode hmT hu hT hdef (L.has I.ok) fun f c' pm ctv H2 s2 I2 eN T2 hf hfn hfr hco => wpAny_bind (wpAny_standAt (wpAny_pure (wpAny_evalAll_nil ?_)))))
  obtain ⟨a, la, ns, ls, kz, rfl, hsa, hi0, hsl, hkey, q⟩ := q1 H2 eN T2 (sz_of I2.hok)
  obtain rfl := Vals.ref1 r1
  show wpAny _ _ (call (.builtin "sorted") [.ref a] [(Str.ofString "key", .ref f)]) _ _ _
  obtain ⟨its, rv, hl, hz⟩ := I2.list hsa
  obtain ⟨its2, rv2, hl2, hz2⟩ := I2.list hsl
  have hev := each_ints rv
  refine PySem.W.sorted_key_data (R := fun (v : Value) (n : Int) => ∃ t, v = .int n t) (b := false) (fun n => .int (kz n)) hl.isList hev (PySem.W.AllAlike.of fun _ _ => rfl) (PySem.W.Sortable.others fun _ => ⟨fun z => (nomatch z), fun _ z => (nomatch z)⟩) (by rw [List.length_map] at hz; exact hz) (fun n _ => ?_) (PyProof.Rows.ksk_s1 _ _) (fun _ => PyProof.Rows.ksk_l1 _ _) (fun _ => PyProof.Rows.ksk_t1 _ _) (fun v n hv hn h tk kp => ?_) fun out ec h' tk kp hnone hD hlen hout => ?_
  · show X.A.units + 2 + 0 < cLine
    have := hr.units
    omega
  · obtain ⟨t, rfl⟩ := hv
    obtain ⟨h0, tp, xs, e1, e2, e3⟩ := hkey n hn
    have J : Inv X pins σ H2 { s2 with heap := h, toks := tk } := I2.kept kp
    obtain ⟨its3, rv3, hl3, hz3⟩ := J.list hsl
    obtain ⟨w3, ew3, rw3⟩ := rv3.get e1
    obtain rfl : w3 = Value.ref tp := rw3
    obtain ⟨its4, r4, pl4, hz4⟩ := J.tuple e2
    obtain ⟨j, g1, g2, g3, g4, g5⟩ := L2.atI_get e3
    obtain ⟨w4, ew4, rw4⟩ := r4.get g2
    obtain ⟨t4, rfl⟩ := rw4
    obtain ⟨m, hnn, hll⟩ := J.loc
    have hfree := L.free _ (PySem.mem_of_lookup hxf) rfl
    obtain ⟨w5, rw5, q5⟩ := hll i0 x (.ref la) hN hi0 (hfree.elim (fun k => .inr (.inl k)) (fun k => .inr (.inr k)))
    obtain rfl : w5 = Value.ref la := rw5
    obtain ⟨cx, hcx, hcell⟩ : ∃ cx, X.env.cells.lookup x = some cx ∧ h.IsCell cx (some (.ref la)) := by
      rcases q5 with ⟨k', _⟩ | ⟨_, c3, e', z⟩
      · have k' : X.env.scope.names.lookup x = some .local := k'
        rcases hfree with k2 | k2 <;> rw [show X.env.scope.names.lookup x = _ from k2] at k' <;> cases k'
      · exact ⟨c3, e', z⟩
    have hclo : (cloFrom X.env.cells scope.names []).lookup x = some cx := by
      obtain ⟨c2, h2⟩ : ∃ c, (cloFrom X.env.cells scope.names []).lookup x = some c := mem_lookup (cloFrom_has (cells := X.env.cells) (acc := []) (PySem.mem_of_lookup hxf))
      rcases cloFrom_mem (PySem.mem_of_lookup h2) with hm' | ⟨h3, h4⟩
      · cases hm'
      · have hcx' : X.env.cells.lookup x = some cx := hcx
        have e2 : c2 = cx := by
          rw [h4, hcx'] <;> rfl
        rw [← e2]
        exact h2
    obtain ⟨⟨oc, vs', t', hoc, hdc, hvc⟩, _, _⟩ := J.hok c' _ hco
    have hlt : n.toNat < ls.length := (List.getElem?_eq_some_iff.mp e1).1
    have h63 := line63
    have hl4 := r4.length
    exact key_call (A := X.A.in1.in1) (s := { s2 with heap := h, toks := tk }) hr.depth L (kp _ _ hf) ⟨c', oc, vs', t', rfl, hoc, hdc, hvc⟩ (fun v => hbind _ _ _ _ _ v) hxf hclo hcell J.nolimit hl3.isList h0 (by omega) (by simpa using ew3) pl4 hlo hhi (by rw [List.size_toArray, ← hl4]; exact g1) (by simpa using ew4) hd1 hd2 hcd
  · have hv := ints_each hout
    have hl' : ((ns.mergeSort (PySem.W.dataLe false fun n => .int (kz n))).map V.int).length ≤ sizeLine := by
      rw [List.length_map, List.length_mergeSort]
      rw [List.length_map] at hz
      exact hz
    exact ⟨.ref _, upd H2 (s2.heap.objs.size + 1) (.lst ((ns.mergeSort (PySem.W.dataLe false fun n => .int (kz n))).map V.int)), I2.laid (t' := tk) kp (Nat.le_succ _) ⟨hl', _, ec, hv, hD⟩, rfl, q _ (I2.hok.fresh (Nat.le_succ _))⟩
end
end DL

namespace DL
open PySem PySem.Spec L2 LamX
/-! ### at the level of data -/
def keyO (ds : List D) (c n : Int) : Option Int := if 0 ≤ n then match ds[n.toNat]? with
    | some (.tuple xs) => (match L2.atI xs c with
      | some (.int k) => some k
      | _ => none)
    | _ => none
  else none
def sortK : D → Int → D → Option (List D)
  | .list ds, c, .list es => (ints? es).bind fun ns => if (ns.all fun n => (keyO ds c n).isSome) = true then some ((ns.mergeSort (PySem.W.dataLe false fun n => .int ((keyO ds c n).getD 0))).map PyData.int) else none
  | _, _, _ => none
@[simp] def sortKF (i0 : Nat) (c : Int) (f : En → M D) : En → M (List D) := fun ε => bnd (f ε) fun d => match ε[i0]? with
  | some (.dat dl) => opt (sortK dl c d)
  | _ => stuck
theorem keyO_some {ds : List D} {c n k : Int} (h : keyO ds c n = some k) : 0 ≤ n ∧ ∃ xs, ds[n.toNat]? = some (.tuple xs) ∧ L2.atI xs c = some (.int k) := by
  unfold keyO at h
  split at h
  · rename_i h0
    refine ⟨h0, ?_⟩
    split at h
    · rename_i xs e
      refine ⟨xs, e, ?_⟩
      split at h
      · rename_i k' e'
        cases h
        exact e'
      · cases h
    · cases h
  · cases h
section
variable {X : Cx} {P : Pm}
theorem d_sortK {C Pt : Addr} {i0 : Nat} {x n : Str} {e : Expr} {f : En → M D} {c : Int} {kd : Nat} {k : Nat} {params : Arguments} {scope : Scope} {p p1 p2 p3 p4 p5 lpos kpos pos : Pos}
    (hm : X.mg "sorted" = none) (he : PE X e (tP P f)) (TB : TabB X.base X.mg C Pt) (hcode : X.env.code = .ref C) (hmT : (Pt, X.env.qual ++ "<lambda>") ∈ P.b.T) (hu : ∀ p ∈ P.b.T, p.1 = Pt → p.2 = X.env.qual ++ "<lambda>") (hr : Room (k + 1) X.A)
    (L : LamK X.env.scope scope n) (hN : X.N[i0]? = some x) (hxf : scope.names.lookup x = some .free) (hg : Gl X "sorted" := by rfl) (hK : P.b.K = X.K := by rfl) (hdef : defaultsOf params X.env = ([], []) := by rfl)
    (hbind : ∀ (q : Str) (cl : List (Str × Addr)) (pm cv ctv v : Value), bindArgs (PySem.W.kla_fn "<lambda>" q params (.Subscript (.Subscript (.Name x p1) (.Name n p2) p3) (.Constant (.int c) kd p4) p5) scope cl pm cv ctv) ⟨[v], []⟩ = pure [(n, v)] := by intros; rfl)
    (hlo : -(2 ^ 63) ≤ c := by decide) (hhi : c < 2 ^ 63 := by decide)
    (hd1 : (x == ("__debug__" : Str)) = false := by decide) (hd2 : (n == ("__debug__" : Str)) = false := by decide) (hcd : (x == ("__classdict__" : Str)) = false := by decide)
    (hst : starEach [e] X.env = (false, eval e X.env) :: starEach [] X.env := by rfl) (hb : backTo pos (starEach [e] X.env) = (false, eval e X.env) :: backTo pos (starEach [] X.env) := by rfl) (hpl : (backTo pos (starEach [e] X.env)).any (·.1) = false := by rfl) :
    PE X (.Call (.Name "sorted" p) [e] [⟨some "key", .Lambda params (.Subscript (.Subscript (.Name x p1) (.Name n p2) p3) (.Constant (.int c) kd p4) p5) scope lpos, kpos⟩] pos) (tN P (sortKF i0 c f)) :=
  (pe_sortKey hg hm (pa_cons he pa_nil hst) TB hcode hmT hu hr L hdef hbind hN hxf hlo hhi hd1 hd2 hcd hb hpl).wk fun σ H Q ⟨O, ε, ok, w⟩ => ⟨O, ε, ok, by
    unfold sortKF at w
    cases hf : f ε with
    | er x => rw [hf] at w; exact w
    | ok d =>
      rw [hf, bnd_ok] at w
      intro v H1 e1 hv
      refine ⟨(ok.more e1).tabs, fun H2 k2 t2 z2 => ?_⟩
      cases hi : ε[i0]? with
      | none => rw [hi] at w; exact False.elim w
      | some s =>
        rw [hi] at w
        cases s with
        | dat dl =>
          dsimp only at w
          cases hz : sortK dl c d with
          | none => rw [hz] at w; exact False.elim w
          | some z =>
            rw [hz] at w
            have e2 : Ext P.b.T H1 H2 := ⟨k2, fun _ => t2, fun _ => z2⟩
            have ok2 := ok.more (e1.trans e2)
            unfold sortK at hz
            split at hz
            · rename_i ds es
              cases hns : ints? es with
              | none => rw [hns] at hz; cases hz
              | some ns =>
                rw [hns, Option.bind_some] at hz
                split at hz
                · rename_i hall
                  cases hz
                  obtain ⟨a, vs, rfl, hr1, hd⟩ := hv.lst
                  rw [ints?_eq hns] at hd
                  have hvs := hd.ints
                  subst hvs
                  obtain ⟨ov, h1, h2⟩ := slotAt ok2 hi
                  obtain ⟨lv, rfl, hlv⟩ := h2
                  obtain ⟨la, ls, rfl, hr2, hd2⟩ := RS.lst (B := P.b) (O := O) (.inl hlv)
                  have hsz := sz_rd (ok.more e1) hr1
                  rw [List.length_map] at hsz
                  refine ⟨a, la, ns, ls, fun n => (keyO ds c n).getD 0, rfl, .inl (rd_kept k2 hr1), h1, .inl hr2, fun n hn => ?_, fun p hp => ?_⟩
                  · have h3 := List.all_eq_true.mp hall n hn
                    obtain ⟨kv, h4⟩ := Option.isSome_iff_exists.mp h3
                    obtain ⟨h0, xs, h5, h6⟩ := keyO_some h4
                    obtain ⟨tv, h7, h8⟩ := hd2.get h5
                    obtain ⟨tp, ts, rfl, h9, h10⟩ := RS.tup (B := P.b) (O := O) (.inl h8)
                    obtain ⟨iv, h11, h12⟩ := DL.atI_get h10 h6
                    cases h12
                    rw [hK] at h9
                    refine ⟨h0, tp, ts, h7, h9, ?_⟩
                    have e3 : (keyO ds c n).getD 0 = kv := by rw [h4]; rfl
                    show L2.atI ts c = some (V.int ((keyO ds c n).getD 0))
                    rw [e3]
                    exact h11
                  · exact new_lst (B := P.b) ok2.hid (RpAll.ofInts _) (by rw [List.length_map, List.length_mergeSort]; exact hsz) (fun a vs H' e n h r => w a vs H' ((e1.trans e2).trans e) (n.back (e1.trans e2).kept) h r) hp
                · cases hz
            · cases hz
        | _ => exact False.elim w⟩
end
end DL

namespace DL
open PySem PySem.Spec L2 LamX
section
variable {X : Cx} {P : Pm}
/-- list(range(e)) -/
theorem d_listR1 {e : Expr} {f : En → M D} {p p2 pos pos2 : Pos} (hc : X.calm = true) (hmL : X.mg "list" = none) (hmR : X.mg "range" = none) (he : PE X e (tQ P f)) (hgL : Gl X "list" := by rfl) (hgR : Gl X "range" := by rfl)
    (na : starEach [e] X.env = (false, eval e X.env) :: starEach [] X.env := by rfl) (na2 : starEach [.Call (.Name "range" p2) [e] [] pos2] X.env = (false, eval (.Call (.Name "range" p2) [e] [] pos2) X.env) :: starEach [] X.env := by rfl) :
    PE X (.Call (.Name "list" p) [.Call (.Name "range" p2) [e] [] pos2] [] pos) (tN P (f1N sR1 f)) :=
  (pe_listRg hc hgL hmL (prg_1 hgR hmR he na) na2).wk fun σ H Q ⟨O, ε, ok, w⟩ => ⟨O, ε, ok, by
    unfold f1N at w
    cases hf : f ε with
    | er x => rw [hf] at w; exact w
    | ok d =>
      rw [hf, bnd_ok] at w
      intro v H1 e1 hv
      cases hz : sR1 d with
      | none => rw [hz] at w; exact False.elim w
      | some z =>
        rw [hz] at w
        unfold sR1 at hz
        split at hz
        · rename_i n
          split at hz
          · rename_i hb
            cases hz
            cases hv
            have ok1 := ok.more e1
            refine ⟨n, rfl, ⟨by omega, by omega, by omega, by omega, by omega⟩, fun q hq => ?_⟩
            have er : rgV 0 n = ((List.range (n - 0).toNat).map fun i => (0 : Int) + (i : Nat)).map V.int := by
              unfold rgV
              rw [List.map_map]
              rfl
            have ed : rng 0 n = ((List.range (n - 0).toNat).map fun i => (0 : Int) + (i : Nat)).map PyData.int := by
              unfold rng
              rw [List.map_map]
              rfl
            have h16 := sizeLine_eq
            rw [er]
            refine new_lst (B := P.b) (ds := rng 0 n) ok1.hid (by rw [ed]; exact RpAll.ofInts _) (by rw [List.length_map, List.length_map, List.length_range]; omega) (fun a vs H' e n h r => w a vs H' (e1.trans e) (n.back e1.kept) h r) hq
          · cases hz
        · cases hz⟩
end
end DL

namespace DL
open PySem L2
theorem dataLe_int {β : Type} (f : β → Int) (x y : β) : PySem.W.dataLe false (fun n => .int (f n)) x y = decide (f x ≤ f y) := by
  show (!(decide (f y < f x) || (!decide (f x < f y) && false))) = decide (f x ≤ f y)
  rw [Bool.and_false, Bool.or_false, Bool.eq_iff_iff]
  simp
theorem dataLe_eq (f : Int → Int) : PySem.W.dataLe false (fun n => PyData.int (f n)) = fun x y => decide (f x ≤ f y) := by
  funext x y
  exact dataLe_int f x y
end DL

/-! ## max and min of a list of data that are alike -/
namespace DL
open PySem PySem.Spec PySem.W L2
theorem vals_get' : ∀ {xs : List V} {us : List Value} {i : Nat} {u : Value}, Vals xs us → us[i]? = some u → ∃ x, xs[i]? = some x ∧ RelV x u := fun {xs us i u} r e => by
  have hi : i < xs.length := by
    rw [r.length]
    exact (List.getElem?_eq_some_iff.mp e).1
  obtain ⟨u', e', q⟩ := r.get (List.getElem?_eq_getElem hi)
  rw [e] at e'
  cases e'
  exact ⟨_, List.getElem?_eq_getElem hi, q⟩
def rMaxA (K : PySem.W.Frag) : List V → Hp → VK → Prop := fun vs H Q => ∃ (a : Addr) (ys : List V) (x : D) (xs : List D), vs = [V.ref a] ∧ SqL K H a ys ∧ DpAll K H ys (x :: xs) ∧ AlikeAll (x :: xs) ∧ PyData.depthAll (x :: xs) ≤ 60 ∧
  ∀ (i : Nat) (v : V), ys[i]? = some v → (x :: xs)[i]? = some (maxD x xs) → Q v H
def rMinA (K : PySem.W.Frag) : List V → Hp → VK → Prop := fun vs H Q => ∃ (a : Addr) (ys : List V) (x : D) (xs : List D), vs = [V.ref a] ∧ SqL K H a ys ∧ DpAll K H ys (x :: xs) ∧ AlikeAll (x :: xs) ∧ PyData.depthAll (x :: xs) ≤ 60 ∧
  ∀ (i : Nat) (v : V), ys[i]? = some v → (x :: xs)[i]? = some (minD x xs) → Q v H
theorem cr_maxA {X : Cx} (hc : X.calm = true) (hu : X.A.units + 65 < cLine) : CallR X (.builtin "max") (rMaxA X.K) := by
  intro pins s σ H vs us Q I r h
  obtain ⟨a, ys, x, xs, rfl, hs, hd, hal, hdp, q⟩ := h
  obtain ⟨its, rv, hl, _⟩ := I.list hs
  rw [Vals.ref1 r]
  obtain ⟨as, hr⟩ := Dp.readsAll I (x :: xs) ys its hd rv
  refine max_list_data (I.ok.hd hc) hl.isList (by simpa using hr) hal (by omega) fun i v h' tk bs hv hrd hk => ?_
  have hv' : its[i]? = some v := by simpa using hv
  obtain ⟨y, e1, e2⟩ := vals_get' rv hv'
  obtain ⟨cs, g1, g2, _, _⟩ := readsAll_at hr i v hv'
  have e := (PyProof.Rows.reads_det (fun b o e _ => hk b o e) g1 hrd).1
  refine ⟨y, H, I.kept hk, e2, q i y e1 ?_⟩
  rw [e, List.getD_eq_getElem?_getD, List.getElem?_eq_getElem g2]
  rfl
theorem cr_minA {X : Cx} (hc : X.calm = true) (hu : X.A.units + 65 < cLine) : CallR X (.builtin "min") (rMinA X.K) := by
  intro pins s σ H vs us Q I r h
  obtain ⟨a, ys, x, xs, rfl, hs, hd, hal, hdp, q⟩ := h
  obtain ⟨its, rv, hl, _⟩ := I.list hs
  rw [Vals.ref1 r]
  obtain ⟨as, hr⟩ := Dp.readsAll I (x :: xs) ys its hd rv
  refine min_list_data (I.ok.hd hc) hl.isList (by simpa using hr) hal (by omega) fun i v h' tk bs hv hrd hk => ?_
  have hv' : its[i]? = some v := by simpa using hv
  obtain ⟨y, e1, e2⟩ := vals_get' rv hv'
  obtain ⟨cs, g1, g2, _, _⟩ := readsAll_at hr i v hv'
  have e := (PyProof.Rows.reads_det (fun b o e _ => hk b o e) g1 hrd).1
  refine ⟨y, H, I.kept hk, e2, q i y e1 ?_⟩
  rw [e, List.getD_eq_getElem?_getD, List.getElem?_eq_getElem g2]
  rfl
/-- of one kind, and comparable -/
def alikeB (ds : List D) : Bool := ds.all (fun x => ds.all fun y => alike x y) && ds.all fun x => !isNone x
theorem alikeB_iff {ds : List D} (h : alikeB ds = true) : AlikeAll ds := by
  unfold alikeB at h
  simp only [Bool.and_eq_true, List.all_eq_true] at h
  refine ⟨h.1, fun x hx e => ?_⟩
  have := h.2 x hx
  rw [e] at this
  cases this
def sMaxA : D → Option D
  | .list (x :: xs) => if alikeB (x :: xs) = true ∧ PyData.depthAll (x :: xs) ≤ 60 then some (maxD x xs) else none
  | _ => none
def sMinA : D → Option D
  | .list (x :: xs) => if alikeB (x :: xs) = true ∧ PyData.depthAll (x :: xs) ≤ 60 then some (minD x xs) else none
  | _ => none
theorem rs_dpAll {B : Bs} {O : Addr → Prop} {H : Hp} {vs : List V} {ds : List D} (h : RpAll B.K (hide O H) vs ds) : DpAll B.K H vs ds := RpAll.dp ds vs (RpAll_mono kept_hide0 _ _ h)
theorem sm_maxA {B : Bs} : SemCS B (rMaxA B.K) sMaxA := fun O H σ ε v d z Q ok hv hz k => by
  unfold sMaxA at hz
  split at hz
  · rename_i x xs
    split at hz
    · rename_i hc
      cases hz
      obtain ⟨a, vs, rfl, hr, hd⟩ := hv.lst
      refine ⟨a, vs, x, xs, rfl, .inl hr, rs_dpAll hd, alikeB_iff hc.1, hc.2, fun i v e1 e2 => ?_⟩
      obtain ⟨w, e3, e4⟩ := hd.get e2
      rw [e1] at e3
      cases e3
      exact k v H (Ext.refl _ _) e4
    · cases hz
  · cases hz
theorem sm_minA {B : Bs} : SemCS B (rMinA B.K) sMinA := fun O H σ ε v d z Q ok hv hz k => by
  unfold sMinA at hz
  split at hz
  · rename_i x xs
    split at hz
    · rename_i hc
      cases hz
      obtain ⟨a, vs, rfl, hr, hd⟩ := hv.lst
      refine ⟨a, vs, x, xs, rfl, .inl hr, rs_dpAll hd, alikeB_iff hc.1, hc.2, fun i v e1 e2 => ?_⟩
      obtain ⟨w, e3, e4⟩ := hd.get e2
      rw [e1] at e3
      cases e3
      exact k v H (Ext.refl _ _) e4
    · cases hz
  · cases hz
section
variable {X : Cx} {P : Pm} {a : Expr} {f : En → M D} {r : List V → Hp → VK → Prop} {x : Str} {id : String} {p pos : Pos}
theorem d_callBS {sem : D → Option D} (hc : CallR X (.builtin id) r) (hs : SemCS P.b r sem) (hm : X.mg x = none) (hv : bootBuiltins x = some (.builtin id)) (ha : PE X a (tP P f)) (hg : Gl X x := by rfl) (hn : x ≠ "__name__" := by decide) (hdb : (x == ("__debug__" : Str)) = false := by decide)
    (hst : starEach [a] X.env = (false, eval a X.env) :: starEach [] X.env := by rfl) : PE X (.Call (.Name x p) [a] [] pos) (tS P (f1 sem f)) :=
  (pe_callB hc hg hm hv (pa_cons ha pa_nil hst) hn hdb (he := hst)).wk fun σ H Q h => seqCS (t := tP P f) (fun _ z => z) hs h
end
/-! ### of ints, and of pairs of ints -/
theorem alikeB_ints (ns : List Int) : alikeB (ns.map PyData.int) = true := by
  unfold alikeB
  simp [alike, isNone]
theorem depth_ints (ns : List Int) : PyData.depthAll (ns.map PyData.int) = 0 := by
  induction ns with
  | nil => rfl
  | cons n r ih => simp only [List.map_cons, PyData.depthAll, PyData.depth, ih]; rfl
theorem sMaxA_ints (n : Int) (ns : List Int) : sMaxA (.list ((n :: ns).map PyData.int)) = some (.int (ns.foldl max n)) := by
  show (if alikeB ((n :: ns).map PyData.int) = true ∧ PyData.depthAll ((n :: ns).map PyData.int) ≤ 60 then some (maxD (.int n) (ns.map PyData.int)) else none) = _
  rw [if_pos ⟨alikeB_ints _, by rw [depth_ints]; omega⟩, maxD_ints]
theorem sMinA_ints (n : Int) (ns : List Int) : sMinA (.list ((n :: ns).map PyData.int)) = some (.int (ns.foldl min n)) := by
  show (if alikeB ((n :: ns).map PyData.int) = true ∧ PyData.depthAll ((n :: ns).map PyData.int) ≤ 60 then some (minD (.int n) (ns.map PyData.int)) else none) = _
  rw [if_pos ⟨alikeB_ints _, by rw [depth_ints]; omega⟩, minD_ints]
def eP (p : Int × Int) : D := .tuple [.int p.1, .int p.2]
def ltP (p q : Int × Int) : Bool := decide (p.1 < q.1) || (decide (p.1 = q.1) && decide (p.2 < q.2))
def mxP (p : Int × Int) (ps : List (Int × Int)) : Int × Int := ps.foldl (fun a y => if ltP a y then y else a) p
theorem alikeB_pairs (ps : List (Int × Int)) : alikeB (ps.map eP) = true := by
  unfold alikeB
  simp [alike, alikeAll, isNone, eP]
theorem depth_pairs (ps : List (Int × Int)) : PyData.depthAll (ps.map eP) ≤ 1 := by
  induction ps with
  | nil => exact Nat.zero_le _
  | cons n r ih => simp only [List.map_cons, PyData.depthAll, eP, PyData.depth] at ih ⊢; omega
theorem dataLt_eP (p q : Int × Int) : dataLt (eP p) (eP q) = ltP p q := by
  unfold eP ltP
  rw [dataLt_ii, Bool.eq_iff_iff]
  simp
theorem maxD_pairs (p : Int × Int) : ∀ ps : List (Int × Int), maxD (eP p) (ps.map eP) = eP (mxP p ps) := by
  intro ps
  unfold maxD mxP
  induction ps generalizing p with
  | nil => rfl
  | cons q r ih =>
    rw [List.map_cons, List.foldl_cons, List.foldl_cons, ← ih, dataLt_eP]
    by_cases h : ltP p q = true
    · rw [if_pos h, if_pos h]
    · rw [if_neg h, if_neg h]
theorem sMaxA_pairs (p : Int × Int) (ps : List (Int × Int)) : sMaxA (.list ((p :: ps).map eP)) = some (eP (mxP p ps)) := by
  show (if alikeB ((p :: ps).map eP) = true ∧ PyData.depthAll ((p :: ps).map eP) ≤ 60 then some (maxD (eP p) (ps.map eP)) else none) = _
  rw [if_pos ⟨alikeB_pairs _, Nat.le_trans (depth_pairs _) (by omega)⟩, maxD_pairs]
theorem mxP_spec : ∀ (ps : List (Int × Int)) (p : Int × Int), (mxP p ps ∈ p :: ps) ∧ ∀ q ∈ p :: ps, ltP (mxP p ps) q = false
  | [], p => ⟨List.mem_cons_self, fun q hq => by
      rcases List.mem_cons.mp hq with rfl | hq
      · simp [mxP, ltP]
      · cases hq⟩
  | q :: ps, p => by
    have e : mxP p (q :: ps) = mxP (if ltP p q then q else p) ps := rfl
    obtain ⟨h1, h2⟩ := mxP_spec ps (if ltP p q then q else p)
    rw [e]
    refine ⟨?_, fun r hr => ?_⟩
    · rcases List.mem_cons.mp h1 with h | h
      · rw [h]
        split <;> simp
      · simp [h]
    · have h0 := h2 _ List.mem_cons_self
      rcases List.mem_cons.mp hr with rfl | hr
      · revert h0
        split
        · rename_i hl
          intro h0
          simp [ltP] at hl h0 ⊢
          omega
        · exact id
      · rcases List.mem_cons.mp hr with rfl | hr
        · revert h0
          split
          · exact id
          · rename_i hl
            intro h0
            simp [ltP] at hl h0 ⊢
            omega
        · exact h2 r (List.mem_cons_of_mem _ hr)
end DL

namespace DL
open PySem PySem.Spec L2
/-! ## -e of an int -/
def sNeg : D → Option D
  | .int i => some (.int (-i))
  | _ => none
@[simp] theorem sNeg_int (i : Int) : sNeg (.int i) = some (.int (-i)) := rfl
theorem d_neg {X : Cx} {P : Pm} {a : Expr} {f : En → M D} {pos : Pos} (ha : PE X a (tQ P f)) : PE X (.UnaryOp .USub a pos) (tS P (f1 sNeg f)) :=
  (pe_un un_neg ha).wk fun σ H Q w => seq1 (k := fun x H => rU (fun i => .int (-i)) x H Q) (fun x d z H' hx hz k => by
    cases d with
    | int i => cases hx; cases hz; exact ⟨i, rfl, k _ fun _ => .int _⟩
    | _ => cases hz) w
end DL

namespace DL
open PySem PySem.Spec L2
/-! ## x.append(y.pop(e)), x and y lists of one's own -/
def popAt (es : List D) (k : D) : Option (D × List D) := match k with
  | .int i => (ixN es.length i).bind fun n => es[n]?.map fun d => (d, es.eraseIdx n)
  | _ => none
@[simp] def appPopD (i j : Nat) (g : En → M D) : En → M Fl := fun ε => if i = j then stuck else match ε[i]? with
  | some (.lst ds) => match ε[j]? with
    | some (.lst es) => bnd (g ε) fun k => bnd (opt (popAt es k)) fun p => if ds.length < 1000000 then .ok (.nx ((ε.set j (.lst p.2)).set i (.lst (ds ++ [p.1])))) else stuck
    | _ => stuck
  | _ => stuck
theorem RpAll.erase {K : PySem.W.Frag} {H : Hp} {vs : List V} {ds : List D} (h : RpAll K H vs ds) (i : Nat) : RpAll K H (vs.eraseIdx i) (ds.eraseIdx i) := by
  induction ds generalizing vs i with
  | nil => cases h; simpa using RpAll.nil
  | cons x ds ih =>
    cases h with
    | cons h1 h2 =>
      cases i with
      | zero => simpa using h2
      | succ i => simpa using RpAll.cons h1 (ih h2 i)
section
variable {X : Cx} {P : Pm} {e o o2 : Expr} {g : En → M D} {pos apos cpos apos2 cpos2 : Pos}
theorem s_appPop {i j : Nat} (ho : PE X o (tVar i)) (ho2 : PE X o2 (tVar j)) (he : PE X e (tQ P g))
    (hbase : attributeBase o "append" X.env (eval o X.env) = eval o X.env := by rfl) (hst : starEach (.Call (.Attribute o2 "pop" apos2) [e] [] cpos2 :: []) X.env = (false, eval (.Call (.Attribute o2 "pop" apos2) [e] [] cpos2) X.env) :: starEach [] X.env := by rfl)
    (hfew : (((backTo cpos (starEach [.Call (.Attribute o2 "pop" apos2) [e] [] cpos2] X.env)).all fun x => !x.1) && ((backToKw cpos (keywordEach [] X.env)).all fun x => x.1.isSome) && decide ([Expr.Call (.Attribute o2 "pop" apos2) [e] [] cpos2].length + ([] : List Keyword).length + (if ([] : List Keyword).isEmpty then 0 else 1) < 30)) = true := by rfl)
    (hline : (apos.endLine == cpos.line) = true := by rfl)
    (hbase2 : attributeBase o2 "pop" X.env (eval o2 X.env) = eval o2 X.env := by rfl) (hst2 : starEach (e :: []) X.env = (false, eval e X.env) :: starEach [] X.env := by rfl)
    (hfew2 : (((backTo cpos2 (starEach [e] X.env)).all fun x => !x.1) && ((backToKw cpos2 (keywordEach [] X.env)).all fun x => x.1.isSome) && decide ([e].length + ([] : List Keyword).length + (if ([] : List Keyword).isEmpty then 0 else 1) < 30)) = true := by rfl)
    (hline2 : (apos2.endLine == cpos2.line) = true := by rfl)
    (hs : swapsWith (.Call (.Attribute o "append" apos) [.Call (.Attribute o2 "pop" apos2) [e] [] cpos2] [] cpos) none pos.line X.env = pure false := by rfl) :
    PS X (.Expr (.Call (.Attribute o "append" apos) [.Call (.Attribute o2 "pop" apos2) [e] [] cpos2] [] cpos) pos) (tD P (appPopD i j g)) :=
  (ps_expr (pe_bm PySem.F.plainAttrs_list PySem.F.slot_list_append PySem.F.type_list_append mt_append ho (pa_cons (pe_bm PySem.F.plainAttrs_list PySem.F.slot_list_pop PySem.F.type_list_pop mt_popAt ho2 (pa_cons he pa_nil hst2) hbase2 hfew2 hline2 hst2) pa_nil hst) hbase hfew hline hst) hs).wk fun Dn σ H w => by
    obtain ⟨O, ε, ok, w⟩ := tD_iff.mp w
    unfold appPopD at w
    split at w
    · exact False.elim w
    rename_i hij
    cases hi : ε[i]? with
    | none => rw [hi] at w; exact False.elim w
    | some s =>
      rw [hi] at w
      cases s with
      | lst ds =>
        dsimp only at w
        cases hj : ε[j]? with
        | none => rw [hj] at w; exact False.elim w
        | some t =>
          rw [hj] at w
          cases t with
          | lst es =>
            dsimp only at w
            obtain ⟨ov, h1, h2⟩ := slotAt ok hi
            obtain ⟨a, vs, rfl, hO, h0, hn, hH, hd⟩ := h2
            obtain ⟨ou, k1, k2⟩ := slotAt ok hj
            obtain ⟨b, us, rfl, hOb, h0b, hnb, hHb, hdb⟩ := k2
            have hab : a ≠ b := fun z => ok.sep i j _ _ (.ref a) hij hi hj rfl rfl h1 (by rw [z]; exact k1)
            refine ⟨.ref a, h1, .inl ⟨rfl, _, SqL.of hH⟩, .ref b, k1, .inl ⟨rfl, _, SqL.of hHb⟩, O, ε, ok, ?_⟩
            cases hg : g ε with
            | er x => rw [hg] at w; exact w
            | ok k =>
              rw [hg, bnd_ok] at w
              intro v H1 e1 hv
              cases hp : popAt es k with
              | none => rw [hp] at w; exact False.elim w
              | some p =>
                rw [hp, opt_some, bnd_ok] at w
                split at w
                · rename_i hlen
                  unfold popAt at hp
                  split at hp
                  · rename_i m
                    cases hv
                    cases hx : ixN es.length m with
                    | none => rw [hx] at hp; cases hp
                    | some n =>
                      rw [hx, Option.bind_some, Option.map_eq_some_iff] at hp
                      obtain ⟨d, hd1, rfl⟩ := hp
                      have hsz := sizeLine_eq
                      have ok1 := ok.more e1
                      have hHb1 : H1 b = some (.lst us) := e1.kept b _ hHb (fun _ z => by cases z)
                      have hH1 : H1 a = some (.lst vs) := e1.kept a _ hH (fun _ z => by cases z)
                      have hdb1 := RpAll_mono e1.kept.hide _ _ hdb
                      have hd1' := RpAll_mono e1.kept.hide _ _ hd
                      obtain ⟨y, hy, hyd⟩ := hdb1.get hd1
                      have hul : us.length = es.length := hdb.len
                      have husz : us.length ≤ sizeLine := ok1.size b us (.inl hHb1)
                      obtain ⟨q1, q2, q3, q4⟩ := ixN_seq hx
                      have kw : Kept (hide O H1) (hide O (upd H1 b (.lst (us.eraseIdx n)))) := kept_write hOb
                      obtain ⟨ok2, k2⟩ := ok1.writeOwn (s' := .lst (es.eraseIdx n)) (o' := .lst (us.eraseIdx n)) hj rfl k1 hOb hnb hHb1 (fun _ z => by cases z) (fun _ z => by cases z)
                        (fun xs h => by
                          rcases h with h | ⟨u, h⟩
                          · cases h
                            exact Nat.le_trans (List.length_eraseIdx_le us n) husz
                          · cases h) lst_code ⟨b, us.eraseIdx n, rfl, hOb, h0b, hnb, upd_same, RpAll_mono kw _ _ (hdb1.erase n)⟩ rfl
                      have hi2 : (ε.set j (.lst (es.eraseIdx n)))[i]? = some (.lst ds) := by rw [List.getElem?_set_ne (fun z => hij z.symm)]; exact hi
                      have hH2 : upd H1 b (.lst (us.eraseIdx n)) a = some (.lst vs) := by rw [upd_ne hab]; exact hH1
                      have hd2 := RpAll_mono k2 _ _ hd1'
                      have hy2 := Rp_mono k2 _ _ hyd
                      have hl : vs.length = ds.length := hd.len
                      have kw2 : Kept (hide O (upd H1 b (.lst (us.eraseIdx n)))) (hide O (upd (upd H1 b (.lst (us.eraseIdx n))) a (.lst (vs ++ [y])))) := kept_write hO
                      obtain ⟨ok3, k3⟩ := ok2.writeOwn (s' := .lst (ds ++ [d])) (o' := .lst (vs ++ [y])) hi2 rfl h1 hO hn hH2 (fun _ z => by cases z) (fun _ z => by cases z)
                        (fun xs h => by
                          rcases h with h | ⟨u, h⟩
                          · cases h; rw [List.length_append, List.length_singleton]; omega
                          · cases h) lst_code ⟨a, vs ++ [y], rfl, hO, h0, hn, upd_same, RpAll_mono kw2 _ _ (hd2.append (.cons hy2 .nil))⟩ rfl
                      have h63 := line63
                      exact ⟨b, us, m, n, y, rfl, rfl, hHb1, by omega, by omega, by rw [hul]; exact q1, hy, a, vs, y, rfl, rfl, hH2, by omega, w σ _ O ok3 ((e1.kept.hide.trans k2).trans k3)⟩
                  · cases hp
                · exact False.elim w
          | _ => exact False.elim w
      | _ => exact False.elim w
end
end DL

namespace DL
open PySem PySem.Spec L2 LamX
section
variable {X : Cx} {P : Pm}
/-- list(range(a, b)) -/
theorem d_listR2 {ea eb : Expr} {f g : En → M D} {p p2 pos pos2 : Pos} (hc : X.calm = true) (hmL : X.mg "list" = none) (hmR : X.mg "range" = none) (ha : PE X ea (tQ P f)) (hb : PE X eb (tQ P g)) (hgL : Gl X "list" := by rfl) (hgR : Gl X "range" := by rfl)
    (na : starEach [ea, eb] X.env = (false, eval ea X.env) :: starEach [eb] X.env := by rfl) (nb : starEach [eb] X.env = (false, eval eb X.env) :: starEach [] X.env := by rfl) (hpl : (backTo pos2 (starEach [eb] X.env)).any (·.1) = false := by rfl)
    (na2 : starEach [.Call (.Name "range" p2) [ea, eb] [] pos2] X.env = (false, eval (.Call (.Name "range" p2) [ea, eb] [] pos2) X.env) :: starEach [] X.env := by rfl) :
    PE X (.Call (.Name "list" p) [.Call (.Name "range" p2) [ea, eb] [] pos2] [] pos) (tN P (f2N sR2 f g)) :=
  (pe_listRg hc hgL hmL (prg_2 hgR hmR ha hb na nb hpl) na2).wk fun σ H Q ⟨O, ε, ok, w⟩ => ⟨O, ε, ok, by
    unfold f2N at w
    cases hf : f ε with
    | er x => rw [hf] at w; exact w
    | ok d =>
      rw [hf, bnd_ok] at w
      intro v H1 e1 hv
      refine ⟨O, ε, ok.more e1, ?_⟩
      cases hg : g ε with
      | er x => rw [hg] at w; exact w
      | ok e =>
        rw [hg, bnd_ok] at w
        intro u H2 e2 hu
        cases hz : sR2 d e with
        | none => rw [hz] at w; exact False.elim w
        | some z =>
          rw [hz] at w
          unfold sR2 at hz
          split at hz
          · rename_i m n
            split at hz
            · rename_i hb
              cases hz
              cases hv
              cases hu
              have ok2 := ok.more (e1.trans e2)
              refine ⟨m, n, rfl, rfl, ⟨by omega, by omega, by omega, by omega, by omega⟩, fun q hq => ?_⟩
              have er : rgV m n = ((List.range (n - m).toNat).map fun i => m + (i : Nat)).map V.int := by
                unfold rgV
                rw [List.map_map]
                rfl
              have ed : rng m n = ((List.range (n - m).toNat).map fun i => m + (i : Nat)).map PyData.int := by
                unfold rng
                rw [List.map_map]
                rfl
              have h16 := sizeLine_eq
              rw [er]
              refine new_lst (B := P.b) (ds := rng m n) ok2.hid (by rw [ed]; exact RpAll.ofInts _) (by rw [List.length_map, List.length_map, List.length_range]; omega) (fun a vs H' e n h r => w a vs H' ((e1.trans e2).trans e) (n.back (e1.trans e2).kept) h r) hq
            · cases hz
          · cases hz⟩
end
end DL

namespace K30
open PySem L2 DL

def top (i : Nat) : Stmt := PySem.Challenge.pw_cordboard_k30_whole_hours.main.body.getD i (.Pass ⟨0, 0, 0, 0⟩)
abbrev s_is_count : Stmt := top 14
abbrev N_is_count : List Str := ["thing", "low", "high"]
abbrev s_is_call : Stmt := top 19
abbrev N_is_call : List Str := ["thing"]
abbrev s_need_calls : Stmt := top 20
abbrev N_need_calls : List Str := ["calls", "call"]
abbrev s_led : Stmt := top 21
abbrev N_led : List Str := ["calls", "cords", "found", "order", "held", "number", "one", "other", "begun", "size", "lines", "free", "row", "cord"]
abbrev s_carried : Stmt := top 22
abbrev N_carried : List Str := ["calls", "cords"]
abbrev s_fewest : Stmt := top 23
abbrev N_fewest : List Str := ["calls", "some", "cord"]
abbrev s_greatest : Stmt := top 24
abbrev N_greatest : List Str := ["calls", "told", "rows", "counts", "most", "call", "cord", "tick", "later", "begun", "over"]
abbrev s_law_cell : Stmt := top 26
abbrev N_law_cell : List Str := ["_law_script", "_law_k"]
abbrev s_law_drawn : Stmt := top 27
abbrev N_law_drawn : List Str := ["_law_cell_here", "_law_k", "_law_more"]
abbrev s_law_word : Stmt := top 28
abbrev N_law_word : List Str := ["_law_e", "_law_flags", "_law_words", "_law_flag"]
abbrev s_law_calls_of : Stmt := top 30
abbrev N_law_calls_of : List Str := ["_law_more", "_law_found", "_law_j", "_law_here", "_law_one", "_law_other", "_law_begun", "_law_size", "_law_call"]
abbrev s_law_carried : Stmt := top 31
abbrev N_law_carried : List Str := ["_law_calls", "_law_cords", "_law_told_here", "_law_begun", "_law_number", "_law_call", "_law_now", "_law_other", "_law_one", "_law_free", "_law_row", "_law_cord"]
abbrev s_law : Stmt := top 32
abbrev N_law : List Str := ["_law_script", "_law_k", "_law_more", "_law_j", "_law_calls", "_law_rows", "_law_least", "_law_counts", "_law_tick", "_law_now", "_law_due", "_law_one", "_law_bads", "_law_bad", "_law_some", "_law_cords", "_law_call", "_law_own"]
structure Txt (K : PySem.W.Frag) (mg : Str → Option Value) (C : String → Addr) : Prop where
  b_ValueError : mg "ValueError" = none
  b_all : mg "all" = none
  b_bool : mg "bool" = none
  b_enumerate : mg "enumerate" = none
  b_int : mg "int" = none
  b_isinstance : mg "isinstance" = none
  b_len : mg "len" = none
  b_list : mg "list" = none
  b_max : mg "max" = none
  b_min : mg "min" = none
  b_range : mg "range" = none
  b_set : mg "set" = none
  b_sorted : mg "sorted" = none
  b_sum : mg "sum" = none
  b_tuple : mg "tuple" = none
  b_zip : mg "zip" = none
  c_LATEST : GlobD K mg "LATEST" (.int 10000)
  c_LONGEST : GlobD K mg "LONGEST" (.int 1000)
  c_MOST_CALLS : GlobD K mg "MOST_CALLS" (.int 60)
  c_MOST_CORDS : GlobD K mg "MOST_CORDS" (.int 8)
  c_MOST_LINES : GlobD K mg "MOST_LINES" (.int 20)
  g_BadCalls : mg "BadCalls" = some (.ref (C "BadCalls"))
  g_BadNumber : mg "BadNumber" = some (.ref (C "BadNumber"))
  g_BadRows : mg "BadRows" = some (.ref (C "BadRows"))
  g_BadText : mg "BadText" = some (.ref (C "BadText"))
  g_BadWord : mg "BadWord" = some (.ref (C "BadWord"))
  g_BoardError : mg "BoardError" = some (.ref (C "BoardError"))
  g_Busy : mg "Busy" = some (.ref (C "Busy"))
  g_InPlace : mg "InPlace" = some (.ref (C "InPlace"))
  g_NoPlug : mg "NoPlug" = some (.ref (C "NoPlug"))
  g_Nothing : mg "Nothing" = some (.ref (C "Nothing"))
  x_BadCalls : ExcF K mg "BadCalls" (C "BadCalls")
  x_BadNumber : ExcF K mg "BadNumber" (C "BadNumber")
def LS : List String := ["BadCalls", "BadNumber"]
structure WFacts (K : PySem.W.Frag) (C : String → Addr) (D : String) (fl : String → Bool) : Prop where
  exc : ExcC K (C D)
  k_NoPlug : PySem.W.kitOne K (.ref (C D)) (.ref (C "NoPlug")) = some (fl "NoPlug")
  k_Busy : PySem.W.kitOne K (.ref (C D)) (.ref (C "Busy")) = some (fl "Busy")
  k_BadWord : PySem.W.kitOne K (.ref (C D)) (.ref (C "BadWord")) = some (fl "BadWord")
  k_BadNumber : PySem.W.kitOne K (.ref (C D)) (.ref (C "BadNumber")) = some (fl "BadNumber")
  k_BadText : PySem.W.kitOne K (.ref (C D)) (.ref (C "BadText")) = some (fl "BadText")
  k_BadRows : PySem.W.kitOne K (.ref (C D)) (.ref (C "BadRows")) = some (fl "BadRows")
  k_BadCalls : PySem.W.kitOne K (.ref (C D)) (.ref (C "BadCalls")) = some (fl "BadCalls")
  k_InPlace : PySem.W.kitOne K (.ref (C D)) (.ref (C "InPlace")) = some (fl "InPlace")
  k_Nothing : PySem.W.kitOne K (.ref (C D)) (.ref (C "Nothing")) = some (fl "Nothing")
  k_ValueError : PySem.W.kitOne K (.ref (C D)) (.type "ValueError") = some (fl "ValueError")
theorem sc_is_count : FnScope N_is_count ["thing", "low", "high"] (defScope s_is_count) := ⟨rfl, rfl, rfl, by decide +kernel, rfl, by decide +kernel, by decide +kernel⟩
def F_is_count : En → M Fl :=
    (retD (andV (isF bInt (rdS 0)) (andV (notV (isF bBool (rdS 0))) (ch sLe sLe (rdS 1) (rdS 0) (rdS 2)))))
def m_is_count : List D → M D := runF 3 F_is_count
theorem sc_is_call : FnScope N_is_call ["thing"] (defScope s_is_call) := ⟨rfl, rfl, rfl, by decide +kernel, rfl, by decide +kernel, by decide +kernel⟩
def F_is_call : En → M Fl :=
    (seqD (ifD (orT (notT (tst (isF bTup (rdS 0)))) (tst (f2 sNe (f1 sLen (rdS 0)) (kn (.int 4))))) (retD (kn (.bool false))) skipD)
    (seqD (ifD (orT (notT (tst (callF m_is_count (consF (f2 sIx (rdS 0) (kn (.int 0))) (consF (kn (.int 0)) (consF (f2 sSub (kn (.int 20)) (kn (.int 1))) nilF)))))) (orT (notT (tst (callF m_is_count (consF (f2 sIx (rdS 0) (kn (.int 1))) (consF (kn (.int 0)) (consF (f2 sSub (kn (.int 20)) (kn (.int 1))) nilF)))))) (tst (f2 sEq (f2 sIx (rdS 0) (kn (.int 0))) (f2 sIx (rdS 0) (kn (.int 1))))))) (retD (kn (.bool false))) skipD)
    (retD (andV (callF m_is_count (consF (f2 sIx (rdS 0) (kn (.int 2))) (consF (kn (.int 0)) (consF (kn (.int 10000)) nilF)))) (callF m_is_count (consF (f2 sIx (rdS 0) (kn (.int 3))) (consF (kn (.int 1)) (consF (kn (.int 1000)) nilF))))))))
def m_is_call : List D → M D := runF 1 F_is_call
theorem sc_need_calls : FnScope N_need_calls ["calls"] (defScope s_need_calls) := ⟨rfl, rfl, rfl, by decide +kernel, rfl, by decide +kernel, by decide +kernel⟩
def E_need_calls_1 : En → M D :=
    (callF m_is_call (consF (rdS 1) nilF))
def F_need_calls : En → M Fl :=
    (ifD (orT (notT (tst (isF bList (rdS 0)))) (orT (tst (f2 sGt (f1 sLen (rdS 0)) (kn (.int 60)))) (notT (tst (f1 sAll (frz (comp (.nm 1) yesT E_need_calls_1 [1] (itF (rdS 0))))))))) (raiseD "BadCalls") skipD)
def m_need_calls : List D → M D := runF 2 F_need_calls
theorem sc_led : FnScope N_led ["calls", "cords"] (defScope s_led) := ⟨rfl, rfl, rfl, by decide +kernel, rfl, by decide +kernel, by decide +kernel⟩
def C_led_1 : En → M Bool :=
    (tst (f2 sGt (f2 sIx (rdS 12) (kn (.int 3))) (rdS 8)))
def E_led_2 : En → M D :=
    (rdS 12)
def E_led_3 : En → M D :=
    (f2 sIx (rdS 12) (kn (.int 1)))
def E_led_4 : En → M D :=
    (f2 sIx (rdS 12) (kn (.int 2)))
def E_led_5 : En → M D :=
    (f2 sIx (rdS 12) (kn (.int 0)))
def C_led_6 : En → M Bool :=
    (tst (f2 sNotInA (rdS 13) (frz (comp (.nm 12) yesT E_led_5 [12] (itF (rdP 4))))))
def E_led_7 : En → M D :=
    (rdS 13)
def L_led_8 : En → M Fl :=
    (seqD (unpD (.tp [6, 7, 8, 9]) (f2 sIx (rdS 0) (rdS 5)))
    (seqD (parD [4] [(.N (comp (.nm 12) C_led_1 E_led_2 [12] (itF (rdP 4))))])
    (seqD (parD [10] [(.S (frz (f2N sCat (frz (comp (.nm 12) yesT E_led_3 [12] (itF (rdP 4)))) (frz (comp (.nm 12) yesT E_led_4 [12] (itF (rdP 4)))))))])
    (seqD (setNF 11 (comp (.nm 13) C_led_6 E_led_7 [13] (f1N sR1 (rdS 1))))
    (ifD (orT (tst (f2 sInA (rdS 6) (rdS 10))) (tst (f2 sInA (rdS 7) (rdS 10)))) (putD 2 (rdS 5) (kn (.str "busy"))) (ifD (tst (f2 sEq (rdS 11) (frz nilF))) (putD 2 (rdS 5) (kn (.str "no cord"))) (seqD (putD 2 (rdS 5) (f2 sIx (rdS 11) (kn (.int 0))))
    (appD 4 (tupF 0 (consF (f2 sIx (rdS 11) (kn (.int 0))) (consF (rdS 6) (consF (rdS 7) (consF (f2 sPlus (rdS 8) (rdS 9)) nilF)))))))))))))
def F_led : En → M Fl :=
    (seqD (parD [2] [(.N (f2N sRep (frz (consF (kn .none) nilF)) (f1 sLen (rdS 0))))])
    (seqD (parD [3] [(.S (frz (sortKF 0 2 (frz (f1N sR1 (f1 sLen (rdS 0)))))))])
    (seqD (parD [4] [(.N nilF)])
    (seqD (forD (.nm 5) (itF (rdS 3)) L_led_8)
    (retD (rdP 2))))))
def m_led : List D → M D := runF 14 F_led
theorem sc_carried : FnScope N_carried ["calls", "cords"] (defScope s_carried) := ⟨rfl, rfl, rfl, by decide +kernel, rfl, by decide +kernel, by decide +kernel⟩
def F_carried : En → M Fl :=
    (seqD (exprD (callF m_need_calls (consF (rdS 0) nilF)))
    (seqD (ifD (notT (tst (callF m_is_count (consF (rdS 1) (consF (kn (.int 0)) (consF (kn (.int 8)) nilF)))))) (raiseD "BadNumber") skipD)
    (retD (callF m_led (consF (rdS 0) (consF (rdS 1) nilF))))))
def m_carried : List D → M D := runF 2 F_carried
theorem sc_fewest : FnScope N_fewest ["calls"] (defScope s_fewest) := ⟨rfl, rfl, rfl, by decide +kernel, rfl, by decide +kernel, by decide +kernel⟩
def C_fewest_1 : En → M Bool :=
    (tst (f2 sNe (rdS 2) (kn (.str "busy"))))
def E_fewest_2 : En → M D :=
    (rdS 2)
def E_fewest_3 : En → M D :=
    (f2 sPlus (rdS 2) (kn (.int 1)))
def F_fewest : En → M Fl :=
    (seqD (exprD (callF m_need_calls (consF (rdS 0) nilF)))
    (seqD (setNF 1 (comp (.nm 2) C_fewest_1 E_fewest_2 [2] (itF (callF m_led (consF (rdS 0) (consF (kn (.int 20)) nilF))))))
    (retD (f1 sMaxA (frz (f2N sCat (frz (consF (kn (.int 0)) nilF)) (frz (comp (.nm 2) yesT E_fewest_3 [2] (itF (rdS 1))))))))))
def m_fewest : List D → M D := runF 3 F_fewest
theorem sc_greatest : FnScope N_greatest ["calls"] (defScope s_greatest) := ⟨rfl, rfl, rfl, by decide +kernel, rfl, by decide +kernel, by decide +kernel⟩
def C_greatest_1 : En → M Bool :=
    (tst (f2 sNe (rdS 6) (kn (.str "busy"))))
def E_greatest_2 : En → M D :=
    (tupF 0 (consF (f2 sIx (rdS 5) (kn (.int 2))) (consF (f2 sPlus (f2 sIx (rdS 5) (kn (.int 2))) (f2 sIx (rdS 5) (kn (.int 3)))) nilF)))
def C_greatest_3 : En → M Bool :=
    (tst (ch sLe sLt (rdS 9) (rdS 7) (rdS 10)))
def E_greatest_4 : En → M D :=
    (kn (.int 1))
def E_greatest_5 : En → M D :=
    (tupF 0 (consF (f1 sLen (frz (comp (.tp [9, 10]) C_greatest_3 E_greatest_4 [9, 10] (itF (rdS 2))))) (consF (f2 sSub (kn (.int 0)) (rdS 7)) nilF)))
def F_greatest : En → M Fl :=
    (seqD (exprD (callF m_need_calls (consF (rdS 0) nilF)))
    (seqD (parD [1] [(.S (callF m_led (consF (rdS 0) (consF (kn (.int 20)) nilF))))])
    (seqD (parD [2] [(.S (frz (comp (.tp [5, 6]) C_greatest_1 E_greatest_2 [5, 6] (f2N sZip (rdS 0) (rdS 1)))))])
    (seqD (ifD (tst (f2 sEq (rdS 2) (frz nilF))) (retD (kn .none)) skipD)
    (seqD (setNF 3 (comp (.tp [7, 8]) yesT E_greatest_5 [7, 8] (itF (rdS 2))))
    (seqD (parD [4] [(.S (f1 sMaxA (rdS 3)))])
    (retD (tupF 0 (consF (f2 sIx (rdS 4) (kn (.int 0))) (consF (f2 sSub (kn (.int 0)) (f2 sIx (rdS 4) (kn (.int 1)))) nilF))))))))))
def m_greatest : List D → M D := runF 11 F_greatest
theorem sc_law_cell : FnScope N_law_cell ["_law_script", "_law_k"] (defScope s_law_cell) := ⟨rfl, rfl, rfl, by decide +kernel, rfl, by decide +kernel, by decide +kernel⟩
def F_law_cell : En → M Fl :=
    (seqD (ifD (scrNil 0) (retD (f2 sMul (rdS 1) (kn (.int 7919)))) skipD)
    (retD (f2 sPlus (scrIx 0 (f2 sMod (rdS 1) (scrLen 0))) (f2 sMul (f2 sDiv (rdS 1) (scrLen 0)) (kn (.int 104729))))))
def m_law_cell : List Int → Int → M D := runC F_law_cell
theorem sc_law_drawn : FnScope N_law_drawn ["_law_cell_here", "_law_k"] (defScope s_law_drawn) := ⟨rfl, rfl, rfl, by decide +kernel, rfl, by decide +kernel, by decide +kernel⟩
def F_law_drawn : En → M Fl :=
    (seqD (parD [2] [(.S (f2 sMod (f2 sPlus (f2 sMul (rdS 0) (kn (.int 6364136223846793005))) (f2 sMul (f2 sPlus (rdS 1) (kn (.int 1))) (kn (.int 1442695040888963407)))) (kn (.int 340282366920938463463374607431768211507))))])
    (seqD (parD [2] [(.S (f2 sMod (f2 sMul (rdS 2) (rdS 2)) (kn (.int 340282366920938463463374607431768211297))))])
    (seqD (parD [2] [(.S (f2 sMul (f2 sMul (f2 sPlus (f2 sMod (rdS 2) (kn (.int 18446744073709551557))) (kn (.int 1))) (f2 sPlus (f2 sDiv (rdS 2) (kn (.int 18446744073709551557))) (kn (.int 1)))) (rdS 2)))])
    (retD (f2 sMod (rdS 2) (kn (.int 340282366920938463463374607431768211507)))))))
def m_law_drawn : List D → M D := runF 3 F_law_drawn
theorem sc_law_word : FnScope N_law_word ["_law_e"] (defScope s_law_word) := ⟨rfl, rfl, rfl, by decide +kernel, rfl, by decide +kernel, by decide +kernel⟩
def E_law_word_1 : En → M D :=
    (f1 sInt (rdS 3))
def F_law_word (fl : String → Bool) (a : Addr) : En → M Fl :=
    (seqD (parD [1] [(.N (consF (isE 0 a (fl "BadNumber")) (consF (isE 0 a (fl "BadWord")) (consF (isE 0 a (fl "Busy")) (consF (isE 0 a (fl "NoPlug")) nilF)))))])
    (seqD (parD [1] [(.N (f2N sCat (rdP 1) (frz (consF (isE 0 a (fl "InPlace")) (consF (isE 0 a (fl "BadCalls")) (consF (isE 0 a (fl "BadRows")) (consF (isE 0 a (fl "BadText")) nilF)))))))])
    (seqD (appD 1 (isE 0 a (fl "Nothing")))
    (seqD (ifD (orT (tst (f2 sNe (f1 sSum (frz (comp (.nm 3) yesT E_law_word_1 [3] (itL (rdP 1))))) (kn (.int 1)))) (notT (tst (isE 0 a (fl "ValueError"))))) (retD (kn (.str "other"))) skipD)
    (seqD (parD [2] [(.S (frz (consF (kn (.str "BadNumber")) (consF (kn (.str "BadWord")) (consF (kn (.str "Busy")) (consF (kn (.str "NoPlug")) (consF (kn (.str "InPlace")) (consF (kn (.str "BadCalls")) (consF (kn (.str "BadRows")) (consF (kn (.str "BadText")) (consF (kn (.str "Nothing")) nilF)))))))))))])
    (retD (f2 sIx (rdS 2) (idxF (rdP 1) (kn (.bool true))))))))))
theorem sc_law_calls_of : FnScope N_law_calls_of ["_law_more"] (defScope s_law_calls_of) := ⟨rfl, rfl, rfl, by decide +kernel, rfl, by decide +kernel, by decide +kernel⟩
def L_law_calls_of_1 : En → M Fl :=
    (seqD (parD [3] [(.S (callF m_law_drawn (consF (rdS 0) (consF (f2 sPlus (kn (.int 20)) (rdS 2)) nilF))))])
    (seqD (parD [4, 5] [(.S (f2 sMod (rdS 3) (f2 sIx (frz (consF (kn (.int 4)) (consF (kn (.int 20)) nilF))) (f2 sMod (f2 sDiv (rdS 0) (kn (.int 32))) (kn (.int 2)))))), (.S (f2 sMod (f2 sDiv (rdS 3) (kn (.int 32))) (f2 sIx (frz (consF (kn (.int 4)) (consF (kn (.int 19)) nilF))) (f2 sMod (f2 sDiv (rdS 0) (kn (.int 32))) (kn (.int 2))))))])
    (seqD (parD [6] [(.S (f2 sMod (f2 sDiv (rdS 3) (kn (.int 1024))) (f2 sIx (frz (consF (kn (.int 6)) (consF (kn (.int 60)) (consF (kn (.int 9000)) nilF)))) (f2 sMod (f2 sDiv (rdS 0) (kn (.int 64))) (kn (.int 3))))))])
    (seqD (parD [7] [(.S (f2 sPlus (kn (.int 1)) (f2 sMod (f2 sDiv (rdS 3) (f2 sPow (kn (.int 2)) (kn (.int 30)))) (f2 sIx (frz (consF (kn (.int 3)) (consF (kn (.int 20)) (consF (kn (.int 1000)) nilF)))) (f2 sMod (f2 sDiv (rdS 0) (kn (.int 64))) (kn (.int 3)))))))])
    (appD 1 (tupF 0 (consF (rdS 4) (consF (ifE (tst (f2 sNe (rdS 5) (rdS 4))) (rdS 5) (f2 sSub (kn (.int 19)) (rdS 4))) (consF (rdS 6) (consF (rdS 7) nilF))))))))))
def C_law_calls_of_2 : En → M Bool :=
    (tst (f2 sNe (f2 sIx (rdS 8) (kn (.int 0))) (f2 sIx (rdS 8) (kn (.int 1)))))
def E_law_calls_of_3 : En → M D :=
    (rdS 8)
def F_law_calls_of : En → M Fl :=
    (seqD (parD [1] [(.N nilF)])
    (seqD (forD (.nm 2) (f1N sR1 (f2 sMod (rdS 0) (kn (.int 26)))) L_law_calls_of_1)
    (retD (frz (comp (.nm 8) C_law_calls_of_2 E_law_calls_of_3 [8] (itF (rdP 1)))))))
def m_law_calls_of : List D → M D := runF 9 F_law_calls_of
theorem sc_law_carried : FnScope N_law_carried ["_law_calls", "_law_cords"] (defScope s_law_carried) := ⟨rfl, rfl, rfl, by decide +kernel, rfl, by decide +kernel, by decide +kernel⟩
def E_law_carried_1 : En → M D :=
    (kn (.str ""))
def E_law_carried_2 : En → M D :=
    (f2 sIx (rdS 5) (kn (.int 2)))
def L_law_carried_3 : En → M Fl :=
    (ifD (andT (tst (isF bInt (f2 sIx (rdP 2) (rdS 7)))) (tst (ch sLe sLt (f2 sIx (rdS 8) (kn (.int 2))) (rdS 3) (f2 sPlus (f2 sIx (rdS 8) (kn (.int 2))) (f2 sIx (rdS 8) (kn (.int 3))))))) (appD 6 (tupF 0 (consF (f2 sIx (rdP 2) (rdS 7)) (consF (f2 sIx (rdS 8) (kn (.int 0))) (consF (f2 sIx (rdS 8) (kn (.int 1))) nilF))))) skipD)
def C_law_carried_4 : En → M Bool :=
    (orT (tst (f2 sInA (f2 sIx (rdS 5) (kn (.int 0))) (slF (rdS 10) (someP (kn (.int 1))) noP))) (tst (f2 sInA (f2 sIx (rdS 5) (kn (.int 1))) (slF (rdS 10) (someP (kn (.int 1))) noP))))
def E_law_carried_5 : En → M D :=
    (rdS 10)
def E_law_carried_6 : En → M D :=
    (f2 sIx (rdS 10) (kn (.int 0)))
def C_law_carried_7 : En → M Bool :=
    (tst (f2 sNotInA (rdS 11) (frz (comp (.nm 10) yesT E_law_carried_6 [10] (itF (rdP 6))))))
def E_law_carried_8 : En → M D :=
    (rdS 11)
def L_law_carried_9 : En → M Fl :=
    (seqD (ifD (tst (f2 sNe (f2 sIx (rdS 5) (kn (.int 2))) (rdS 3))) cntD skipD)
    (seqD (parD [6] [(.N nilF)])
    (seqD (forD (.tp [7, 8]) (f1N sEnum (rdS 0)) L_law_carried_3)
    (ifD (tst (f2 sNe (frz (comp (.nm 10) C_law_carried_4 E_law_carried_5 [10] (itF (rdP 6)))) (frz nilF))) (putD 2 (rdS 4) (kn (.str "busy"))) (seqD (setNF 9 (comp (.nm 11) C_law_carried_7 E_law_carried_8 [11] (f1N sR1 (rdS 1))))
    (putD 2 (rdS 4) (f2 sIx (frz (f2N sCat (rdS 9) (frz (consF (kn (.str "no cord")) nilF)))) (kn (.int 0)))))))))
def L_law_carried_10 : En → M Fl :=
    (forD (.tp [4, 5]) (f1N sEnum (rdS 0)) L_law_carried_9)
def F_law_carried : En → M Fl :=
    (seqD (setN 2 (comp (.nm 5) yesT E_law_carried_1 [5] (itF (rdS 0))))
    (seqD (forD (.nm 3) (itF (frz (f1N sSetS (frz (comp (.nm 5) yesT E_law_carried_2 [5] (itF (rdS 0))))))) L_law_carried_10)
    (retD (rdP 2))))
def m_law_carried : List D → M D := runF 12 F_law_carried
theorem sc_law : FnScope N_law ["_law_script"] (defScope s_law) := ⟨rfl, rfl, rfl, by decide +kernel, rfl, by decide +kernel, by decide +kernel⟩
def E_law_1 : En → M D :=
    (callF m_law_carried (consF (rdS 4) (consF (rdS 15) nilF)))
def E_law_2 : En → M D :=
    (callF m_carried (consF (rdS 4) (consF (rdS 15) nilF)))
def C_law_3 : En → M Bool :=
    (tst (f2 sNotInA (kn (.str "no cord")) (f2 sIx (rdS 5) (rdS 15))))
def E_law_4 : En → M D :=
    (rdS 15)
def E_law_5 : En → M D :=
    (f2 sIx (rdS 16) (kn (.int 2)))
def C_law_6 : En → M Bool :=
    (tst (ch sLe sLt (f2 sIx (rdS 16) (kn (.int 2))) (rdS 8) (f2 sPlus (f2 sIx (rdS 16) (kn (.int 2))) (f2 sIx (rdS 16) (kn (.int 3))))))
def E_law_7 : En → M D :=
    (rdS 17)
def C_law_8 : En → M Bool :=
    (tst (f2 sNe (rdS 17) (kn (.str "busy"))))
def E_law_9 : En → M D :=
    (rdS 17)
def L_law_10 : En → M Fl :=
    (seqD (setNF 9 (comp (.tp [16, 17]) C_law_6 E_law_7 [16, 17] (f2N sZip (rdS 4) (f2 sIx (rdS 5) (kn (.int 21))))))
    (appD 7 (tupF 0 (consF (f1 sLen (frz (comp (.nm 17) C_law_8 E_law_9 [17] (itF (rdS 9))))) (consF (f2 sSub (kn (.int 0)) (rdS 8)) nilF)))))
def L_law_11 : En → M Fl :=
    (seqD (parD [4] [(.S (callF m_law_calls_of (consF (callF m_law_drawn (consF (rdS 2) (consF (f2 sPlus (kn (.int 10)) (rdS 3)) nilF))) nilF)))])
    (seqD (parD [5] [(.S (frz (comp (.nm 15) yesT E_law_1 [15] (f1N sR1 (kn (.int 22))))))])
    (seqD (ifD (tst (f2 sNe (frz (comp (.nm 15) yesT E_law_2 [15] (f1N sR1 (kn (.int 9))))) (slF (rdS 5) noP (someP (kn (.int 9)))))) (retD (kn (.bool false))) skipD)
    (seqD (parD [6] [(.S (f2 sIx (frz (comp (.nm 15) C_law_3 E_law_4 [15] (f1N sR1 (kn (.int 22))))) (kn (.int 0))))])
    (seqD (ifD (tst (f2 sNe (callF m_fewest (consF (rdS 4) nilF)) (rdS 6))) (retD (kn (.bool false))) skipD)
    (seqD (parD [7] [(.N nilF)])
    (seqD (forD (.nm 8) (itF (frz (f1N sSetS (frz (comp (.nm 16) yesT E_law_5 [16] (itF (rdS 4))))))) L_law_10)
    (seqD (parD [10] [(.S (ifE (tst (f2 sNe (rdP 7) (frz nilF))) (tupF 0 (consF (f2 sIx (f1 sMaxA (rdP 7)) (kn (.int 0))) (consF (f2 sSub (kn (.int 0)) (f2 sIx (f1 sMaxA (rdP 7)) (kn (.int 1)))) nilF))) (kn .none)))])
    (ifD (orT (tst (f2 sNe (callF m_greatest (consF (rdS 4) nilF)) (rdS 10))) (andT (tst (f2 sIsNot (rdS 10) (kn .none))) (tst (f2 sNe (f2 sIx (rdS 10) (kn (.int 0))) (rdS 6))))) (retD (kn (.bool false))) skipD)))))))))
def G_law_12 : En → M D :=
    (callF m_carried (consF (rdS 13) (consF (f1 sNeg (kn (.int 1))) nilF)))
def G_law_13 : En → M D :=
    (callF m_fewest (consF (rdS 13) nilF))
def G_law_14 : En → M D :=
    (callF m_greatest (consF (rdS 13) nilF))
def L_law_15 : En → M Fl :=
    (seqD (parD [14] [(.N (consF (toldF LS G_law_12) nilF))])
    (seqD (appD 14 (toldF LS G_law_13))
    (seqD (appD 14 (toldF LS G_law_14))
    (ifD (tst (f2 sNe (rdP 14) (frz (f2N sRep (frz (consF (kn (.str "BadCalls")) nilF)) (kn (.int 3)))))) (retD (kn (.bool false))) skipD))))
def G_law_16 : En → M D :=
    (callF m_carried (consF (frz nilF) (consF (rdS 13) nilF)))
def E_law_17 : En → M D :=
    (toldF LS G_law_16)
def L_law_18 : En → M Fl :=
    (seqD (parD [2] [(.S (callF m_law_drawn (consF (cellF m_law_cell 0 (rdS 1)) (consF (rdS 1) nilF))))])
    (seqD (forD (.nm 3) (f1N sR1 (kn (.int 3))) L_law_11)
    (seqD (parD [11] [(.S (tupF 0 (consF (kn (.int 0)) (consF (kn (.int 1)) (consF (kn (.int 0)) (consF (kn (.int 1)) nilF))))))])
    (seqD (parD [12] [(.S (frz (consF (kn .none) (consF (tupF 0 (consF (rdS 11) nilF)) (consF (frz (f2N sRep (frz (consF (rdS 11) nilF)) (kn (.int 61)))) (consF (frz (consF (frz (f1N sList (rdS 11))) nilF)) (consF (frz (consF (tupF 0 (consF (kn (.int 0)) (consF (kn (.int 0)) (consF (kn (.int 0)) (consF (kn (.int 1)) nilF))))) nilF)) (consF (frz (consF (tupF 0 (consF (kn (.int 0)) (consF (kn (.int 20)) (consF (kn (.int 0)) (consF (kn (.int 1)) nilF))))) nilF)) (consF (frz (consF (tupF 0 (consF (f1 sNeg (kn (.int 1))) (consF (kn (.int 1)) (consF (kn (.int 0)) (consF (kn (.int 1)) nilF))))) nilF)) nilF)))))))))])
    (seqD (forD (.nm 13) (itF (frz (f2N sCat (rdS 12) (frz (consF (frz (consF (tupF 0 (consF (kn (.int 0)) (consF (kn (.int 1)) (consF (kn (.int 10001)) (consF (kn (.int 1)) nilF))))) nilF)) (consF (frz (consF (tupF 0 (consF (kn (.int 0)) (consF (kn (.int 1)) (consF (kn (.int 0)) (consF (kn (.int 0)) nilF))))) nilF)) (consF (frz (consF (tupF 0 (consF (kn (.int 0)) (consF (kn (.int 1)) (consF (kn (.int 0)) (consF (kn (.int 1001)) nilF))))) nilF)) (consF (frz (consF (tupF 0 (consF (kn (.bool true)) (consF (kn (.int 2)) (consF (kn (.int 0)) (consF (kn (.int 1)) nilF))))) nilF)) (consF (frz (consF (tupF 0 (consF (kn (.int 0)) (consF (kn (.int 1)) (consF (kn (.int 0)) nilF)))) nilF)) nilF))))))))) L_law_15)
    (ifD (tst (f2 sNe (frz (comp (.nm 13) yesT E_law_17 [13] (itF (frz (consF (f1 sNeg (kn (.int 1))) (consF (kn (.int 9)) (consF (kn .none) (consF (kn (.bool true)) nilF)))))))) (frz (f2N sRep (frz (consF (kn (.str "BadNumber")) nilF)) (kn (.int 4)))))) (retD (kn (.bool false))) skipD))))))
def F_law : En → M Fl :=
    (seqD (forD (.nm 1) (f1N sR1 (f2 sMax2 (kn (.int 1)) (f2 sMin2 (kn (.int 4)) (scrLen 0)))) L_law_18)
    (retD (kn (.bool true))))
abbrev s_law_told : Stmt := top 29
theorem sc_law_told : FnScope ["_law_deed", "_law_e"] ["_law_deed"] (defScope s_law_told) := ⟨rfl, rfl, rfl, by decide +kernel, rfl, by decide +kernel, by decide +kernel⟩
def flOf (D : String) : String → Bool := fun s => s == D || s == "BoardError" || s == "ValueError"
section
variable {P : Program} {w : World} {K : PySem.W.Frag} {mg : Str → Option Value} {base : Heap} {Tb : List (Addr × Str)} {C : String → Addr}
theorem has_is_count (R : Raw K mg "is_count" s_is_count) (T : Txt K mg C) : Has P w K mg base 1 "is_count" ["thing", "low", "high"] (spD K Tb C 3 m_is_count) :=
  has_D R (fun _ _ _ _ _ _ us hl => match us, hl with | [_, _, _], _ => rfl) sc_is_count rfl fun cdv f A outer s H E O hr =>
    (s_one (s_ret (toQ (toP (d_and (toQ (toP (d_isi is_int T.b_isinstance T.b_int (by kernel_rfl) (toQ (toP (dv_S (pv 0))))))) (d_and (toQ (toP (d_not (toQ (toP (d_isi is_bool T.b_isinstance T.b_bool (by kernel_rfl) (toQ (toP (dv_S (pv 0)))))))))) (d_one (d_chain op_le op_le sm_le sm_le (toQ (toP (dv_S (pv 1)))) (toQ (toP (dv_S (pv 0)))) (toQ (toP (dv_S (pv 2))))))))))))
theorem has_is_call (R : Raw K mg "is_call" s_is_call) (T : Txt K mg C) (H_is_count : Has P w K mg base 1 "is_count" ["thing", "low", "high"] (spD K Tb C 3 m_is_count)) : Has P w K mg base 2 "is_call" ["thing"] (spD K Tb C 1 m_is_call) :=
  has_D R (fun _ _ _ _ _ _ us hl => match us, hl with | [_], _ => rfl) sc_is_call rfl fun cdv f A outer s H E O hr =>
    (s_cons (s_if ((t_or (t_not (t_val (toQ (toP (d_isi is_tup T.b_isinstance T.b_tuple (by kernel_rfl) (toQ (toP (dv_S (pv 0))))))))) (t_or1 (t_cmp (op_neD hr.units) sm_ne (toQ (toP (d_call1 call_len sm_len T.b_len (by kernel_rfl) (toQ (toP (dv_S (pv 0))))))) (toQ (toP dc_int)) (nomark _))))).pt (s_one (s_ret (toQ (toP dc_bl)))) s_nil)
    (s_cons (s_if ((t_or (t_not (t_val (toQ (toP (d_callH H_is_count hr (passB (L2N.takes_of rfl rfl rfl rfl)) (an_cons (d_ixS ix_seq sm_ix (toP (dv_S (pv 0))) (toP dc_int)) (an_cons dc_int (an_cons (d_op op_sub sm_sub (toQ (toP (d_globX T.c_MOST_LINES))) (toQ (toP dc_int))) an_nil)))))))) (t_or (t_not (t_val (toQ (toP (d_callH H_is_count hr (passB (L2N.takes_of rfl rfl rfl rfl)) (an_cons (d_ixS ix_seq sm_ix (toP (dv_S (pv 0))) (toP dc_int)) (an_cons dc_int (an_cons (d_op op_sub sm_sub (toQ (toP (d_globX T.c_MOST_LINES))) (toQ (toP dc_int))) an_nil)))))))) (t_or1 (t_cmp (op_eqD hr.units) sm_eq (toQ (toP (d_ixS ix_seq sm_ix (toP (dv_S (pv 0))) (toP dc_int)))) (toQ (toP (d_ixS ix_seq sm_ix (toP (dv_S (pv 0))) (toP dc_int)))) (nomark _)))))).pt (s_one (s_ret (toQ (toP dc_bl)))) s_nil)
    (s_one (s_ret (toQ (toP (d_and (toQ (toP (d_callH H_is_count hr (passB (L2N.takes_of rfl rfl rfl rfl)) (an_cons (d_ixS ix_seq sm_ix (toP (dv_S (pv 0))) (toP dc_int)) (an_cons dc_int (an_cons (d_globX T.c_LATEST) an_nil)))))) (d_one (d_callH H_is_count hr (passB (L2N.takes_of rfl rfl rfl rfl)) (an_cons (d_ixS ix_seq sm_ix (toP (dv_S (pv 0))) (toP dc_int)) (an_cons dc_int (an_cons (d_globX T.c_LONGEST) an_nil))))))))))))
theorem has_need_calls (R : Raw K mg "need_calls" s_need_calls) (T : Txt K mg C) (H_is_call : Has P w K mg base 2 "is_call" ["thing"] (spD K Tb C 1 m_is_call)) : Has P w K mg base 3 "need_calls" ["calls"] (spD K Tb C 1 m_need_calls) :=
  has_D R (fun _ _ _ _ _ _ us hl => match us, hl with | [_], _ => rfl) sc_need_calls rfl fun cdv f A outer s H E O hr =>
    (s_one (s_if ((t_or (t_not (t_val (toQ (toP (d_isi is_list T.b_isinstance T.b_list (by kernel_rfl) (toQ (toP (dv_S (pv 0))))))))) (t_or (t_cmp op_gt sm_gt (toQ (toP (d_call1 call_len sm_len T.b_len (by kernel_rfl) (toQ (toP (dv_S (pv 0))))))) (toQ (toP (d_globX T.c_MOST_CALLS))) (nomark _)) (t_or1 (t_not (t_val (toQ (toP (d_call1 (cr_all rfl) sm_all T.b_all (by kernel_rfl) (toQ (toP (toS (d_lc [("call", 1)] (.nm 1) rfl sc_need_calls.nd (i_seqP (toP (dv_S (pv 0)))) (blkOk_by (N := N_need_calls) (sc := defScope s_need_calls) (by decide +kernel)) (fun _ _ _ _ _ => (pg_name (i := 1) sc_need_calls.nd rfl (Or.inl rfl))) (fun _ _ _ _ _ => ts_nil) (fun _ _ _ _ _ => (d_callH H_is_call hr passL (an_cons (dv_S (pv 1)) an_nil)))))))))))))))).pt (s_one (s_raiseE (cn := "BadCalls") rfl (L2N.takes_of rfl rfl rfl rfl) T.x_BadCalls)) s_nil))
theorem has_led {a c Pt : Addr} {fd : FuncData} (F : Fun K "led" "led" s_led a fd) (hga : mg "led" = some (.ref a)) (hcd : fd.code = .ref c) (TB : LamX.TabB base mg c Pt) (hmT : (Pt, ("led" : Str) ++ ".<locals>." ++ "<lambda>") ∈ Tb) (hu0 : ∀ p ∈ Tb, p.1 = Pt → p.2 = ("led" : Str) ++ ".<locals>." ++ "<lambda>") (T : Txt K mg C) : Has P w K mg base 2 "led" ["calls", "cords"] (spD K Tb C 2 m_led) :=
  has_Dc F hga hcd (fun _ _ _ _ _ _ us hl => match us, hl with | [_, _], _ => rfl) sc_led rfl fun A outer s H E O hr =>
    (s_cons (s_new (i := 2) sc_led.nd (k_N (d_opN op_repR sm_rep (toP (toS (d_lstn (an_cons dc_non an_nil)))) (toP (d_call1 call_len sm_len T.b_len (by kernel_rfl) (toQ (toP (dv_S (pv 0)))))))))
    (s_cons (s_new (i := 3) sc_led.nd (k_S (toS (d_sortK (k := 0) T.b_sorted (toP (toS (d_listR1 rfl T.b_list T.b_range (toQ (toP (d_call1 call_len sm_len T.b_len (by kernel_rfl) (toQ (toP (dv_S (pv 0)))))))))) TB rfl hmT hu0 (hr.mono (by decide)) (lamK_by (sc := defScope s_led) (by decide +kernel)) rfl rfl))))
    (s_cons (s_new (i := 4) sc_led.nd (k_N (d_lstn an_nil)))
    (s_cons (s_for (.nm 5) (passes_of rfl) rfl (i_seq (dv_S (pv 3))) (pg_name (i := 5) sc_led.nd rfl (Or.inl rfl)) (s_cons (s_unp (.tp [6, 7, 8, 9]) (d_ixS ix_seq sm_ix (toP (dv_S (pv 0))) (toP (dv_S (pv 5)))) (pg_tup rfl (pgs_cons (pg_name (i := 6) sc_led.nd rfl (Or.inl rfl)) (pgs_cons (pg_name (i := 7) sc_led.nd rfl (Or.inl rfl)) (pgs_cons (pg_name (i := 8) sc_led.nd rfl (Or.inr rfl)) (pgs_cons (pg_name (i := 9) sc_led.nd rfl (Or.inl rfl)) pgs_nil))))))
    (s_cons (s_new (i := 4) sc_led.nd (k_N (d_lc [("row", 12)] (.nm 12) rfl sc_led.nd (i_seqP (dv_P (pv 4))) (blkOk_by (N := N_led) (sc := defScope s_led) (by decide +kernel)) (fun _ _ _ _ _ => (pg_name (i := 12) sc_led.nd rfl (Or.inl rfl))) (fun _ _ _ _ _ => (ts_one (t_cmp op_gt sm_gt (toQ (toP (d_ixS ix_seq sm_ix (toP (dv_S (pv 12))) (toP dc_int)))) (toQ (toP (dv_S (pv 8)))) (nomark _)))) (fun _ _ _ _ _ => (dv_S (pv 12))))))
    (s_cons (s_new (i := 10) sc_led.nd (k_S (toS (d_opN op_catR sm_cat (toP (toS (d_lc [("row", 12)] (.nm 12) rfl sc_led.nd (i_seqP (dv_P (pv 4))) (blkOk_by (N := N_led) (sc := defScope s_led) (by decide +kernel)) (fun _ _ _ _ _ => (pg_name (i := 12) sc_led.nd rfl (Or.inl rfl))) (fun _ _ _ _ _ => ts_nil) (fun _ _ _ _ _ => (d_ixS ix_seq sm_ix (toP (dv_S (pv 12))) (toP dc_int)))))) (toP (toS (d_lc [("row", 12)] (.nm 12) rfl sc_led.nd (i_seqP (dv_P (pv 4))) (blkOk_by (N := N_led) (sc := defScope s_led) (by decide +kernel)) (fun _ _ _ _ _ => (pg_name (i := 12) sc_led.nd rfl (Or.inl rfl))) (fun _ _ _ _ _ => ts_nil) (fun _ _ _ _ _ => (d_ixS ix_seq sm_ix (toP (dv_S (pv 12))) (toP dc_int))))))))))
    (s_cons (s_setLcF (i := 11) [("cord", 13)] (.nm 13) rfl sc_led.nd (i_rng1 T.b_range (toQ (toP (dv_S (pv 1))))) (blkOk_by (N := N_led) (sc := defScope s_led) (by decide +kernel)) (fun _ _ _ _ _ => (pg_name (i := 13) sc_led.nd rfl (Or.inl rfl))) (fun _ _ _ _ _ => (ts_one (t_cmp (op_notInA (room65 hr)) sm_notInA (toQ (toP (dv_S (pv 13)))) (toQ (toP (toS (d_lc [("row", 12)] (.nm 12) rfl sc_led.nd (i_seqP (dv_P (pv 4))) (blkOk_by (N := N_led) (by rfl)) (fun _ _ _ _ _ => (pg_name (i := 12) sc_led.nd rfl (Or.inl rfl))) (fun _ _ _ _ _ => ts_nil) (fun _ _ _ _ _ => (d_ixS ix_seq sm_ix (toP (dv_S (pv 12))) (toP dc_int))))))) rfl))) (fun _ _ _ _ _ => (dv_S (pv 13))) (sw_true rfl rfl rfl (by decide +kernel)))
    (s_one (s_if ((t_or (t_cmp (op_inA (room65 hr)) sm_inA (toQ (toP (dv_S (pv 6)))) (toQ (toP (dv_S (pv 10)))) rfl) (t_or1 (t_cmp (op_inA (room65 hr)) sm_inA (toQ (toP (dv_S (pv 7)))) (toQ (toP (dv_S (pv 10)))) rfl)))).pt (s_one (s_put (pv 2) (toQ (toP (dv_S (pv 5)))) dc_str)) (s_one (s_if (t_cmp (op_eqD hr.units) sm_eq (toQ (toP (dv_S (pv 11)))) (toQ (toP (toS (d_lstn an_nil)))) (nomark _)) (s_one (s_put (pv 2) (toQ (toP (dv_S (pv 5)))) dc_str)) (s_cons (s_put (pv 2) (toQ (toP (dv_S (pv 5)))) (d_ixS ix_seq sm_ix (toP (dv_S (pv 11))) (toP dc_int)))
    (s_one (s_app (pv 4) (d_tupn (an_cons (d_ixS ix_seq sm_ix (toP (dv_S (pv 11))) (toP dc_int)) (an_cons (dv_S (pv 6)) (an_cons (dv_S (pv 7)) (an_cons (d_opS op_plus sm_plus (toP (dv_S (pv 8))) (toP (dv_S (pv 9)))) an_nil)))))))))))))))))
    (s_one (s_ret (toQ (dv_P (pv 2)))))))))
theorem has_carried (R : Raw K mg "carried" s_carried) (T : Txt K mg C) (H_is_count : Has P w K mg base 1 "is_count" ["thing", "low", "high"] (spD K Tb C 3 m_is_count)) (H_need_calls : Has P w K mg base 3 "need_calls" ["calls"] (spD K Tb C 1 m_need_calls)) (H_led : Has P w K mg base 2 "led" ["calls", "cords"] (spD K Tb C 2 m_led)) : Has P w K mg base 4 "carried" ["calls", "cords"] (spD K Tb C 2 m_carried) :=
  has_D R (fun _ _ _ _ _ _ us hl => match us, hl with | [_, _], _ => rfl) sc_carried rfl fun cdv f A outer s H E O hr =>
    (s_cons (s_expr (toQ (toP (d_callH H_need_calls hr (passB (L2N.takes_of rfl rfl rfl rfl)) (an_cons (dv_S (pv 0)) an_nil)))))
    (s_cons (s_if (t_not (t_val (toQ (toP (d_callH H_is_count hr (passB (L2N.takes_of rfl rfl rfl rfl)) (an_cons (dv_S (pv 1)) (an_cons dc_int (an_cons (d_globX T.c_MOST_CORDS) an_nil)))))))) (s_one (s_raiseE (cn := "BadNumber") rfl (L2N.takes_of rfl rfl rfl rfl) T.x_BadNumber)) s_nil)
    (s_one (s_ret (toQ (toP (d_callH H_led hr (passB (L2N.takes_of rfl rfl rfl rfl)) (an_cons (dv_S (pv 0)) (an_cons (dv_S (pv 1)) an_nil)))))))))
theorem has_fewest (R : Raw K mg "fewest" s_fewest) (T : Txt K mg C) (H_need_calls : Has P w K mg base 3 "need_calls" ["calls"] (spD K Tb C 1 m_need_calls)) (H_led : Has P w K mg base 2 "led" ["calls", "cords"] (spD K Tb C 2 m_led)) : Has P w K mg base 4 "fewest" ["calls"] (spD K Tb C 1 m_fewest) :=
  has_D R (fun _ _ _ _ _ _ us hl => match us, hl with | [_], _ => rfl) sc_fewest rfl fun cdv f A outer s H E O hr =>
    (s_cons (s_expr (toQ (toP (d_callH H_need_calls hr (passB (L2N.takes_of rfl rfl rfl rfl)) (an_cons (dv_S (pv 0)) an_nil)))))
    (s_cons (s_setLcF (i := 1) [("cord", 2)] (.nm 2) rfl sc_fewest.nd (i_seqP (toP (d_callH H_led hr (passB (L2N.takes_of rfl rfl rfl rfl)) (an_cons (dv_S (pv 0)) (an_cons (d_globX T.c_MOST_LINES) an_nil))))) (blkOk_by (N := N_fewest) (sc := defScope s_fewest) (by decide +kernel)) (fun _ _ _ _ _ => (pg_name (i := 2) sc_fewest.nd rfl (Or.inl rfl))) (fun _ _ _ _ _ => (ts_one (t_cmp (op_neD hr.units) sm_ne (toQ (toP (dv_S (pv 2)))) (toQ (toP dc_str)) (nomark _)))) (fun _ _ _ _ _ => (dv_S (pv 2))) (sw_true rfl rfl rfl (by decide +kernel)))
    (s_one (s_ret (toQ (toP (d_callBS (cr_maxA rfl (room65 hr)) sm_maxA T.b_max (by kernel_rfl) (toP (toS (d_opN op_catR sm_cat (toP (toS (d_lstn (an_cons dc_int an_nil)))) (toP (toS (d_lc [("cord", 2)] (.nm 2) rfl sc_fewest.nd (i_seqP (toP (dv_S (pv 1)))) (blkOk_by (N := N_fewest) (sc := defScope s_fewest) (by decide +kernel)) (fun _ _ _ _ _ => (pg_name (i := 2) sc_fewest.nd rfl (Or.inl rfl))) (fun _ _ _ _ _ => ts_nil) (fun _ _ _ _ _ => (d_opS op_plus sm_plus (toP (dv_S (pv 2))) (toP dc_int))))))))))))))))
theorem has_greatest (R : Raw K mg "greatest" s_greatest) (T : Txt K mg C) (H_need_calls : Has P w K mg base 3 "need_calls" ["calls"] (spD K Tb C 1 m_need_calls)) (H_led : Has P w K mg base 2 "led" ["calls", "cords"] (spD K Tb C 2 m_led)) : Has P w K mg base 4 "greatest" ["calls"] (spD K Tb C 1 m_greatest) :=
  has_D R (fun _ _ _ _ _ _ us hl => match us, hl with | [_], _ => rfl) sc_greatest rfl fun cdv f A outer s H E O hr =>
    (s_cons (s_expr (toQ (toP (d_callH H_need_calls hr (passB (L2N.takes_of rfl rfl rfl rfl)) (an_cons (dv_S (pv 0)) an_nil)))))
    (s_cons (s_new (i := 1) sc_greatest.nd (k_S (d_callH H_led hr (passB (L2N.takes_of rfl rfl rfl rfl)) (an_cons (dv_S (pv 0)) (an_cons (d_globX T.c_MOST_LINES) an_nil)))))
    (s_cons (s_new (i := 2) sc_greatest.nd (k_S (toS (d_lc [("call", 5), ("cord", 6)] (.tp [5, 6]) rfl sc_greatest.nd (i_zipP T.b_zip (toP (dv_S (pv 0))) (toP (dv_S (pv 1)))) (blkOk_by (N := N_greatest) (sc := defScope s_greatest) (by decide +kernel)) (fun _ _ _ _ _ => (pg_tup rfl (pgs_cons (pg_name (i := 5) sc_greatest.nd rfl (Or.inl rfl)) (pgs_cons (pg_name (i := 6) sc_greatest.nd rfl (Or.inl rfl)) pgs_nil)))) (fun _ _ _ _ _ => (ts_one (t_cmp (op_neD hr.units) sm_ne (toQ (toP (dv_S (pv 6)))) (toQ (toP dc_str)) (nomark _)))) (fun _ _ _ _ _ => (d_tupn (an_cons (d_ixS ix_seq sm_ix (toP (dv_S (pv 5))) (toP dc_int)) (an_cons (d_opS op_plus sm_plus (toP (d_ixS ix_seq sm_ix (toP (dv_S (pv 5))) (toP dc_int))) (toP (d_ixS ix_seq sm_ix (toP (dv_S (pv 5))) (toP dc_int)))) an_nil))))))))
    (s_cons (s_if (t_cmp (op_eqD hr.units) sm_eq (toQ (toP (dv_S (pv 2)))) (toQ (toP (toS (d_lstn an_nil)))) (nomark _)) (s_one (s_ret (toQ (toP dc_non)))) s_nil)
    (s_cons (s_setLcF (i := 3) [("tick", 7), ("later", 8)] (.tp [7, 8]) rfl sc_greatest.nd (i_seqP (toP (dv_S (pv 2)))) (blkOk_by (N := N_greatest) (sc := defScope s_greatest) (by decide +kernel)) (fun _ _ _ _ _ => (pg_tup rfl (pgs_cons (pg_name (i := 7) sc_greatest.nd rfl (Or.inr rfl)) (pgs_cons (pg_name (i := 8) sc_greatest.nd rfl (Or.inl rfl)) pgs_nil)))) (fun _ _ _ _ _ => ts_nil) (fun _ _ _ _ _ => (d_tupn (an_cons (d_call1 call_len sm_len T.b_len (by kernel_rfl) (toQ (toP (toS (d_lc [("begun", 9), ("over", 10)] (.tp [9, 10]) rfl sc_greatest.nd (i_seqP (toP (dv_S (pv 2)))) (blkOk_by (N := N_greatest) (by rfl)) (fun _ _ _ _ _ => (pg_tup rfl (pgs_cons (pg_name (i := 9) sc_greatest.nd rfl (Or.inl rfl)) (pgs_cons (pg_name (i := 10) sc_greatest.nd rfl (Or.inl rfl)) pgs_nil)))) (fun _ _ _ _ _ => (ts_one (t_chain op_le op_lt sm_le sm_lt (toQ (toP (dv_S (pv 9)))) (toQ (toP (dv_S (pv 7)))) (toQ (toP (dv_S (pv 10))))))) (fun _ _ _ _ _ => dc_int)))))) (an_cons (d_op op_sub sm_sub (toQ (toP dc_int)) (toQ (toP (dv_S (pv 7))))) an_nil)))) (sw_true rfl rfl rfl (by decide +kernel)))
    (s_cons (s_new (i := 4) sc_greatest.nd (k_S (d_callBS (cr_maxA rfl (room65 hr)) sm_maxA T.b_max (by kernel_rfl) (toP (dv_S (pv 3))))))
    (s_one (s_ret (toQ (toP (d_tupn (an_cons (d_ixS ix_seq sm_ix (toP (dv_S (pv 4))) (toP dc_int)) (an_cons (d_op op_sub sm_sub (toQ (toP dc_int)) (toQ (toP (d_ixS ix_seq sm_ix (toP (dv_S (pv 4))) (toP dc_int))))) an_nil)))))))))))))
theorem has_law_cell (R : Raw K mg "_law_cell" s_law_cell) (T : Txt K mg C) : Has P w K mg base 1 "_law_cell" ["_law_script", "_law_k"] (spCell K Tb m_law_cell) :=
  has_cell (C := C) R (fun _ _ _ _ _ _ us hl => match us, hl with | [_, _], _ => rfl) sc_law_cell rfl fun cdv f A outer s H E O hr =>
    (s_cons (s_if (t_scrNil hr.units (pv 0)) (s_one (s_ret (toQ (toP (d_op (OpR.or op_mul op_mulW) sm_mul (toQ (toP (dv_S (pv 1)))) (toQ (toP dc_int))))))) s_nil)
    (s_one (s_ret (toQ (toP (d_opS op_plus sm_plus (toP (d_scrIx (pv 0) (toQ (toP (d_op op_mod sm_mod (toQ (toP (dv_S (pv 1)))) (toQ (toP (d_scrLen T.b_len (pv 0))))))))) (toP (d_op (OpR.or op_mul op_mulW) sm_mul (toQ (toP (d_op op_fdivW sm_div (toQ (toP (dv_S (pv 1)))) (toQ (toP (d_scrLen T.b_len (pv 0))))))) (toQ (toP dc_int))))))))))
theorem has_law_drawn (R : Raw K mg "_law_drawn" s_law_drawn) (T : Txt K mg C) : Has P w K mg base 1 "_law_drawn" ["_law_cell_here", "_law_k"] (spD K Tb C 2 m_law_drawn) :=
  has_D R (fun _ _ _ _ _ _ us hl => match us, hl with | [_, _], _ => rfl) sc_law_drawn rfl fun cdv f A outer s H E O hr =>
    (s_cons (s_new (i := 2) sc_law_drawn.nd (k_S (d_op op_mod sm_mod (toQ (toP (d_opS op_plus sm_plus (toP (d_op (OpR.or op_mul op_mulW) sm_mul (toQ (toP (dv_S (pv 0)))) (toQ (toP dc_int)))) (toP (d_op (OpR.or op_mul op_mulW) sm_mul (toQ (toP (d_opS op_plus sm_plus (toP (dv_S (pv 1))) (toP dc_int)))) (toQ (toP dc_int))))))) (toQ (toP dc_int)))))
    (s_cons (s_new (i := 2) sc_law_drawn.nd (k_S (d_op op_mod sm_mod (toQ (toP (d_op (OpR.or op_mul op_mulW) sm_mul (toQ (toP (dv_S (pv 2)))) (toQ (toP (dv_S (pv 2))))))) (toQ (toP dc_int)))))
    (s_cons (s_new (i := 2) sc_law_drawn.nd (k_S (d_op (OpR.or op_mul op_mulW) sm_mul (toQ (toP (d_op (OpR.or op_mul op_mulW) sm_mul (toQ (toP (d_opS op_plus sm_plus (toP (d_op op_mod sm_mod (toQ (toP (dv_S (pv 2)))) (toQ (toP dc_int)))) (toP dc_int)))) (toQ (toP (d_opS op_plus sm_plus (toP (d_op op_fdivW sm_div (toQ (toP (dv_S (pv 2)))) (toQ (toP dc_int)))) (toP dc_int))))))) (toQ (toP (dv_S (pv 2)))))))
    (s_one (s_ret (toQ (toP (d_op op_mod sm_mod (toQ (toP (dv_S (pv 2)))) (toQ (toP dc_int))))))))))
theorem has_law_word {k : Nat} {D : String} {fl : String → Bool} {wd : Str} (W : WFacts K C D fl) (R : Raw K mg "_law_word" s_law_word) (T : Txt K mg C) (hw : ∀ a, F_law_word fl a (.adr a :: List.replicate 3 .un) = .ok (.rt (.str wd))) : TolX.WordOk P w K mg base Tb (k + 1) "_law_word" (C D) wd :=
  word_of (C := C) R (fun _ _ _ _ _ _ us hl => match us, hl with | [_], _ => rfl) sc_law_word (fun cdv f A outer s H p hh hc hd hr =>
    let a := p.1
    (s_cons (s_new (i := 1) sc_law_word.nd (k_N (d_lstn (an_cons (d_isE (call_isN (List.mem_cons_self) W.exc hc hd (hot_f hh)) T.b_isinstance (pv 0) (by exact pe_glob (v := .ref (C "BadNumber")) rfl T.g_BadNumber rfl) (by exact fun _ h => h) W.k_BadNumber) (an_cons (d_isE (call_isN (List.mem_cons_self) W.exc hc hd (hot_f hh)) T.b_isinstance (pv 0) (by exact pe_glob (v := .ref (C "BadWord")) rfl T.g_BadWord rfl) (by exact fun _ h => h) W.k_BadWord) (an_cons (d_isE (call_isN (List.mem_cons_self) W.exc hc hd (hot_f hh)) T.b_isinstance (pv 0) (by exact pe_glob (v := .ref (C "Busy")) rfl T.g_Busy rfl) (by exact fun _ h => h) W.k_Busy) (an_cons (d_isE (call_isN (List.mem_cons_self) W.exc hc hd (hot_f hh)) T.b_isinstance (pv 0) (by exact pe_glob (v := .ref (C "NoPlug")) rfl T.g_NoPlug rfl) (by exact fun _ h => h) W.k_NoPlug) an_nil)))))))
    (s_cons (s_new (i := 1) sc_law_word.nd (k_N (d_opN op_catR sm_cat (dv_P (pv 1)) (toP (toS (d_lstn (an_cons (d_isE (call_isN (List.mem_cons_self) W.exc hc hd (hot_f hh)) T.b_isinstance (pv 0) (by exact pe_glob (v := .ref (C "InPlace")) rfl T.g_InPlace rfl) (by exact fun _ h => h) W.k_InPlace) (an_cons (d_isE (call_isN (List.mem_cons_self) W.exc hc hd (hot_f hh)) T.b_isinstance (pv 0) (by exact pe_glob (v := .ref (C "BadCalls")) rfl T.g_BadCalls rfl) (by exact fun _ h => h) W.k_BadCalls) (an_cons (d_isE (call_isN (List.mem_cons_self) W.exc hc hd (hot_f hh)) T.b_isinstance (pv 0) (by exact pe_glob (v := .ref (C "BadRows")) rfl T.g_BadRows rfl) (by exact fun _ h => h) W.k_BadRows) (an_cons (d_isE (call_isN (List.mem_cons_self) W.exc hc hd (hot_f hh)) T.b_isinstance (pv 0) (by exact pe_glob (v := .ref (C "BadText")) rfl T.g_BadText rfl) (by exact fun _ h => h) W.k_BadText) an_nil))))))))))
    (s_cons (s_app (pv 1) (d_isE (call_isN (List.mem_cons_self) W.exc hc hd (hot_f hh)) T.b_isinstance (pv 0) (by exact pe_glob (v := .ref (C "Nothing")) rfl T.g_Nothing rfl) (by exact fun _ h => h) W.k_Nothing))
    (s_cons (s_if ((t_or (t_cmp (op_neD (roomh64 hr)) sm_ne (toQ (toP (d_call1 (L2H.cr_sumH ⟨p, hh, List.mem_cons_self⟩) sm_sum T.b_sum (by kernel_rfl) (toQ (toP (toS (d_lcH [("_law_flag", 3)] (.nm 3) ⟨p, hh, List.mem_cons_self⟩ sc_law_word.nd (dv_P (pv 1)) (blkOk_by (N := N_law_word) (sc := defScope s_law_word) (by decide +kernel)) (fun _ _ _ _ _ => (pg_name (i := 3) sc_law_word.nd rfl (Or.inl rfl))) (fun _ _ _ _ _ => (d_callT1 call_int1 sm_int T.b_int (by kernel_rfl) (toQ (toP (dv_S (pv 3))))))))))))) (toQ (toP dc_int)) (nomark _)) (t_or1 (t_not (t_val (toQ (toP (d_isE (call_isN (List.mem_cons_self) W.exc hc hd (hot_f hh)) T.b_isinstance (pv 0) (by exact pe_bltn (v := .ty "ValueError") rfl T.b_ValueError (by kernel_rfl) rfl) (by exact fun _ h => h) W.k_ValueError)))))))).pt (s_one (s_ret (toQ (toP dc_str)))) s_nil)
    (s_cons (s_new (i := 2) sc_law_word.nd (k_S (toS (d_lstn (an_cons dc_str (an_cons dc_str (an_cons dc_str (an_cons dc_str (an_cons dc_str (an_cons dc_str (an_cons dc_str (an_cons dc_str (an_cons dc_str an_nil)))))))))))))
    (s_one (s_ret (toQ (toP (d_ixS ix_seq sm_ix (toP (dv_S (pv 2))) (toP (d_index (roomh65 hr) (dv_P (pv 1)) (toQ (toP dc_bl))))))))))))))) hw
theorem has_law_calls_of (R : Raw K mg "_law_calls_of" s_law_calls_of) (T : Txt K mg C) (H_law_drawn : Has P w K mg base 1 "_law_drawn" ["_law_cell_here", "_law_k"] (spD K Tb C 2 m_law_drawn)) : Has P w K mg base 2 "_law_calls_of" ["_law_more"] (spD K Tb C 1 m_law_calls_of) :=
  has_D R (fun _ _ _ _ _ _ us hl => match us, hl with | [_], _ => rfl) sc_law_calls_of rfl fun cdv f A outer s H E O hr =>
    (s_cons (s_new (i := 1) sc_law_calls_of.nd (k_N (d_lstn an_nil)))
    (s_cons (s_for (.nm 2) (passes_of rfl) rfl (i_rng1 T.b_range (toQ (toP (d_op op_mod sm_mod (toQ (toP (dv_S (pv 0)))) (toQ (toP dc_int)))))) (pg_name (i := 2) sc_law_calls_of.nd rfl (Or.inl rfl)) (s_cons (s_new (i := 3) sc_law_calls_of.nd (k_S (d_callH H_law_drawn hr (passB (L2N.takes_of rfl rfl rfl rfl)) (an_cons (dv_S (pv 0)) (an_cons (d_opS op_plus sm_plus (toP dc_int) (toP (dv_S (pv 2)))) an_nil)))))
    (s_cons (s_par (i := 4) (j := 5) rfl sc_law_calls_of.nd (k_S (d_op op_mod sm_mod (toQ (toP (dv_S (pv 3)))) (toQ (toP (d_ixS ix_seq sm_ix (toP (toS (d_lstn (an_cons dc_int (an_cons dc_int an_nil))))) (toP (d_op op_mod sm_mod (toQ (toP (d_op op_fdivW sm_div (toQ (toP (dv_S (pv 0)))) (toQ (toP dc_int))))) (toQ (toP dc_int))))))))) (k_S (d_op op_mod sm_mod (toQ (toP (d_op op_fdivW sm_div (toQ (toP (dv_S (pv 3)))) (toQ (toP dc_int))))) (toQ (toP (d_ixS ix_seq sm_ix (toP (toS (d_lstn (an_cons dc_int (an_cons dc_int an_nil))))) (toP (d_op op_mod sm_mod (toQ (toP (d_op op_fdivW sm_div (toQ (toP (dv_S (pv 0)))) (toQ (toP dc_int))))) (toQ (toP dc_int))))))))) rfl)
    (s_cons (s_new (i := 6) sc_law_calls_of.nd (k_S (d_op op_mod sm_mod (toQ (toP (d_op op_fdivW sm_div (toQ (toP (dv_S (pv 3)))) (toQ (toP dc_int))))) (toQ (toP (d_ixS ix_seq sm_ix (toP (toS (d_lstn (an_cons dc_int (an_cons dc_int (an_cons dc_int an_nil)))))) (toP (d_op op_mod sm_mod (toQ (toP (d_op op_fdivW sm_div (toQ (toP (dv_S (pv 0)))) (toQ (toP dc_int))))) (toQ (toP dc_int))))))))))
    (s_cons (s_new (i := 7) sc_law_calls_of.nd (k_S (d_opS op_plus sm_plus (toP dc_int) (toP (d_op op_mod sm_mod (toQ (toP (d_op op_fdivW sm_div (toQ (toP (dv_S (pv 3)))) (toQ (toP (d_op op_pow sm_pow (toQ (toP dc_int)) (toQ (toP dc_int)))))))) (toQ (toP (d_ixS ix_seq sm_ix (toP (toS (d_lstn (an_cons dc_int (an_cons dc_int (an_cons dc_int an_nil)))))) (toP (d_op op_mod sm_mod (toQ (toP (d_op op_fdivW sm_div (toQ (toP (dv_S (pv 0)))) (toQ (toP dc_int))))) (toQ (toP dc_int))))))))))))
    (s_one (s_app (pv 1) (d_tupn (an_cons (dv_S (pv 4)) (an_cons (d_if (t_cmp (op_neD hr.units) sm_ne (toQ (toP (dv_S (pv 5)))) (toQ (toP (dv_S (pv 4)))) (nomark _)) (dv_S (pv 5)) (d_op op_sub sm_sub (toQ (toP dc_int)) (toQ (toP (dv_S (pv 4)))))) (an_cons (dv_S (pv 6)) (an_cons (dv_S (pv 7)) an_nil))))))))))))
    (s_one (s_ret (toQ (toP (toS (d_lc [("_law_call", 8)] (.nm 8) rfl sc_law_calls_of.nd (i_seqP (dv_P (pv 1))) (blkOk_by (N := N_law_calls_of) (sc := defScope s_law_calls_of) (by decide +kernel)) (fun _ _ _ _ _ => (pg_name (i := 8) sc_law_calls_of.nd rfl (Or.inl rfl))) (fun _ _ _ _ _ => (ts_one (t_cmp (op_neD hr.units) sm_ne (toQ (toP (d_ixS ix_seq sm_ix (toP (dv_S (pv 8))) (toP dc_int)))) (toQ (toP (d_ixS ix_seq sm_ix (toP (dv_S (pv 8))) (toP dc_int)))) (nomark _)))) (fun _ _ _ _ _ => (dv_S (pv 8)))))))))))
theorem has_law_carried (R : Raw K mg "_law_carried" s_law_carried) (T : Txt K mg C) : Has P w K mg base 1 "_law_carried" ["_law_calls", "_law_cords"] (spD K Tb C 2 m_law_carried) :=
  has_D R (fun _ _ _ _ _ _ us hl => match us, hl with | [_, _], _ => rfl) sc_law_carried rfl fun cdv f A outer s H E O hr =>
    (s_cons (s_setLc (i := 2) [("_law_call", 5)] (.nm 5) rfl sc_law_carried.nd (i_seqP (toP (dv_S (pv 0)))) (blkOk_by (N := N_law_carried) (sc := defScope s_law_carried) (by decide +kernel)) (fun _ _ _ _ _ => (pg_name (i := 5) sc_law_carried.nd rfl (Or.inl rfl))) (fun _ _ _ _ _ => ts_nil) (fun _ _ _ _ _ => dc_str) (sw_true rfl rfl rfl (by decide +kernel)))
    (s_cons (s_for (.nm 3) (passes_of rfl) rfl (i_seq (toS (d_sortSet rfl T.b_sorted T.b_set (toP (toS (d_lc [("_law_call", 5)] (.nm 5) rfl sc_law_carried.nd (i_seqP (toP (dv_S (pv 0)))) (blkOk_by (N := N_law_carried) (sc := defScope s_law_carried) (by decide +kernel)) (fun _ _ _ _ _ => (pg_name (i := 5) sc_law_carried.nd rfl (Or.inl rfl))) (fun _ _ _ _ _ => ts_nil) (fun _ _ _ _ _ => (d_ixS ix_seq sm_ix (toP (dv_S (pv 5))) (toP dc_int))))))))) (pg_name (i := 3) sc_law_carried.nd rfl (Or.inl rfl)) (s_one (s_for (.tp [4, 5]) (passes_of rfl) rfl (i_enum T.b_enumerate (dv_S (pv 0))) (pg_tup rfl (pgs_cons (pg_name (i := 4) sc_law_carried.nd rfl (Or.inl rfl)) (pgs_cons (pg_name (i := 5) sc_law_carried.nd rfl (Or.inr rfl)) pgs_nil))) (s_cons (s_if (t_cmp (op_neD hr.units) sm_ne (toQ (toP (d_ixS ix_seq sm_ix (toP (dv_S (pv 5))) (toP dc_int)))) (toQ (toP (dv_S (pv 3)))) (nomark _)) (s_one s_continue) s_nil)
    (s_cons (s_new (i := 6) sc_law_carried.nd (k_N (d_lstn an_nil)))
    (s_cons (s_for (.tp [7, 8]) (passes_of rfl) rfl (i_enum T.b_enumerate (dv_S (pv 0))) (pg_tup rfl (pgs_cons (pg_name (i := 7) sc_law_carried.nd rfl (Or.inl rfl)) (pgs_cons (pg_name (i := 8) sc_law_carried.nd rfl (Or.inl rfl)) pgs_nil))) (s_one (s_if ((t_and (t_val (toQ (toP (d_isi is_int T.b_isinstance T.b_int (by kernel_rfl) (toQ (toP (d_ixS ix_seq sm_ix (dv_P (pv 2)) (toP (dv_S (pv 7)))))))))) (t_and1 (t_chain op_le op_lt sm_le sm_lt (toQ (toP (d_ixS ix_seq sm_ix (toP (dv_S (pv 8))) (toP dc_int)))) (toQ (toP (dv_S (pv 3)))) (toQ (toP (d_opS op_plus sm_plus (toP (d_ixS ix_seq sm_ix (toP (dv_S (pv 8))) (toP dc_int))) (toP (d_ixS ix_seq sm_ix (toP (dv_S (pv 8))) (toP dc_int)))))))))).pt (s_one (s_app (pv 6) (d_tupn (an_cons (d_ixS ix_seq sm_ix (dv_P (pv 2)) (toP (dv_S (pv 7)))) (an_cons (d_ixS ix_seq sm_ix (toP (dv_S (pv 8))) (toP dc_int)) (an_cons (d_ixS ix_seq sm_ix (toP (dv_S (pv 8))) (toP dc_int)) an_nil)))))) s_nil)))
    (s_one (s_if (t_cmp (op_neD hr.units) sm_ne (toQ (toP (toS (d_lc [("_law_row", 10)] (.nm 10) rfl sc_law_carried.nd (i_seqP (dv_P (pv 6))) (blkOk_by (N := N_law_carried) (sc := defScope s_law_carried) (by decide +kernel)) (fun _ _ _ _ _ => (pg_name (i := 10) sc_law_carried.nd rfl (Or.inl rfl))) (fun _ _ _ _ _ => (ts_one ((t_or (t_cmp (op_inA (room65 hr)) sm_inA (toQ (toP (d_ixS ix_seq sm_ix (toP (dv_S (pv 5))) (toP dc_int)))) (toQ (toP (d_sl (toP (dv_S (pv 10))) (o_some (toQ (toP dc_int))) o_none))) rfl) (t_or1 (t_cmp (op_inA (room65 hr)) sm_inA (toQ (toP (d_ixS ix_seq sm_ix (toP (dv_S (pv 5))) (toP dc_int)))) (toQ (toP (d_sl (toP (dv_S (pv 10))) (o_some (toQ (toP dc_int))) o_none))) rfl)))).pt)) (fun _ _ _ _ _ => (dv_S (pv 10))))))) (toQ (toP (toS (d_lstn an_nil)))) (nomark _)) (s_one (s_put (pv 2) (toQ (toP (dv_S (pv 4)))) dc_str)) (s_cons (s_setLcF (i := 9) [("_law_cord", 11)] (.nm 11) rfl sc_law_carried.nd (i_rng1 T.b_range (toQ (toP (dv_S (pv 1))))) (blkOk_by (N := N_law_carried) (sc := defScope s_law_carried) (by decide +kernel)) (fun _ _ _ _ _ => (pg_name (i := 11) sc_law_carried.nd rfl (Or.inl rfl))) (fun _ _ _ _ _ => (ts_one (t_cmp (op_notInA (room65 hr)) sm_notInA (toQ (toP (dv_S (pv 11)))) (toQ (toP (toS (d_lc [("_law_row", 10)] (.nm 10) rfl sc_law_carried.nd (i_seqP (dv_P (pv 6))) (blkOk_by (N := N_law_carried) (by rfl)) (fun _ _ _ _ _ => (pg_name (i := 10) sc_law_carried.nd rfl (Or.inl rfl))) (fun _ _ _ _ _ => ts_nil) (fun _ _ _ _ _ => (d_ixS ix_seq sm_ix (toP (dv_S (pv 10))) (toP dc_int))))))) rfl))) (fun _ _ _ _ _ => (dv_S (pv 11))) (sw_true rfl rfl rfl (by decide +kernel)))
    (s_one (s_put (pv 2) (toQ (toP (dv_S (pv 4)))) (d_ixS ix_seq sm_ix (toP (toS (d_opN op_catR sm_cat (toP (dv_S (pv 9))) (toP (toS (d_lstn (an_cons dc_str an_nil))))))) (toP dc_int)))))))))))))
    (s_one (s_ret (toQ (dv_P (pv 2)))))))
theorem has_law {a c Pt : Addr} {fd : FuncData} (F : Fun K "law" "law" s_law a fd) (hcd : fd.code = .ref c) (TB : LamX.TabB base mg c Pt) (hmT : (Pt, ("law" : Str) ++ ".<locals>." ++ "<lambda>") ∈ Tb) (hu0 : ∀ p ∈ Tb, p.1 = Pt → p.2 = ("law" : Str) ++ ".<locals>." ++ "<lambda>") (T : Txt K mg C) (H_carried : Has P w K mg base 4 "carried" ["calls", "cords"] (spD K Tb C 2 m_carried)) (H_fewest : Has P w K mg base 4 "fewest" ["calls"] (spD K Tb C 1 m_fewest)) (H_greatest : Has P w K mg base 4 "greatest" ["calls"] (spD K Tb C 1 m_greatest)) (H_law_cell : Has P w K mg base 1 "_law_cell" ["_law_script", "_law_k"] (spCell K Tb m_law_cell)) (H_law_drawn : Has P w K mg base 1 "_law_drawn" ["_law_cell_here", "_law_k"] (spD K Tb C 2 m_law_drawn)) (H_law_told : TolX.ToldFn P w K mg base Tb C LS 4 "_law_told") (H_law_calls_of : Has P w K mg base 2 "_law_calls_of" ["_law_more"] (spD K Tb C 1 m_law_calls_of)) (H_law_carried : Has P w K mg base 1 "_law_carried" ["_law_calls", "_law_cords"] (spD K Tb C 2 m_law_carried)) (hm : ∀ ns : List Int, ns.length ≤ 63 → F_law (.scr ns :: List.replicate 17 .un) = .ok (.rt (.bool true))) : FnOk P w K mg base (L2N.CX P w) 7 a fd ["_law_script"] (spLaw K Tb) :=
  law_S rfl (def_Sc (C := C) F hcd sc_law rfl fun A outer s H E O hr =>
    (s_cons (s_for (.nm 1) (passes_of rfl) rfl (i_rng1 T.b_range (toQ (toP (d_call2 (call_max2 rfl) sm_max2 T.b_max (by kernel_rfl) (toQ (toP dc_int)) (toQ (toP (d_call2 (call_min2 rfl) sm_min2 T.b_min (by kernel_rfl) (toQ (toP dc_int)) (toQ (toP (d_scrLen T.b_len (pv 0))))))))))) (pg_name (i := 1) sc_law.nd rfl (Or.inl rfl)) (s_cons (s_new (i := 2) sc_law.nd (k_S (d_callH H_law_drawn hr (passB (L2N.takes_of rfl rfl rfl rfl)) (an_cons (d_cellH H_law_cell hr (pv 0) (toQ (toP (dv_S (pv 1))))) (an_cons (dv_S (pv 1)) an_nil)))))
    (s_cons (s_for (.nm 3) (passes_of rfl) rfl (i_rng1 T.b_range (toQ (toP dc_int))) (pg_name (i := 3) sc_law.nd rfl (Or.inl rfl)) (s_cons (s_new (i := 4) sc_law.nd (k_S (d_callH H_law_calls_of hr (passB (L2N.takes_of rfl rfl rfl rfl)) (an_cons (d_callH H_law_drawn hr (passB (L2N.takes_of rfl rfl rfl rfl)) (an_cons (dv_S (pv 2)) (an_cons (d_opS op_plus sm_plus (toP dc_int) (toP (dv_S (pv 3)))) an_nil))) an_nil))))
    (s_cons (s_new (i := 5) sc_law.nd (k_S (toS (d_lc [("_law_cords", 15)] (.nm 15) rfl sc_law.nd (i_rng1 T.b_range (toQ (toP dc_int))) (blkOk_by (N := N_law) (sc := defScope s_law) (by decide +kernel)) (fun _ _ _ _ _ => (pg_name (i := 15) sc_law.nd rfl (Or.inl rfl))) (fun _ _ _ _ _ => ts_nil) (fun _ _ _ _ _ => (d_callH H_law_carried hr passL (an_cons (dv_S (pv 4)) (an_cons (dv_S (pv 15)) an_nil))))))))
    (s_cons (s_if (t_cmp (op_neD hr.units) sm_ne (toQ (toP (toS (d_lc [("_law_cords", 15)] (.nm 15) rfl sc_law.nd (i_rng1 T.b_range (toQ (toP dc_int))) (blkOk_by (N := N_law) (sc := defScope s_law) (by decide +kernel)) (fun _ _ _ _ _ => (pg_name (i := 15) sc_law.nd rfl (Or.inl rfl))) (fun _ _ _ _ _ => ts_nil) (fun _ _ _ _ _ => (d_callH H_carried hr passL (an_cons (dv_S (pv 4)) (an_cons (dv_S (pv 15)) an_nil)))))))) (toQ (toP (d_sl (toP (dv_S (pv 5))) o_none (o_some (toQ (toP dc_int)))))) (nomark _)) (s_one (s_ret (toQ (toP dc_bl)))) s_nil)
    (s_cons (s_new (i := 6) sc_law.nd (k_S (d_ixS ix_seq sm_ix (toP (toS (d_lc [("_law_cords", 15)] (.nm 15) rfl sc_law.nd (i_rng1 T.b_range (toQ (toP dc_int))) (blkOk_by (N := N_law) (sc := defScope s_law) (by decide +kernel)) (fun _ _ _ _ _ => (pg_name (i := 15) sc_law.nd rfl (Or.inl rfl))) (fun _ _ _ _ _ => (ts_one (t_cmp (op_notInA (room65 hr)) sm_notInA (toQ (toP dc_str)) (toQ (toP (d_ixS ix_seq sm_ix (toP (dv_S (pv 5))) (toP (dv_S (pv 15)))))) rfl))) (fun _ _ _ _ _ => (dv_S (pv 15)))))) (toP dc_int))))
    (s_cons (s_if (t_cmp (op_neD hr.units) sm_ne (toQ (toP (d_callH H_fewest hr (passB (L2N.takes_of rfl rfl rfl rfl)) (an_cons (dv_S (pv 4)) an_nil)))) (toQ (toP (dv_S (pv 6)))) (nomark _)) (s_one (s_ret (toQ (toP dc_bl)))) s_nil)
    (s_cons (s_new (i := 7) sc_law.nd (k_N (d_lstn an_nil)))
    (s_cons (s_for (.nm 8) (passes_of rfl) rfl (i_seq (toS (d_sortSet rfl T.b_sorted T.b_set (toP (toS (d_lc [("_law_call", 16)] (.nm 16) rfl sc_law.nd (i_seqP (toP (dv_S (pv 4)))) (blkOk_by (N := N_law) (sc := defScope s_law) (by decide +kernel)) (fun _ _ _ _ _ => (pg_name (i := 16) sc_law.nd rfl (Or.inl rfl))) (fun _ _ _ _ _ => ts_nil) (fun _ _ _ _ _ => (d_ixS ix_seq sm_ix (toP (dv_S (pv 16))) (toP dc_int))))))))) (pg_name (i := 8) sc_law.nd rfl (Or.inr rfl)) (s_cons (s_setLcF (i := 9) [("_law_call", 16), ("_law_own", 17)] (.tp [16, 17]) rfl sc_law.nd (i_zipP T.b_zip (toP (dv_S (pv 4))) (toP (d_ixS ix_seq sm_ix (toP (dv_S (pv 5))) (toP dc_int)))) (blkOk_by (N := N_law) (sc := defScope s_law) (by decide +kernel)) (fun _ _ _ _ _ => (pg_tup rfl (pgs_cons (pg_name (i := 16) sc_law.nd rfl (Or.inl rfl)) (pgs_cons (pg_name (i := 17) sc_law.nd rfl (Or.inl rfl)) pgs_nil)))) (fun _ _ _ _ _ => (ts_one (t_chain op_le op_lt sm_le sm_lt (toQ (toP (d_ixS ix_seq sm_ix (toP (dv_S (pv 16))) (toP dc_int)))) (toQ (toP (dv_S (pv 8)))) (toQ (toP (d_opS op_plus sm_plus (toP (d_ixS ix_seq sm_ix (toP (dv_S (pv 16))) (toP dc_int))) (toP (d_ixS ix_seq sm_ix (toP (dv_S (pv 16))) (toP dc_int))))))))) (fun _ _ _ _ _ => (dv_S (pv 17))) (sw_true rfl rfl rfl (by decide +kernel)))
    (s_one (s_app (pv 7) (d_tupn (an_cons (d_call1 call_len sm_len T.b_len (by kernel_rfl) (toQ (toP (toS (d_lc [("_law_own", 17)] (.nm 17) rfl sc_law.nd (i_seqP (toP (dv_S (pv 9)))) (blkOk_by (N := N_law) (sc := defScope s_law) (by decide +kernel)) (fun _ _ _ _ _ => (pg_name (i := 17) sc_law.nd rfl (Or.inl rfl))) (fun _ _ _ _ _ => (ts_one (t_cmp (op_neD hr.units) sm_ne (toQ (toP (dv_S (pv 17)))) (toQ (toP dc_str)) (nomark _)))) (fun _ _ _ _ _ => (dv_S (pv 17)))))))) (an_cons (d_op op_sub sm_sub (toQ (toP dc_int)) (toQ (toP (dv_S (pv 8))))) an_nil)))))))
    (s_cons (s_new (i := 10) sc_law.nd (k_S (d_if (t_cmp (op_neD hr.units) sm_ne (toQ (dv_P (pv 7))) (toQ (toP (toS (d_lstn an_nil)))) (nomark _)) (d_tupn (an_cons (d_ixS ix_seq sm_ix (toP (d_callBS (cr_maxA rfl (room65 hr)) sm_maxA T.b_max (by kernel_rfl) (dv_P (pv 7)))) (toP dc_int)) (an_cons (d_op op_sub sm_sub (toQ (toP dc_int)) (toQ (toP (d_ixS ix_seq sm_ix (toP (d_callBS (cr_maxA rfl (room65 hr)) sm_maxA T.b_max (by kernel_rfl) (dv_P (pv 7)))) (toP dc_int))))) an_nil))) dc_non)))
    (s_one (s_if ((t_or (t_cmp (op_neD hr.units) sm_ne (toQ (toP (d_callH H_greatest hr (passB (L2N.takes_of rfl rfl rfl rfl)) (an_cons (dv_S (pv 4)) an_nil)))) (toQ (toP (dv_S (pv 10)))) (nomark _)) (t_or1 ((t_and (t_cmp op_notN sm_isnot (toQ (toP (dv_S (pv 10)))) (toQ (toP dc_non)) (nomark _)) (t_and1 (t_cmp (op_neD hr.units) sm_ne (toQ (toP (d_ixS ix_seq sm_ix (toP (dv_S (pv 10))) (toP dc_int)))) (toQ (toP (dv_S (pv 6)))) (nomark _))))).pt))).pt (s_one (s_ret (toQ (toP dc_bl)))) s_nil)))))))))))
    (s_cons (s_new (i := 11) sc_law.nd (k_S (d_tupn (an_cons dc_int (an_cons dc_int (an_cons dc_int (an_cons dc_int an_nil)))))))
    (s_cons (s_new (i := 12) sc_law.nd (k_S (toS (d_lstn (an_cons dc_non (an_cons (d_tupn (an_cons (dv_S (pv 11)) an_nil)) (an_cons (toS (d_opN op_repR sm_rep (toP (toS (d_lstn (an_cons (dv_S (pv 11)) an_nil)))) (toP dc_int))) (an_cons (toS (d_lstn (an_cons (toS (d_callTN call_list_of sm_list T.b_list (by kernel_rfl) (toP (dv_S (pv 11))))) an_nil))) (an_cons (toS (d_lstn (an_cons (d_tupn (an_cons dc_int (an_cons dc_int (an_cons dc_int (an_cons dc_int an_nil))))) an_nil))) (an_cons (toS (d_lstn (an_cons (d_tupn (an_cons dc_int (an_cons dc_int (an_cons dc_int (an_cons dc_int an_nil))))) an_nil))) (an_cons (toS (d_lstn (an_cons (d_tupn (an_cons (d_neg (toQ (toP dc_int))) (an_cons dc_int (an_cons dc_int (an_cons dc_int an_nil))))) an_nil))) an_nil)))))))))))
    (s_cons (s_for (.nm 13) (passes_of rfl) rfl (i_seq (toS (d_opN op_catR sm_cat (toP (dv_S (pv 12))) (toP (toS (d_lstn (an_cons (toS (d_lstn (an_cons (d_tupn (an_cons dc_int (an_cons dc_int (an_cons dc_int (an_cons dc_int an_nil))))) an_nil))) (an_cons (toS (d_lstn (an_cons (d_tupn (an_cons dc_int (an_cons dc_int (an_cons dc_int (an_cons dc_int an_nil))))) an_nil))) (an_cons (toS (d_lstn (an_cons (d_tupn (an_cons dc_int (an_cons dc_int (an_cons dc_int (an_cons dc_int an_nil))))) an_nil))) (an_cons (toS (d_lstn (an_cons (d_tupn (an_cons dc_bl (an_cons dc_int (an_cons dc_int (an_cons dc_int an_nil))))) an_nil))) (an_cons (toS (d_lstn (an_cons (d_tupn (an_cons dc_int (an_cons dc_int (an_cons dc_int an_nil)))) an_nil))) an_nil))))))))))) (pg_name (i := 13) sc_law.nd rfl (Or.inr rfl)) (s_cons (s_new (i := 14) sc_law.nd (k_N (d_lstn (an_cons (d_told (L := LS) H_law_told TB rfl hmT hu0 (hr.mono (by decide)) (LamX.lamS_by (sc := defScope s_law) (by decide +kernel)) (fun A outer s H E f c0 O H0 hr => (d_callH H_carried hr (passB (L2N.takes_of rfl rfl rfl rfl)) (an_cons (dv_S (pv 13)) (an_cons (d_neg (toQ (toP dc_int))) an_nil))))) an_nil))))
    (s_cons (s_app (pv 14) (d_told (L := LS) H_law_told TB rfl hmT hu0 (hr.mono (by decide)) (LamX.lamS_by (sc := defScope s_law) (by decide +kernel)) (fun A outer s H E f c0 O H0 hr => (d_callH H_fewest hr (passB (L2N.takes_of rfl rfl rfl rfl)) (an_cons (dv_S (pv 13)) an_nil)))))
    (s_cons (s_app (pv 14) (d_told (L := LS) H_law_told TB rfl hmT hu0 (hr.mono (by decide)) (LamX.lamS_by (sc := defScope s_law) (by decide +kernel)) (fun A outer s H E f c0 O H0 hr => (d_callH H_greatest hr (passB (L2N.takes_of rfl rfl rfl rfl)) (an_cons (dv_S (pv 13)) an_nil)))))
    (s_one (s_if (t_cmp (op_neD hr.units) sm_ne (toQ (dv_P (pv 14))) (toQ (toP (toS (d_opN op_repR sm_rep (toP (toS (d_lstn (an_cons dc_str an_nil)))) (toP dc_int))))) (nomark _)) (s_one (s_ret (toQ (toP dc_bl)))) s_nil))))))
    (s_one (s_if (t_cmp (op_neD hr.units) sm_ne (toQ (toP (toS (d_lc [("_law_bad", 13)] (.nm 13) rfl sc_law.nd (i_seqP (toP (toS (d_lstn (an_cons (d_neg (toQ (toP dc_int))) (an_cons dc_int (an_cons dc_non (an_cons dc_bl an_nil)))))))) (blkOk_by (N := N_law) (sc := defScope s_law) (by decide +kernel)) (fun _ _ _ _ _ => (pg_name (i := 13) sc_law.nd rfl (Or.inr rfl))) (fun _ _ _ _ _ => ts_nil) (fun _ _ _ _ _ => (d_told (L := LS) H_law_told TB rfl hmT hu0 (hr.mono (by decide)) (LamX.lamS_by (by rfl)) (fun A outer s H E f c0 O H0 hr => (d_callH H_carried hr (passB (L2N.takes_of rfl rfl rfl rfl)) (an_cons (toS (d_lstn an_nil)) (an_cons (dv_S (pv 13)) an_nil)))))))))) (toQ (toP (toS (d_opN op_repR sm_rep (toP (toS (d_lstn (an_cons dc_str an_nil)))) (toP dc_int))))) (nomark _)) (s_one (s_ret (toQ (toP dc_bl)))) s_nil))))))))
    (s_one (s_ret (toQ (toP dc_bl)))))) hm
end
end K30

/-! # Calls of told hours, put through one after another: plain -/
namespace HR
structure C4 where
  a : Int
  b : Int
  t : Int
  s : Int
inductive R where
  | cord (k : Nat)
  | busy
  | none
deriving DecidableEq
structure Tr where
  k : Nat
  a : Int
  b : Int
def free (n : Nat) (l : List Tr) : List Nat := (List.range n).filter fun k => decide (k ∉ l.map Tr.k)
def lines (l : List Tr) : List Int := l.map Tr.a ++ l.map Tr.b
def dec (n : Nat) (l : List Tr) (c : C4) : R := if c.a ∈ lines l ∨ c.b ∈ lines l then .busy else match free n l with
  | [] => .none
  | k :: _ => .cord k
abbrev CR := C4 × R
def live (t : Int) (p : CR) : Option Tr := match p.2 with
  | .cord k => if t < p.1.t + p.1.s then some ⟨k, p.1.a, p.1.b⟩ else none
  | _ => none
def held (t : Int) (done : List CR) : List Tr := done.filterMap (live t)
def stp (n : Nat) (done : List CR) (c : C4) : List CR := done ++ [(c, dec n (held c.t done) c)]
def run (n : Nat) (cs : List C4) : List CR := cs.foldl (stp n) []
theorem run_snoc (n : Nat) (cs : List C4) (c : C4) : run n (cs ++ [c]) = run n cs ++ [(c, dec n (held c.t (run n cs)) c)] := by
  simp [run, stp, List.foldl_append]
theorem run_nil (n : Nat) : run n [] = [] := rfl
def res (n : Nat) (cs : List C4) : List R := (run n cs).map (·.2)
/-- induction from behind -/
theorem snoc_ind {α : Type} {P : List α → Prop} (h0 : P []) (hs : ∀ l a, P l → P (l ++ [a])) (l : List α) : P l := by
  have : ∀ n (l : List α), l.length = n → P l := by
    intro n
    induction n with
    | zero => intro l h; rw [List.eq_nil_of_length_eq_zero h]; exact h0
    | succ n ih =>
      intro l h
      have hne : l ≠ [] := by intro z; rw [z] at h; cases h
      rw [← List.dropLast_concat_getLast hne]
      exact hs _ _ (ih _ (by rw [List.length_dropLast]; omega))
  exact this _ l rfl
theorem run_fst (n : Nat) (cs : List C4) : (run n cs).map (·.1) = cs := by
  induction cs using snoc_ind with
  | h0 => rfl
  | hs l a ih => rw [run_snoc, List.map_append, ih]; rfl
theorem run_len (n : Nat) (cs : List C4) : (run n cs).length = cs.length := by
  rw [← List.length_map (f := fun (p : CR) => p.1), run_fst]
theorem res_snoc (n : Nat) (cs : List C4) (c : C4) : res n (cs ++ [c]) = res n cs ++ [dec n (held c.t (run n cs)) c] := by
  simp [res, run_snoc]
theorem res_len (n : Nat) (cs : List C4) : (res n cs).length = cs.length := by simp [res, run_len]
/-! ### what is decided -/
theorem mem_free {n : Nat} {l : List Tr} {k : Nat} : k ∈ free n l ↔ k < n ∧ k ∉ l.map Tr.k := by simp [free]
theorem head_filter {p : Nat → Bool} : ∀ (n : Nat) {k : Nat} {r : List Nat}, (List.range n).filter p = k :: r → k < n ∧ p k = true ∧ ∀ j, j < k → p j = false := by
  intro n
  induction n with
  | zero => intro k r h; simp at h
  | succ n ih =>
    intro k r h
    rw [List.range_succ, List.filter_append] at h
    cases hf : (List.range n).filter p with
    | nil =>
      rw [hf, List.nil_append] at h
      cases hp : p n with
      | false => simp [hp] at h
      | true =>
        simp [hp] at h
        obtain ⟨rfl, _⟩ := h
        refine ⟨by omega, hp, fun j hj => ?_⟩
        have := List.filter_eq_nil_iff.mp hf j (List.mem_range.mpr hj)
        simpa using this
    | cons a b =>
      rw [hf] at h
      simp at h
      obtain ⟨rfl, _⟩ := h
      obtain ⟨h1, h2, h3⟩ := ih hf
      exact ⟨by omega, h2, h3⟩
def isBusy (l : List Tr) (c : C4) : Prop := c.a ∈ lines l ∨ c.b ∈ lines l
theorem dec_cases (n : Nat) (l : List Tr) (c : C4) : (isBusy l c ∧ dec n l c = .busy) ∨ (¬ isBusy l c ∧ dec n l c = .none ∧ ∀ j, j < n → j ∈ l.map Tr.k) ∨
    ∃ k, ¬ isBusy l c ∧ dec n l c = .cord k ∧ k < n ∧ k ∉ l.map Tr.k ∧ ∀ j, j < k → j ∈ l.map Tr.k := by
  unfold dec
  by_cases h : c.a ∈ lines l ∨ c.b ∈ lines l
  · exact .inl ⟨h, if_pos h⟩
  · rw [if_neg h]
    cases hf : free n l with
    | nil =>
      refine .inr (.inl ⟨h, rfl, fun j hj => ?_⟩)
      have := List.filter_eq_nil_iff.mp hf j (List.mem_range.mpr hj)
      simpa using this
    | cons k r =>
      obtain ⟨h1, h2, h3⟩ := head_filter n hf
      refine .inr (.inr ⟨k, h, rfl, h1, by simpa using h2, fun j hj => by simpa using h3 j hj⟩)
theorem dec_busy {n : Nat} {l : List Tr} {c : C4} (h : isBusy l c) : dec n l c = .busy := if_pos h
theorem dec_cord {n k : Nat} {l : List Tr} {c : C4} (h : ¬ isBusy l c) (h1 : k < n) (h2 : k ∉ l.map Tr.k) (h3 : ∀ j, j < k → j ∈ l.map Tr.k) : dec n l c = .cord k := by
  rcases dec_cases n l c with ⟨a, _⟩ | ⟨_, _, b⟩ | ⟨k', _, e, b1, b2, b3⟩
  · exact absurd a h
  · exact absurd (b k h1) h2
  · rcases Nat.lt_trichotomy k k' with z | z | z
    · exact absurd (b3 k z) h2
    · rw [z]; exact e
    · exact absurd (h3 k' z) b2
theorem dec_none {n : Nat} {l : List Tr} {c : C4} (h : ¬ isBusy l c) (h3 : ∀ j, j < n → j ∈ l.map Tr.k) : dec n l c = .none := by
  rcases dec_cases n l c with ⟨a, _⟩ | ⟨_, e, b⟩ | ⟨k', _, e, b1, b2, b3⟩
  · exact absurd a h
  · exact e
  · exact absurd (h3 k' b1) b2
theorem dec_congr {n : Nat} {l l' : List Tr} {c : C4} (h : ∀ x, x ∈ l ↔ x ∈ l') : dec n l c = dec n l' c := by
  have e1 : ∀ k, k ∈ l.map Tr.k ↔ k ∈ l'.map Tr.k := fun k => by simp [List.mem_map, h]
  have e2 : ∀ k, k ∈ lines l ↔ k ∈ lines l' := fun k => by simp [lines, List.mem_append, List.mem_map, h]
  have e3 : isBusy l c ↔ isBusy l' c := by unfold isBusy; rw [e2, e2]
  rcases dec_cases n l c with ⟨a, e⟩ | ⟨a, e, b⟩ | ⟨k', a, e, b1, b2, b3⟩
  · rw [e, dec_busy (e3.mp a)]
  · rw [e, dec_none (fun z => a (e3.mpr z)) fun j hj => (e1 j).mp (b j hj)]
  · rw [e, dec_cord (fun z => a (e3.mpr z)) b1 (fun z => b2 ((e1 _).mpr z)) fun j hj => (e1 j).mp (b3 j hj)]
/-- with fewer cords: the same, as long as the cord is among them -/
theorem dec_less {n m k : Nat} {l : List Tr} {c : C4} (h : dec n l c = .cord k) (hk : k < m) : dec m l c = .cord k := by
  rcases dec_cases n l c with ⟨a, e⟩ | ⟨a, e, b⟩ | ⟨k', a, e, b1, b2, b3⟩
  · rw [e] at h; cases h
  · rw [e] at h; cases h
  · rw [e] at h
    cases h
    exact dec_cord a hk b2 b3
theorem dec_lost {n m k : Nat} {l : List Tr} {c : C4} (h : dec n l c = .cord k) (hk : m ≤ k) : dec m l c = .none := by
  rcases dec_cases n l c with ⟨a, e⟩ | ⟨a, e, b⟩ | ⟨k', a, e, b1, b2, b3⟩
  · rw [e] at h; cases h
  · rw [e] at h; cases h
  · rw [e] at h
    cases h
    exact dec_none a fun j hj => b3 j (by omega)
theorem dec_busy_iff {n m : Nat} {l : List Tr} {c : C4} (h : dec n l c = .busy) : dec m l c = .busy := by
  rcases dec_cases n l c with ⟨a, e⟩ | ⟨a, e, b⟩ | ⟨k', a, e, b1, b2, b3⟩
  · exact dec_busy a
  · rw [e] at h; cases h
  · rw [e] at h; cases h
/-! ### who is held -/
theorem mem_held {t : Int} {done : List CR} {x : Tr} : x ∈ held t done ↔ ∃ p ∈ done, p.2 = .cord x.k ∧ p.1.a = x.a ∧ p.1.b = x.b ∧ t < p.1.t + p.1.s := by
  unfold held
  rw [List.mem_filterMap]
  constructor
  · rintro ⟨p, hp, h⟩
    unfold live at h
    split at h
    · rename_i k e
      split at h
      · rename_i hl
        cases h
        exact ⟨p, hp, e, rfl, rfl, hl⟩
      · cases h
    · cases h
  · rintro ⟨p, hp, e, ea, eb, hl⟩
    refine ⟨p, hp, ?_⟩
    unfold live
    rw [e]
    simp only [if_pos hl, ea, eb]
theorem mem_heldk {t : Int} {done : List CR} {k : Nat} : k ∈ (held t done).map Tr.k ↔ ∃ p ∈ done, p.2 = .cord k ∧ t < p.1.t + p.1.s := by
  rw [List.mem_map]
  constructor
  · rintro ⟨x, hx, rfl⟩
    obtain ⟨p, hp, e, _, _, hl⟩ := mem_held.mp hx
    exact ⟨p, hp, e, hl⟩
  · rintro ⟨p, hp, e, hl⟩
    exact ⟨⟨k, p.1.a, p.1.b⟩, mem_held.mpr ⟨p, hp, e, rfl, rfl, hl⟩, rfl⟩
theorem held_app (t : Int) (l l' : List CR) : held t (l ++ l') = held t l ++ held t l' := by simp [held]
theorem held_sub {t t' : Int} (h : t ≤ t') (l : List CR) : (held t' l).Sublist (held t l) := by
  unfold held
  induction l with
  | nil => exact .slnil
  | cons p l ih =>
    rw [List.filterMap_cons, List.filterMap_cons]
    cases e' : live t' p with
    | none =>
      simp only
      cases e : live t p with
      | none => exact ih
      | some x => exact ih.cons x
    | some x =>
      have e2 : live t p = some x := by
        unfold live at e' ⊢
        split at e'
        · rename_i k ek
          split at e'
          · rw [if_pos (by omega)]; exact e'
          · cases e'
        · cases e'
      rw [e2]
      exact ih.cons_cons x
/-! ### in order -/
def Ord (cs : List C4) : Prop := cs.Pairwise fun x y => x.t ≤ y.t
theorem Ord.init {cs : List C4} {c : C4} (h : Ord (cs ++ [c])) : Ord cs ∧ ∀ x ∈ cs, x.t ≤ c.t := by
  unfold Ord at h
  rw [List.pairwise_append] at h
  exact ⟨h.1, fun x hx => h.2.2 x hx c (List.mem_singleton.mpr rfl)⟩
theorem res_none_mono {n : Nat} {cs : List C4} {c : C4} (h : R.none ∈ res n cs) : R.none ∈ res n (cs ++ [c]) := by
  rw [res_snoc]
  exact List.mem_append_left _ h
/-- no cord beyond m, nobody lost: with m cords all is the same -/
theorem run_less {n m : Nat} {cs : List C4} (h : ∀ r ∈ res n cs, r = .busy ∨ ∃ k, k < m ∧ r = .cord k) : run m cs = run n cs := by
  induction cs using snoc_ind with
  | h0 => rfl
  | hs l c ih =>
    rw [res_snoc] at h
    have e := ih fun r hr => h r (List.mem_append_left _ hr)
    rw [run_snoc, run_snoc, e]
    have hr := h _ (List.mem_append_right _ (List.mem_singleton.mpr rfl))
    rcases hr with hr | ⟨k, hk, hr⟩
    · rw [hr, dec_busy_iff hr]
    · rw [hr, dec_less hr hk]
theorem res_less {n m : Nat} {cs : List C4} (h : ∀ r ∈ res n cs, r = .busy ∨ ∃ k, k < m ∧ r = .cord k) : res m cs = res n cs := by
  unfold res
  rw [run_less h]
/-- with too few cords one is lost -/
theorem lost {n m : Nat} {cs : List C4} (hn : R.none ∉ res n cs) {k : Nat} (hk : m ≤ k) (h : R.cord k ∈ res n cs) : R.none ∈ res m cs := by
  induction cs using snoc_ind generalizing k with
  | h0 => cases h
  | hs l c ih =>
    have hn' : R.none ∉ res n l := fun z => hn (res_none_mono z)
    by_cases hex : ∃ j, m ≤ j ∧ R.cord j ∈ res n l
    · obtain ⟨j, hj, h1⟩ := hex
      exact res_none_mono (ih hn' hj h1)
    · have hall : ∀ r ∈ res n l, r = .busy ∨ ∃ j, j < m ∧ r = .cord j := fun r hr => by
        cases r with
        | busy => exact .inl rfl
        | none => exact absurd hr hn'
        | cord j =>
          refine .inr ⟨j, ?_, rfl⟩
          apply Nat.lt_of_not_le
          exact fun z => hex ⟨j, z, hr⟩
      have hm : R.cord k ∉ res n l := fun z => hex ⟨k, hk, z⟩
      rw [res_snoc] at h ⊢
      rcases List.mem_append.mp h with h | h
      · exact absurd h hm
      · have e := List.mem_singleton.mp h
        rw [run_less hall, dec_lost e.symm hk]
        exact List.mem_append_right _ (List.mem_singleton.mpr rfl)
/-- below a cord that is given all are given -/
theorem down {n : Nat} {cs : List C4} {k j : Nat} (h : R.cord k ∈ res n cs) (hj : j < k) : R.cord j ∈ res n cs := by
  induction cs using snoc_ind with
  | h0 => cases h
  | hs l c ih =>
    rw [res_snoc] at h ⊢
    rcases List.mem_append.mp h with h | h
    · exact List.mem_append_left _ (ih h)
    · have e := List.mem_singleton.mp h
      rcases dec_cases n (held c.t (run n l)) c with ⟨a, e'⟩ | ⟨a, e', b⟩ | ⟨k', a, e', b1, b2, b3⟩
      · rw [e'] at e; cases e
      · rw [e'] at e; cases e
      · rw [e'] at e
        cases e
        obtain ⟨p, hp, hr, _⟩ := mem_heldk.mp (b3 j hj)
        refine List.mem_append_left _ ?_
        unfold res
        rw [← hr]
        exact List.mem_map_of_mem hp
theorem cord_lt {n : Nat} {cs : List C4} {k : Nat} (h : R.cord k ∈ res n cs) : k < n := by
  induction cs using snoc_ind with
  | h0 => cases h
  | hs l c ih =>
    rw [res_snoc] at h
    rcases List.mem_append.mp h with h | h
    · exact ih h
    · have e := List.mem_singleton.mp h
      rcases dec_cases n (held c.t (run n l)) c with ⟨a, e'⟩ | ⟨a, e', b⟩ | ⟨k', a, e', b1, b2, b3⟩
      · rw [e'] at e; cases e
      · rw [e'] at e; cases e
      · rw [e'] at e
        cases e
        exact b1
/-! ### lines and cords of those that are held are unlike -/
def lns (l : List Tr) : List Int := l.flatMap fun x => [x.a, x.b]
theorem mem_lns {l : List Tr} {i : Int} : i ∈ lns l ↔ i ∈ lines l := by
  simp only [lns, lines, List.mem_flatMap, List.mem_append, List.mem_map, List.mem_cons, List.not_mem_nil, or_false]
  constructor
  · rintro ⟨x, hx, h | h⟩
    · exact .inl ⟨x, hx, h.symm⟩
    · exact .inr ⟨x, hx, h.symm⟩
  · rintro (⟨x, hx, h⟩ | ⟨x, hx, h⟩)
    · exact ⟨x, hx, .inl h.symm⟩
    · exact ⟨x, hx, .inr h.symm⟩
theorem sub_flatMap {l l' : List Tr} (h : l.Sublist l') : (lns l).Sublist (lns l') := by
  induction h with
  | slnil => exact .slnil
  | cons a _ ih => exact (List.sublist_append_of_sublist_right ih)
  | cons_cons a _ ih => exact List.Sublist.append (List.Sublist.refl _) ih
theorem held_ok {n : Nat} {cs : List C4} (ho : Ord cs) (hne : ∀ c ∈ cs, c.a ≠ c.b) (t : Int) (ht : ∀ c ∈ cs, c.t ≤ t) : (lns (held t (run n cs))).Nodup ∧ ((held t (run n cs)).map Tr.k).Nodup := by
  induction cs using snoc_ind generalizing t with
  | h0 => exact ⟨List.nodup_nil, List.nodup_nil⟩
  | hs l c ih =>
    obtain ⟨ho1, ho2⟩ := ho.init
    have hc : c.t ≤ t := ht c (by simp)
    obtain ⟨i1, i2⟩ := ih ho1 (fun x hx => hne x (by simp [hx])) c.t ho2
    have sub : (held t (run n l)).Sublist (held c.t (run n l)) := held_sub hc _
    have j1 := i1.sublist (sub_flatMap sub)
    have j2 := i2.sublist (sub.map Tr.k)
    rw [run_snoc, held_app]
    rcases dec_cases n (held c.t (run n l)) c with ⟨a, e⟩ | ⟨a, e, b⟩ | ⟨k', a, e, b1, b2, b3⟩
    · have e0 : held t [(c, R.busy)] = [] := rfl
      rw [e, e0, List.append_nil]
      exact ⟨j1, j2⟩
    · have e0 : held t [(c, R.none)] = [] := rfl
      rw [e, e0, List.append_nil]
      exact ⟨j1, j2⟩
    · rw [e]
      by_cases hl : t < c.t + c.s
      · have el : held t [(c, R.cord k')] = [⟨k', c.a, c.b⟩] := by simp [held, live, hl]
        rw [el]
        constructor
        · unfold lns
          rw [List.flatMap_append]
          rw [List.nodup_append]
          refine ⟨j1, ?_, fun x hx y hy => ?_⟩
          · simp [hne c (by simp)]
          · have hx2 : x ∈ lines (held c.t (run n l)) := mem_lns.mp ((sub_flatMap sub).subset hx)
            simp at hy
            rintro rfl
            rcases hy with rfl | rfl
            · exact a (.inl hx2)
            · exact a (.inr hx2)
        · rw [List.map_append, List.nodup_append]
          refine ⟨j2, by simp, fun x hx y hy => ?_⟩
          simp at hy
          rintro rfl
          rw [hy] at hx
          exact b2 ((sub.map Tr.k).subset hx)
      · have el : held t [(c, R.cord k')] = [] := by simp [held, live, hl]
        rw [el, List.append_nil]
        exact ⟨j1, j2⟩
theorem nodup_le {α : Type} [BEq α] [LawfulBEq α] : ∀ (l ks : List α), ks.Nodup → (∀ k ∈ ks, k ∈ l) → ks.length ≤ l.length
  | [], ks, _, h => by
    cases ks with
    | nil => exact Nat.le_refl _
    | cons k r => have := h k List.mem_cons_self; cases this
  | a :: l, ks, hn, h => by
    have ih := nodup_le l (ks.erase a) (hn.erase a) fun k hk => by
      have h1 := List.mem_of_mem_erase hk
      rcases List.mem_cons.mp (h k h1) with e | e
      · subst e
        exact absurd hk (List.Nodup.not_mem_erase hn)
      · exact e
    rw [List.length_erase] at ih
    rw [List.length_cons]
    split at ih <;> omega
theorem lns_len (l : List Tr) : (lns l).length = 2 * l.length := by
  induction l with
  | nil => rfl
  | cons x l ih => simp only [lns, List.flatMap_cons, List.length_append, List.length_cons, List.length_nil] at ih ⊢; omega
structure COk (c : C4) : Prop where
  a : 0 ≤ c.a ∧ c.a ≤ 19
  b : 0 ≤ c.b ∧ c.b ≤ 19
  ne : c.a ≠ c.b
  s : 0 < c.s
theorem held_few {n : Nat} {cs : List C4} (ho : Ord cs) (hok : ∀ c ∈ cs, COk c) (t : Int) (ht : ∀ c ∈ cs, c.t ≤ t) : (held t (run n cs)).length ≤ 10 := by
  have h := (held_ok (n := n) ho (fun c hc => (hok c hc).ne) t ht).1
  have h2 := nodup_le ((List.range 20).map fun (i : Nat) => (i : Int)) _ h fun i hi => by
    obtain ⟨x, hx, hi⟩ := List.mem_flatMap.mp hi
    obtain ⟨p, hp, _, ea, eb, _⟩ := mem_held.mp hx
    have hc := hok p.1 (by rw [← run_fst n cs]; exact List.mem_map_of_mem hp)
    have := hc.a
    have := hc.b
    simp at hi
    rw [List.mem_map]
    refine ⟨i.toNat, List.mem_range.mpr ?_, ?_⟩ <;> omega
  rw [lns_len, List.length_map, List.length_range] at h2
  omega
/-- with more than ten cords nobody is lost -/
theorem none_lost {n : Nat} (hn : 10 < n) {cs : List C4} (ho : Ord cs) (hok : ∀ c ∈ cs, COk c) : R.none ∉ res n cs := by
  induction cs using snoc_ind with
  | h0 => intro h; cases h
  | hs l c ih =>
    obtain ⟨ho1, ho2⟩ := ho.init
    have hok1 : ∀ x ∈ l, COk x := fun x hx => hok x (by simp [hx])
    rw [res_snoc]
    intro h
    rcases List.mem_append.mp h with h | h
    · exact ih ho1 hok1 h
    · have e := List.mem_singleton.mp h
      rcases dec_cases n (held c.t (run n l)) c with ⟨a, e'⟩ | ⟨a, e', b⟩ | ⟨k', a, e', b1, b2, b3⟩
      · rw [e'] at e; cases e
      · have h3 := held_few (n := n) ho1 hok1 c.t ho2
        have h4 := nodup_le ((held c.t (run n l)).map Tr.k) (List.range n) List.nodup_range fun j hj => b j (List.mem_range.mp hj)
        rw [List.length_map, List.length_range] at h4
        omega
      · rw [e'] at e; cases e
/-! ### the fewest -/
def cordOf : R → Nat
  | .cord k => k + 1
  | _ => 0
def need (rs : List R) : Nat := rs.foldl (fun m r => max m (cordOf r)) 0
theorem need_snoc (rs : List R) (r : R) : need (rs ++ [r]) = max (need rs) (cordOf r) := by simp [need, List.foldl_append]
theorem need_le {rs : List R} {k : Nat} (h : R.cord k ∈ rs) : k < need rs := by
  induction rs using snoc_ind with
  | h0 => cases h
  | hs l c ih =>
    rw [need_snoc]
    rcases List.mem_append.mp h with h | h
    · have := ih h; omega
    · have e := List.mem_singleton.mp h
      rw [← e]
      simp only [cordOf]
      omega
theorem need_at {rs : List R} (h : 0 < need rs) : R.cord (need rs - 1) ∈ rs := by
  induction rs using snoc_ind with
  | h0 => simp [need] at h
  | hs l c ih =>
    rw [need_snoc] at h ⊢
    by_cases e : cordOf c ≤ need l
    · have e2 : max (need l) (cordOf c) = need l := by omega
      rw [e2] at h ⊢
      exact List.mem_append_left _ (ih h)
    · have e2 : max (need l) (cordOf c) = cordOf c := by omega
      rw [e2] at h ⊢
      cases c with
      | cord k => exact List.mem_append_right _ (by simp [cordOf])
      | busy => simp [cordOf] at h
      | none => simp [cordOf] at h
section
variable {cs : List C4} (ho : Ord cs) (hok : ∀ c ∈ cs, COk c)
include ho hok
theorem all20 : ∀ r ∈ res 20 cs, r = .busy ∨ ∃ k, k < need (res 20 cs) ∧ r = .cord k := fun r hr => by
  cases r with
  | busy => exact .inl rfl
  | none => exact absurd hr (none_lost (by decide) ho hok)
  | cord k => exact .inr ⟨k, need_le hr, rfl⟩
theorem enough {n : Nat} (h : need (res 20 cs) ≤ n) : run n cs = run 20 cs := run_less fun r hr => by
  rcases all20 ho hok r hr with h1 | ⟨k, h1, h2⟩
  · exact .inl h1
  · exact .inr ⟨k, by omega, h2⟩
theorem enough_res {n : Nat} (h : need (res 20 cs) ≤ n) : res n cs = res 20 cs := by
  unfold res at h ⊢
  rw [enough ho hok h]
theorem few {n : Nat} (h : n < need (res 20 cs)) : R.none ∈ res n cs := lost (none_lost (by decide) ho hok) (k := need (res 20 cs) - 1) (by omega) (need_at (by omega))
theorem none_iff {n : Nat} : R.none ∈ res n cs ↔ n < need (res 20 cs) := by
  constructor
  · intro h
    apply Nat.lt_of_not_le
    intro z
    rw [enough_res ho hok z] at h
    exact none_lost (by decide) ho hok h
  · exact few ho hok
theorem given_iff {k : Nat} : R.cord k ∈ res 20 cs ↔ k < need (res 20 cs) := by
  constructor
  · exact need_le
  · intro h
    have h1 := need_at (rs := res 20 cs) (by omega)
    by_cases e : k = need (res 20 cs) - 1
    · rw [e]; exact h1
    · exact down h1 (by omega)
end
/-! ### how many at once -/
def at1 (t : Int) (p : CR) : Bool := decide (p.2 ≠ .busy) && (decide (p.1.t ≤ t) && decide (t < p.1.t + p.1.s))
theorem run_pair {n : Nat} {cs : List C4} : (run n cs).Pairwise fun p q => ∀ k, p.2 = .cord k → q.2 = .cord k → ¬ q.1.t < p.1.t + p.1.s := by
  induction cs using snoc_ind with
  | h0 => exact .nil
  | hs l c ih =>
    rw [run_snoc, List.pairwise_append]
    refine ⟨ih, List.pairwise_singleton _ _, fun p hp q hq k h1 h2 h3 => ?_⟩
    rw [List.mem_singleton.mp hq] at h2 h3
    rcases dec_cases n (held c.t (run n l)) c with ⟨a, e'⟩ | ⟨a, e', b⟩ | ⟨k', a, e', b1, b2, b3⟩
    · simp only at h2; rw [e'] at h2; cases h2
    · simp only at h2; rw [e'] at h2; cases h2
    · simp only at h2
      rw [e'] at h2
      cases h2
      exact b2 (mem_heldk.mpr ⟨p, hp, h1, h3⟩)
theorem run_ord {n : Nat} {cs : List C4} (ho : Ord cs) : (run n cs).Pairwise fun p q => p.1.t ≤ q.1.t := by
  have h : ((run n cs).map (·.1)).Pairwise fun x y : C4 => x.t ≤ y.t := by rw [run_fst]; exact ho
  exact (List.pairwise_map (R := fun x y : C4 => x.t ≤ y.t)).mp h
theorem at_most {cs : List C4} (ho : Ord cs) (hok : ∀ c ∈ cs, COk c) (t : Int) : ((run 20 cs).filter (at1 t)).length ≤ need (res 20 cs) := by
  have h1 : (((run 20 cs).filter (at1 t)).map fun p => cordOf p.2 - 1).Nodup := by
    rw [List.Nodup, List.pairwise_map]
    have hp := (List.Pairwise.and_mem.mp ((run_pair (n := 20) (cs := cs)).and (run_ord ho))).filter (p := at1 t)
    have hm := List.Pairwise.and_mem.mp hp
    refine hm.imp fun {p q} ⟨m1, m2, m3, m4, h1, h2⟩ e => ?_
    have f1 := (List.mem_filter.mp m1).2
    have f2 := (List.mem_filter.mp m2).2
    simp only [at1, Bool.and_eq_true, decide_eq_true_eq] at f1 f2
    have q1 : p.2 ∈ res 20 cs := List.mem_map_of_mem m3
    have q2 : q.2 ∈ res 20 cs := List.mem_map_of_mem m4
    rcases all20 ho hok _ q1 with z | ⟨k, hk, z⟩
    · exact f1.1 z
    · rcases all20 ho hok _ q2 with z' | ⟨k', hk', z'⟩
      · exact f2.1 z'
      · rw [z, z'] at e
        simp only [cordOf, Nat.add_sub_cancel] at e
        subst e
        exact h1 k z z' (by omega)
  have h2 := nodup_le (List.range (need (res 20 cs))) _ h1 fun k hk => by
    obtain ⟨p, hp, rfl⟩ := List.mem_map.mp hk
    obtain ⟨m1, f1⟩ := List.mem_filter.mp hp
    simp only [at1, Bool.and_eq_true, decide_eq_true_eq] at f1
    rcases all20 ho hok _ (List.mem_map_of_mem m1) with z | ⟨k, hk, z⟩
    · exact absurd z f1.1
    · rw [z]
      exact List.mem_range.mpr (by simpa [cordOf] using hk)
  rwa [List.length_map, List.length_range] at h2
end HR

/-! # By their places -/
namespace HR
def call (cs : List C4) (i : Nat) : C4 := cs.getD i ⟨0, 0, 0, 0⟩
def psOf (n : Nat) (cs : List C4) (is : List Nat) : List (Nat × R) := is.zip (res n (is.map (call cs)))
def look? (ps : List (Nat × R)) (i : Nat) : Option R := (ps.find? fun p => p.1 == i).map (·.2)
theorem zip_snoc {α β : Type} : ∀ (l : List α) (m : List β) (a : α) (b : β), l.length = m.length → (l ++ [a]).zip (m ++ [b]) = l.zip m ++ [(a, b)] := fun l m a b h => by
  rw [List.zip_append h]; rfl
theorem psOf_snoc (n : Nat) (cs : List C4) (is : List Nat) (i : Nat) : psOf n cs (is ++ [i]) = psOf n cs is ++ [(i, dec n (held (call cs i).t (run n (is.map (call cs)))) (call cs i))] := by
  unfold psOf
  rw [List.map_append, List.map_singleton, res_snoc, zip_snoc]
  rw [res_len, List.length_map]
theorem psOf_fst (n : Nat) (cs : List C4) (is : List Nat) : (psOf n cs is).map (·.1) = is := by
  unfold psOf
  exact List.map_fst_zip (by rw [res_len, List.length_map]; exact Nat.le_refl _)
theorem psOf_snd (n : Nat) (cs : List C4) (is : List Nat) : (psOf n cs is).map (·.2) = res n (is.map (call cs)) := by
  unfold psOf
  exact List.map_snd_zip (by rw [res_len, List.length_map]; exact Nat.le_refl _)
theorem psOf_run (n : Nat) (cs : List C4) (is : List Nat) : run n (is.map (call cs)) = (psOf n cs is).map fun p => (call cs p.1, p.2) := by
  induction is using snoc_ind with
  | h0 => rfl
  | hs l i ih => rw [List.map_append, List.map_singleton, run_snoc, psOf_snoc, List.map_append, ← ih]; rfl
theorem find_mem {ps : List (Nat × R)} (hn : (ps.map (·.1)).Nodup) {i : Nat} {r : R} : look? ps i = some r ↔ (i, r) ∈ ps := by
  unfold look?
  induction ps with
  | nil => simp
  | cons p ps ih =>
    rw [List.map_cons, List.nodup_cons] at hn
    obtain ⟨h1, h2⟩ := hn
    rw [List.find?_cons]
    by_cases e : p.1 = i
    · subst e
      simp only [beq_self_eq_true, Option.map_some, Option.some.injEq, List.mem_cons]
      constructor
      · rintro rfl; exact .inl rfl
      · rintro (h | h)
        · rw [← h]
        · exact absurd (List.mem_map_of_mem (f := (·.1)) h) h1
    · have e' : (p.1 == i) = false := by simpa using e
      rw [e']
      simp only
      rw [ih h2, List.mem_cons]
      constructor
      · exact .inr
      · rintro (h | h)
        · rw [← h] at e; exact absurd rfl e
        · exact h
theorem look_none {ps : List (Nat × R)} {i : Nat} (h : i ∉ ps.map (·.1)) : look? ps i = none := by
  unfold look?
  rw [Option.map_eq_none_iff, List.find?_eq_none]
  intro p hp z
  exact h (by rw [← eq_of_beq z]; exact List.mem_map_of_mem hp)
theorem look_snoc {ps : List (Nat × R)} {i : Nat} {r : R} (h : i ∉ ps.map (·.1)) (j : Nat) : look? (ps ++ [(i, r)]) j = if j = i then some r else look? ps j := by
  by_cases e : j = i
  · subst e
    rw [if_pos rfl]
    unfold look?
    rw [List.find?_append]
    have : ps.find? (fun p => p.1 == j) = none := by
      have := look_none h
      unfold look? at this
      rwa [Option.map_eq_none_iff] at this
    rw [this]
    simp
  · rw [if_neg e]
    unfold look?
    rw [List.find?_append]
    cases hf : ps.find? (fun p => p.1 == j) with
    | some p => simp
    | none =>
      have e' : ¬ i = j := fun z => e z.symm
      simp [e']
/-- what has been found so far -/
def fnd {α : Type} (enc : Option R → α) (m : Nat) (ps : List (Nat × R)) : List α := (List.range m).map fun j => enc (look? ps j)
theorem fnd_nil {α : Type} (enc : Option R → α) (m : Nat) : fnd enc m [] = List.replicate m (enc none) := by
  unfold fnd
  exact (List.map_congr_left (g := fun _ => enc none) fun _ _ => rfl).trans (by rw [List.map_const', List.length_range])
theorem fnd_len {α : Type} (enc : Option R → α) (m : Nat) (ps : List (Nat × R)) : (fnd enc m ps).length = m := by simp [fnd]
theorem fnd_get {α : Type} (enc : Option R → α) {m : Nat} (ps : List (Nat × R)) {i : Nat} (h : i < m) : (fnd enc m ps)[i]? = some (enc (look? ps i)) := by
  unfold fnd
  rw [List.getElem?_map, List.getElem?_range h]
  rfl
theorem fnd_set {α : Type} (enc : Option R → α) {m : Nat} {ps : List (Nat × R)} {i : Nat} {r : R} (h : i ∉ ps.map (·.1)) : (fnd enc m ps).set i (enc (some r)) = fnd enc m (ps ++ [(i, r)]) := by
  apply List.ext_getElem?
  intro j
  by_cases hj : j < m
  · rw [fnd_get enc _ hj, look_snoc h]
    by_cases e : j = i
    · subst e
      rw [List.getElem?_set_self (by rw [fnd_len]; exact hj), if_pos rfl]
    · rw [List.getElem?_set_ne (fun z => e z.symm), fnd_get enc _ hj, if_neg e]
  · rw [List.getElem?_eq_none (by rw [List.length_set, fnd_len]; omega), List.getElem?_eq_none (by rw [fnd_len]; omega)]
/-! ### the order -/
def leT (cs : List C4) (i j : Nat) : Bool := decide ((call cs i).t ≤ (call cs j).t)
def ordI (cs : List C4) : List Nat := (List.range cs.length).mergeSort (leT cs)
theorem ordI_perm (cs : List C4) : (ordI cs).Perm (List.range cs.length) := List.mergeSort_perm _ _
theorem leT_trans (cs : List C4) (a b c : Nat) : leT cs a b = true → leT cs b c = true → leT cs a c = true := by
  unfold leT
  simp only [decide_eq_true_eq]
  omega
theorem leT_total (cs : List C4) (a b : Nat) : (leT cs a b || leT cs b a) = true := by
  unfold leT
  simp only [Bool.or_eq_true, decide_eq_true_eq]
  omega
theorem ordI_nodup (cs : List C4) : (ordI cs).Nodup := (ordI_perm cs).nodup_iff.mpr List.nodup_range
theorem ordI_mem {cs : List C4} {i : Nat} : i ∈ ordI cs ↔ i < cs.length := by rw [(ordI_perm cs).mem_iff, List.mem_range]
def lst (cs : List C4) : List C4 := (ordI cs).map (call cs)
theorem lst_ord (cs : List C4) : Ord (lst cs) := by
  have h := List.pairwise_mergeSort (le := leT cs) (leT_trans cs) (leT_total cs) (List.range cs.length)
  unfold Ord lst
  rw [List.pairwise_map]
  exact h.imp fun {i j} e => by simpa [leT] using e
theorem map_call (cs : List C4) : (List.range cs.length).map (call cs) = cs := by
  apply List.ext_getElem?
  intro i
  by_cases h : i < cs.length
  · rw [List.getElem?_map, List.getElem?_range h, List.getElem?_eq_getElem h]
    simp [call, h]
  · rw [List.getElem?_eq_none (by simpa using h), List.getElem?_eq_none (by omega)]
theorem lst_perm (cs : List C4) : (lst cs).Perm cs := by
  have := (ordI_perm cs).map (call cs)
  rwa [map_call] at this
theorem lst_ok {cs : List C4} (h : ∀ c ∈ cs, COk c) : ∀ c ∈ lst cs, COk c := fun c hc => h c ((lst_perm cs).mem_iff.mp hc)
/-- in the order of beginnings, alike ones as they stand -/
theorem ordI_stable (cs : List C4) : (ordI cs).Pairwise fun i j => (call cs i).t < (call cs j).t ∨ ((call cs i).t = (call cs j).t ∧ i < j) := by
  have e := List.mergeSort_zipIdx (le := leT cs) (l := List.range cs.length)
  have hz : ∀ p ∈ (List.range cs.length).zipIdx, p.1 = p.2 := fun p hp => by
    have := List.mem_zipIdx hp
    obtain ⟨_, h2, h3⟩ := this
    simp at h3
    omega
  have hs := List.pairwise_mergeSort (le := List.zipIdxLE (leT cs)) (List.zipIdxLE_trans (leT_trans cs)) (List.zipIdxLE_total (leT_total cs)) (List.range cs.length).zipIdx
  have hp : (((List.range cs.length).zipIdx).mergeSort (List.zipIdxLE (leT cs))).Perm (List.range cs.length).zipIdx := List.mergeSort_perm _ _
  have hn : ((((List.range cs.length).zipIdx).mergeSort (List.zipIdxLE (leT cs))).map (·.1)).Nodup := by
    rw [e]; exact ordI_nodup cs
  unfold ordI
  rw [← e, List.pairwise_map]
  have hn2 := List.pairwise_map.mp hn
  refine (List.Pairwise.and_mem.mp (hs.and hn2)).imp fun {p q} ⟨m1, m2, h1, h2⟩ => ?_
  have e1 := hz p (hp.mem_iff.mp m1)
  have e2 := hz q (hp.mem_iff.mp m2)
  unfold List.zipIdxLE leT at h1
  split at h1
  · rename_i g1
    split at h1
    · rename_i g2
      simp only [decide_eq_true_eq] at g1 g2 h1
      right
      omega
    · rename_i g2
      simp only [decide_eq_true_eq] at g1 g2
      left
      omega
  · cases h1
/-- the only such order -/
theorem ordI_eq {cs : List C4} {is : List Nat} (hp : is.Perm (List.range cs.length)) (hs : is.Pairwise fun i j => (call cs i).t < (call cs j).t ∨ ((call cs i).t = (call cs j).t ∧ i < j)) : is = ordI cs :=
  (hp.trans (ordI_perm cs).symm).eq_of_pairwise (fun a b _ _ h1 h2 => by omega) hs (ordI_stable cs)
/-- beginnings one after another, at each the calls as they stand -/
def byT (cs : List C4) (bs : List Int) : List Nat := bs.flatMap fun b => (List.range cs.length).filter fun i => decide ((call cs i).t = b)
theorem call_mem {cs : List C4} {i : Nat} (h : i < cs.length) : call cs i ∈ cs := by
  unfold call
  rw [List.getD_eq_getElem?_getD, List.getElem?_eq_getElem h]
  exact List.getElem_mem h
theorem byT_pair {cs : List C4} {bs : List Int} (h1 : bs.Pairwise (· < ·)) : (byT cs bs).Pairwise fun i j => (call cs i).t < (call cs j).t ∨ ((call cs i).t = (call cs j).t ∧ i < j) := by
  unfold byT
  induction h1 with
  | nil => exact .nil
  | @cons b r hb _ ih =>
    rw [List.flatMap_cons, List.pairwise_append]
    refine ⟨?_, ih, fun i hi j hj => ?_⟩
    · refine (List.Pairwise.and_mem.mp (List.Pairwise.filter _ List.pairwise_lt_range)).imp fun {i j} ⟨m1, m2, h⟩ => ?_
      have e1 := (List.mem_filter.mp m1).2
      have e2 := (List.mem_filter.mp m2).2
      simp only [decide_eq_true_eq] at e1 e2
      right
      exact ⟨by omega, h⟩
    · have e1 := (List.mem_filter.mp hi).2
      obtain ⟨b', hb', hj'⟩ := List.mem_flatMap.mp hj
      have e2 := (List.mem_filter.mp hj').2
      simp only [decide_eq_true_eq] at e1 e2
      have := hb b' hb'
      left
      omega
theorem byT_eq {cs : List C4} {bs : List Int} (h1 : bs.Pairwise (· < ·)) (h2 : ∀ c ∈ cs, c.t ∈ bs) : byT cs bs = ordI cs := by
  refine ordI_eq ?_ (byT_pair h1)
  refine (List.perm_ext_iff_of_nodup ((byT_pair h1).imp fun {i j} h z => ?_) List.nodup_range).mpr fun i => ?_
  · subst z; omega
  · unfold byT
    rw [List.mem_flatMap]
    constructor
    · rintro ⟨b, _, h⟩
      exact (List.mem_filter.mp h).1
    · intro h
      have hi := List.mem_range.mp h
      exact ⟨(call cs i).t, h2 _ (call_mem hi), List.mem_filter.mpr ⟨h, by simp⟩⟩
/-! ### what is told -/
def pso (n : Nat) (cs : List C4) : List (Nat × R) := psOf n cs (ordI cs)
def told (n : Nat) (cs : List C4) : List R := fnd (fun o => o.getD .busy) cs.length (pso n cs)
theorem told_len (n : Nat) (cs : List C4) : (told n cs).length = cs.length := fnd_len _ _ _
theorem pso_nodup (n : Nat) (cs : List C4) : ((pso n cs).map (·.1)).Nodup := by unfold pso; rw [psOf_fst]; exact ordI_nodup cs
theorem pso_some (n : Nat) (cs : List C4) {i : Nat} (h : i < cs.length) : ∃ r, look? (pso n cs) i = some r := by
  have h1 : i ∈ (pso n cs).map (·.1) := by unfold pso; rw [psOf_fst]; exact ordI_mem.mpr h
  obtain ⟨p, hp, rfl⟩ := List.mem_map.mp h1
  exact ⟨p.2, (find_mem (pso_nodup n cs)).mpr hp⟩
theorem fnd_told {α : Type} (enc : Option R → α) (n : Nat) (cs : List C4) : fnd enc cs.length (pso n cs) = (told n cs).map fun r => enc (some r) := by
  unfold told fnd
  rw [List.map_map]
  refine List.map_congr_left fun i hi => ?_
  obtain ⟨r, hr⟩ := pso_some n cs (List.mem_range.mp hi)
  simp [hr]
theorem told_run (n : Nat) (cs : List C4) : (cs.zip (told n cs)).Perm (run n (lst cs)) := by
  have e1 : cs.zip (told n cs) = (List.range cs.length).map fun i => (call cs i, (look? (pso n cs) i).getD .busy) := by
    rw [← List.zip_map', map_call]
    rfl
  have e2 : run n (lst cs) = (ordI cs).map fun i => (call cs i, (look? (pso n cs) i).getD .busy) := by
    unfold lst
    rw [psOf_run]
    have : (psOf n cs (ordI cs)) = (ordI cs).map fun i => (i, (look? (pso n cs) i).getD .busy) := by
      conv => rhs; rw [← psOf_fst n cs (ordI cs)]
      rw [List.map_map]
      conv => lhs; rw [← List.map_id (psOf n cs (ordI cs))]
      refine List.map_congr_left fun p hp => ?_
      have := (find_mem (pso_nodup n cs)).mpr (show (p.1, p.2) ∈ pso n cs from hp)
      simp [this]
    conv => lhs; rw [this]
    rw [List.map_map]
    rfl
  rw [e1, e2]
  exact ((ordI_perm cs).map _).symm
theorem told_res (n : Nat) (cs : List C4) : (told n cs).Perm (res n (lst cs)) := by
  have h := (told_run n cs).map (·.2)
  have e : (cs.zip (told n cs)).map (·.2) = told n cs := List.map_snd_zip (by rw [told_len]; exact Nat.le_refl _)
  rw [e] at h
  exact h
theorem mem_told {n : Nat} {cs : List C4} {r : R} : r ∈ told n cs ↔ r ∈ res n (lst cs) := (told_res n cs).mem_iff
/-- all is told by the order and by what is found on it -/
theorem told_eq_of {n m : Nat} {cs cs' : List C4} (hl : cs.length = cs'.length) (ho : ordI cs = ordI cs') (hr : res n (lst cs) = res m (lst cs')) : told n cs = told m cs' := by
  unfold told pso psOf
  rw [hl, ho]
  unfold lst at hr
  rw [ho] at hr
  rw [hr]
/-! ### the fewest -/
def fewest (cs : List C4) : Nat := need (res 20 (lst cs))
theorem need_congr {l l' : List R} (h : ∀ r, r ∈ l ↔ r ∈ l') : need l = need l' := by
  have go : ∀ {l l' : List R}, (∀ r, r ∈ l ↔ r ∈ l') → need l ≤ need l' := fun {l l'} h => by
    by_cases e : need l = 0
    · omega
    · have h1 := need_at (rs := l) (by omega)
      have h2 := need_le ((h _).mp h1)
      omega
  exact Nat.le_antisymm (go h) (go fun r => (h r).symm)
theorem need_told (cs : List C4) : need (told 20 cs) = fewest cs := need_congr fun _ => mem_told
section
variable {cs : List C4} (hok : ∀ c ∈ cs, COk c)
include hok
theorem told_enough {n : Nat} (h : fewest cs ≤ n) : told n cs = told 20 cs := told_eq_of rfl rfl (enough_res (lst_ord cs) (lst_ok hok) h)
theorem none_told {n : Nat} : R.none ∈ told n cs ↔ n < fewest cs := mem_told.trans (none_iff (lst_ord cs) (lst_ok hok))
theorem given_told {k : Nat} : R.cord k ∈ told 20 cs ↔ k < fewest cs := mem_told.trans (given_iff (lst_ord cs) (lst_ok hok))
theorem fewest_le : fewest cs ≤ 11 := by
  apply Nat.le_of_not_lt
  intro z
  exact none_lost (n := 11) (by decide) (lst_ord cs) (lst_ok hok) ((none_iff (lst_ord cs) (lst_ok hok)).mpr z)
/-- those that are put through -/
def rows (cs : List C4) (rs : List R) : List C4 := ((cs.zip rs).filter fun p => decide (p.2 ≠ .busy)).map (·.1)
def inT (t : Int) (c : C4) : Bool := decide (c.t ≤ t) && decide (t < c.t + c.s)
def cnt (l : List C4) (t : Int) : Nat := (l.filter (inT t)).length
theorem cnt_le (t : Int) : cnt (rows cs (told 20 cs)) t ≤ fewest cs := by
  have h := at_most (lst_ord cs) (lst_ok hok) t
  have e : cnt (rows cs (told 20 cs)) t = ((cs.zip (told 20 cs)).filter (at1 t)).length := by
    unfold cnt rows
    rw [List.filter_map, List.length_map, List.filter_filter]
    congr 1
    refine List.filter_congr fun p _ => ?_
    simp only [at1, inT, Function.comp]
    rw [Bool.and_comm]
  rw [e, ((told_run 20 cs).filter (at1 t)).length_eq]
  exact h
end
end HR

/-! # Calls changed, told the same -/
namespace HR
def conf (x c : C4) : Prop := c.a = x.a ∨ c.a = x.b ∨ c.b = x.a ∨ c.b = x.b
theorem busy_iff {done : List CR} {c : C4} {t : Int} : isBusy (held t done) c ↔ ∃ p ∈ done, (∃ k, p.2 = .cord k) ∧ t < p.1.t + p.1.s ∧ conf p.1 c := by
  unfold isBusy lines conf
  simp only [List.mem_append, List.mem_map]
  constructor
  · rintro ((⟨x, hx, e⟩ | ⟨x, hx, e⟩) | (⟨x, hx, e⟩ | ⟨x, hx, e⟩)) <;> obtain ⟨p, hp, hr, ea, eb, hl⟩ := mem_held.mp hx <;> refine ⟨p, hp, ⟨_, hr⟩, hl, ?_⟩
    · exact .inl (by rw [ea, e])
    · exact .inr (.inl (by rw [eb, e]))
    · exact .inr (.inr (.inl (by rw [ea, e])))
    · exact .inr (.inr (.inr (by rw [eb, e])))
  · rintro ⟨p, hp, ⟨k, hr⟩, hl, h⟩
    have hx : ⟨k, p.1.a, p.1.b⟩ ∈ held t done := mem_held.mpr ⟨p, hp, hr, rfl, rfl, hl⟩
    rcases h with h | h | h | h
    · exact .inl (.inl ⟨_, hx, h.symm⟩)
    · exact .inl (.inr ⟨_, hx, h.symm⟩)
    · exact .inr (.inl ⟨_, hx, h.symm⟩)
    · exact .inr (.inr ⟨_, hx, h.symm⟩)
theorem dec_rel {n : Nat} {l l' : List Tr} {c c' : C4} (h1 : isBusy l c ↔ isBusy l' c') (h2 : ∀ k, k ∈ l.map Tr.k ↔ k ∈ l'.map Tr.k) : dec n l c = dec n l' c' := by
  rcases dec_cases n l c with ⟨a, e⟩ | ⟨a, e, b⟩ | ⟨k', a, e, b1, b2, b3⟩
  · rw [e, dec_busy (h1.mp a)]
  · rw [e, dec_none (fun z => a (h1.mpr z)) fun j hj => (h2 j).mp (b j hj)]
  · rw [e, dec_cord (fun z => a (h1.mpr z)) b1 (fun z => b2 ((h2 _).mpr z)) fun j hj => (h2 j).mp (b3 j hj)]
structure Same (f : C4 → C4) (cs : List C4) : Prop where
  live : ∀ x ∈ cs, ∀ y ∈ cs, ((f y).t < (f x).t + (f x).s ↔ y.t < x.t + x.s)
  conf : ∀ x ∈ cs, ∀ y ∈ cs, (conf (f x) (f y) ↔ conf x y)
  le : ∀ x ∈ cs, ∀ y ∈ cs, ((f x).t ≤ (f y).t ↔ x.t ≤ y.t)
theorem run_mem {n : Nat} {cs : List C4} {p : CR} (h : p ∈ run n cs) : p.1 ∈ cs := by
  rw [← run_fst n cs]
  exact List.mem_map_of_mem h
theorem run_map {f : C4 → C4} {n : Nat} {cs : List C4} (h : Same f cs) : run n (cs.map f) = (run n cs).map fun p => (f p.1, p.2) := by
  induction cs using snoc_ind with
  | h0 => rfl
  | hs l c ih =>
    have ih := ih ⟨fun x hx y hy => h.live x (by simp [hx]) y (by simp [hy]), fun x hx y hy => h.conf x (by simp [hx]) y (by simp [hy]), fun x hx y hy => h.le x (by simp [hx]) y (by simp [hy])⟩
    rw [List.map_append, List.map_singleton, run_snoc, run_snoc, ih, List.map_append, List.map_singleton]
    congr 1
    have hc : c ∈ l ++ [c] := by simp
    have hm : ∀ p ∈ run n l, p.1 ∈ l ++ [c] := fun p hp => by simp [run_mem hp]
    have e : dec n (held (f c).t ((run n l).map fun p => (f p.1, p.2))) (f c) = dec n (held c.t (run n l)) c := by
      refine dec_rel ?_ fun k => ?_
      · rw [busy_iff, busy_iff]
        constructor
        · rintro ⟨p, hp, hr, h1, h2⟩
          obtain ⟨q, hq, rfl⟩ := List.mem_map.mp hp
          exact ⟨q, hq, hr, (h.live _ (hm q hq) _ hc).mp h1, (h.conf _ (hm q hq) _ hc).mp h2⟩
        · rintro ⟨q, hq, hr, h1, h2⟩
          exact ⟨_, List.mem_map_of_mem hq, hr, (h.live _ (hm q hq) _ hc).mpr h1, (h.conf _ (hm q hq) _ hc).mpr h2⟩
      · rw [mem_heldk, mem_heldk]
        constructor
        · rintro ⟨p, hp, hr, h1⟩
          obtain ⟨q, hq, rfl⟩ := List.mem_map.mp hp
          exact ⟨q, hq, hr, (h.live _ (hm q hq) _ hc).mp h1⟩
        · rintro ⟨q, hq, hr, h1⟩
          exact ⟨_, List.mem_map_of_mem hq, hr, (h.live _ (hm q hq) _ hc).mpr h1⟩
    rw [e]
theorem call_map {f : C4 → C4} {cs : List C4} {i : Nat} (h : i < cs.length) : call (cs.map f) i = f (call cs i) := by
  unfold call
  rw [List.getD_eq_getElem?_getD, List.getD_eq_getElem?_getD, List.getElem?_map, List.getElem?_eq_getElem h]
  rfl
theorem ordI_map {f : C4 → C4} {cs : List C4} (h : Same f cs) : ordI (cs.map f) = ordI cs := by
  refine (ordI_eq (cs := cs.map f) ?_ ?_).symm
  · rw [List.length_map]; exact ordI_perm cs
  · refine (List.Pairwise.and_mem.mp (ordI_stable cs)).imp fun {i j} ⟨m1, m2, e⟩ => ?_
    have h1 := ordI_mem.mp m1
    have h2 := ordI_mem.mp m2
    have a := h.le _ (call_mem h1) _ (call_mem h2)
    have b := h.le _ (call_mem h2) _ (call_mem h1)
    rw [call_map h1, call_map h2]
    omega
theorem lst_map {f : C4 → C4} {cs : List C4} (h : Same f cs) : lst (cs.map f) = (lst cs).map f := by
  unfold lst
  rw [ordI_map h, List.map_map]
  exact List.map_congr_left fun i hi => call_map (ordI_mem.mp hi)
theorem Same.perm {f : C4 → C4} {cs cs' : List C4} (h : Same f cs) (e : ∀ c, c ∈ cs' → c ∈ cs) : Same f cs' := ⟨fun x hx y hy => h.live x (e x hx) y (e y hy), fun x hx y hy => h.conf x (e x hx) y (e y hy), fun x hx y hy => h.le x (e x hx) y (e y hy)⟩
theorem res_map {f : C4 → C4} {n : Nat} {cs : List C4} (h : Same f cs) : res n (cs.map f) = res n cs := by
  unfold res
  rw [run_map h, List.map_map]
  rfl
theorem told_map {f : C4 → C4} {n : Nat} {cs : List C4} (h : Same f cs) : told n (cs.map f) = told n cs := by
  refine told_eq_of (by simp) (ordI_map h) ?_
  rw [lst_map h, res_map (h.perm fun c hc => (lst_perm cs).mem_iff.mp hc)]
theorem fewest_map {f : C4 → C4} {cs : List C4} (h : Same f cs) : fewest (cs.map f) = fewest cs := by
  unfold fewest
  rw [lst_map h, res_map (h.perm fun c hc => (lst_perm cs).mem_iff.mp hc)]
theorem rows_map {f : C4 → C4} (cs : List C4) (rs : List R) : rows (cs.map f) rs = (rows cs rs).map f := by
  unfold rows
  rw [List.zip_map_left, List.filter_map, List.map_map, List.map_map]
  rfl
def late (d : Int) (c : C4) : C4 := ⟨c.a, c.b, c.t + d, c.s⟩
theorem late_same (d : Int) (cs : List C4) : Same (late d) cs := by
  refine ⟨fun x _ y _ => ?_, fun x _ y _ => Iff.rfl, fun x _ y _ => ?_⟩ <;> simp only [late] <;> omega
theorem cnt_late (d t : Int) (l : List C4) : cnt (l.map (late d)) (t + d) = cnt l t := by
  unfold cnt
  rw [List.filter_map, List.length_map]
  congr 1
  refine List.filter_congr fun c _ => ?_
  have e1 : decide (c.t + d ≤ t + d) = decide (c.t ≤ t) := decide_eq_decide.mpr (by omega)
  have e2 : decide (t + d < c.t + d + c.s) = decide (t < c.t + c.s) := decide_eq_decide.mpr (by omega)
  show (decide (c.t + d ≤ t + d) && decide (t + d < c.t + d + c.s)) = (decide (c.t ≤ t) && decide (t < c.t + c.s))
  rw [e1, e2]
/-- the first is put through -/
theorem first_through {n : Nat} (hn : 0 < n) {cs : List C4} (hne : cs ≠ []) : R.cord 0 ∈ res n cs := by
  induction cs using snoc_ind with
  | h0 => exact absurd rfl hne
  | hs l c ih =>
    rw [res_snoc]
    by_cases e : l = []
    · subst e
      refine List.mem_append_right _ (List.mem_singleton.mpr ?_)
      exact (dec_cord (l := held c.t (run n [])) (by simp [isBusy, lines, held, run]) hn (by simp [held, run]) (by omega)).symm
    · exact List.mem_append_left _ (ih e)
theorem fewest_pos {cs : List C4} (hne : cs ≠ []) : 0 < fewest cs := by
  have h : lst cs ≠ [] := fun z => by
    have := (lst_perm cs).length_eq
    rw [z] at this
    exact hne (List.eq_nil_of_length_eq_zero this.symm)
  have := need_le (first_through (n := 20) (by decide) h)
  unfold fewest
  omega
theorem mem_rows {cs : List C4} {rs : List R} {c : C4} : c ∈ rows cs rs ↔ ∃ r, (c, r) ∈ cs.zip rs ∧ r ≠ .busy := by
  unfold rows
  rw [List.mem_map]
  constructor
  · rintro ⟨p, hp, rfl⟩
    obtain ⟨h1, h2⟩ := List.mem_filter.mp hp
    exact ⟨p.2, h1, by simpa using h2⟩
  · rintro ⟨r, h1, h2⟩
    exact ⟨(c, r), List.mem_filter.mpr ⟨h1, by simpa using h2⟩, rfl⟩
theorem rows_ne {cs : List C4} (hne : cs ≠ []) : rows cs (told 20 cs) ≠ [] := by
  have h : lst cs ≠ [] := fun z => by
    have := (lst_perm cs).length_eq
    rw [z] at this
    exact hne (List.eq_nil_of_length_eq_zero this.symm)
  have h1 := first_through (n := 20) (by decide) h
  obtain ⟨p, hp, hr⟩ := List.mem_map.mp h1
  have h2 := (told_run 20 cs).mem_iff.mpr hp
  intro z
  have h3 : p.1 ∈ rows cs (told 20 cs) := mem_rows.mpr ⟨p.2, h2, by rw [hr]; intro z; cases z⟩
  rw [z] at h3
  cases h3
end HR

/-! # More of calls of told hours -/
namespace HR
def wide (k : Int) (c : C4) : C4 := ⟨c.a, c.b, c.t * k, c.s * k⟩
theorem wide_same {k : Int} (hk : 0 < k) (cs : List C4) : Same (wide k) cs := by
  refine ⟨fun x _ y _ => ?_, fun x _ y _ => Iff.rfl, fun x _ y _ => ?_⟩
  · simp only [wide]
    rw [← Int.add_mul]
    exact ⟨fun h => Int.lt_of_mul_lt_mul_right h (by omega), fun h => Int.mul_lt_mul_of_pos_right h hk⟩
  · simp only [wide]
    exact ⟨fun h => Int.le_of_mul_le_mul_right h hk, fun h => Int.mul_le_mul_of_nonneg_right h (by omega)⟩
def turned (c : C4) : C4 := ⟨19 - c.b, 19 - c.a, c.t, c.s⟩
theorem turned_same (cs : List C4) : Same turned cs := by
  refine ⟨fun x _ y _ => Iff.rfl, fun x _ y _ => ?_, fun x _ y _ => Iff.rfl⟩
  simp only [conf, turned]
  omega
/-! ### unlike beginnings -/
def Inc (cs : List C4) : Prop := cs.Pairwise fun x y => x.t < y.t
theorem Inc.ord {cs : List C4} (h : Inc cs) : Ord cs := h.imp fun h => by omega
theorem Inc.inj {cs : List C4} (h : Inc cs) {i j : Nat} (hi : i < cs.length) (hj : j < cs.length) (e : (call cs i).t = (call cs j).t) : i = j := by
  have h1 := List.pairwise_iff_getElem.mp h
  have ei : call cs i = cs[i] := by simp [call, hi]
  have ej : call cs j = cs[j] := by simp [call, hj]
  rw [ei, ej] at e
  rcases Nat.lt_trichotomy i j with z | z | z
  · have := h1 i j hi hj z; omega
  · exact z
  · have := h1 j i hj hi z; omega
theorem ordI_inc {cs : List C4} (h : Inc cs) : ordI cs = List.range cs.length := by
  refine (ordI_eq (List.Perm.refl _) ?_).symm
  refine List.Pairwise.imp_of_mem (R := fun i j : Nat => i < j) (fun {i j} hi hj hij => ?_) List.pairwise_lt_range
  have h1 := List.pairwise_iff_getElem.mp h
  have hi' := List.mem_range.mp hi
  have hj' := List.mem_range.mp hj
  have ei : call cs i = cs[i] := by simp [call, hi']
  have ej : call cs j = cs[j] := by simp [call, hj']
  rw [ei, ej]
  exact .inl (h1 i j hi' hj' hij)
theorem lst_inc {cs : List C4} (h : Inc cs) : lst cs = cs := by
  unfold lst
  rw [ordI_inc h, map_call]
theorem mem_at {cs : List C4} {c : C4} (h : c ∈ cs) : ∃ i, i < cs.length ∧ call cs i = c := by
  obtain ⟨i, hi, e⟩ := List.getElem_of_mem h
  exact ⟨i, hi, by simp [call, hi, e]⟩
theorem Inc.eq_of {cs : List C4} (h : Inc cs) {a b : C4} (ha : a ∈ cs) (hb : b ∈ cs) (e : a.t = b.t) : a = b := by
  obtain ⟨i, hi, rfl⟩ := mem_at ha
  obtain ⟨j, hj, rfl⟩ := mem_at hb
  rw [h.inj hi hj e]
theorem lst_mixed {cs cs' : List C4} (h : Inc cs) (hp : cs'.Perm cs) : lst cs' = cs := by
  have h1 := lst_ord cs'
  have h2 : (lst cs').Perm cs := (lst_perm cs').trans hp
  refine h2.eq_of_pairwise (le := fun x y : C4 => x.t ≤ y.t) (fun a b ha hb h3 h4 => ?_) h1 h.ord
  exact h.eq_of (h2.mem_iff.mp ha) hb (by omega)
theorem told_at {n : Nat} {cs : List C4} {i : Nat} (h : i < cs.length) : ∃ r, (told n cs)[i]? = some r ∧ (call cs i, r) ∈ cs.zip (told n cs) := by
  have hl : i < (told n cs).length := by rw [told_len]; exact h
  refine ⟨_, List.getElem?_eq_getElem hl, ?_⟩
  rw [List.mem_iff_getElem]
  exact ⟨i, by rw [List.length_zip, told_len]; omega, by simp [call, h]⟩
theorem zip_at {α β : Type} {l : List α} {m : List β} {a : α} {b : β} (h : (a, b) ∈ l.zip m) : ∃ i : Nat, l[i]? = some a ∧ m[i]? = some b := by
  obtain ⟨i, hi, e⟩ := List.getElem_of_mem h
  rw [List.length_zip] at hi
  refine ⟨i, ?_, ?_⟩
  · rw [List.getElem?_eq_getElem (by omega)]
    rw [List.getElem_zip] at e
    simp at e
    simp [e.1]
  · rw [List.getElem?_eq_getElem (by omega)]
    rw [List.getElem_zip] at e
    simp at e
    simp [e.2]
theorem told_mixed {n : Nat} {cs : List C4} (h : Inc cs) {turn : List Nat} (hp : turn.Perm (List.range cs.length)) : told n (turn.map (call cs)) = turn.map fun i => (told n cs)[i]?.getD .busy := by
  have hpc : (turn.map (call cs)).Perm cs := by
    have := hp.map (call cs)
    rwa [map_call] at this
  have hlen : turn.length = cs.length := by rw [hp.length_eq, List.length_range]
  have e1 := told_run n (turn.map (call cs))
  rw [lst_mixed h hpc] at e1
  have e2 := told_run n cs
  rw [lst_inc h] at e2
  have hz := e1.trans e2.symm
  apply List.ext_getElem?
  intro j
  by_cases hj : j < turn.length
  · have hj' : j < (turn.map (call cs)).length := by rw [List.length_map]; exact hj
    obtain ⟨r, hr, hm⟩ := told_at (n := n) hj'
    rw [hr, List.getElem?_map, List.getElem?_eq_getElem hj]
    obtain ⟨i, hi1, hi2⟩ := zip_at (hz.mem_iff.mp hm)
    have hi : i < cs.length := (List.getElem?_eq_some_iff.mp hi1).1
    have ht : turn[j] < cs.length := List.mem_range.mp (hp.mem_iff.mp (List.getElem_mem hj))
    have ei : call cs i = call cs turn[j] := by
      have q1 : call cs i = call (turn.map (call cs)) j := by
        have : cs[i]? = some (call cs i) := by simp [call, hi]
        rw [this] at hi1
        exact Option.some.inj hi1
      have q2 : call (turn.map (call cs)) j = call cs turn[j] := by
        unfold call
        rw [List.getD_eq_getElem?_getD, List.getElem?_map, List.getElem?_eq_getElem hj]
        rfl
      rw [q1, q2]
    have : i = turn[j] := h.inj hi ht (by rw [ei])
    simp only [Option.map_some]
    rw [← this, hi2]
    rfl
  · rw [List.getElem?_eq_none (by rw [told_len, List.length_map]; omega), List.getElem?_eq_none (by rw [List.length_map]; omega)]
/-! ### a call behind all others -/
theorem call_app {cs : List C4} {c : C4} {i : Nat} (h : i < cs.length) : call (cs ++ [c]) i = call cs i := by
  unfold call
  rw [List.getD_eq_getElem?_getD, List.getD_eq_getElem?_getD, List.getElem?_append_left h]
theorem call_last {cs : List C4} {c : C4} : call (cs ++ [c]) cs.length = c := by
  unfold call
  rw [List.getD_eq_getElem?_getD, List.getElem?_append_right (Nat.le_refl _)]
  simp
theorem ordI_app {cs : List C4} {c : C4} (h : ∀ x ∈ cs, x.t ≤ c.t) : ordI (cs ++ [c]) = ordI cs ++ [cs.length] := by
  refine (ordI_eq ?_ ?_).symm
  · rw [List.length_append, List.length_singleton, List.range_succ]
    exact (ordI_perm cs).append_right _
  · rw [List.pairwise_append]
    refine ⟨?_, List.pairwise_singleton _ _, fun i hi j hj => ?_⟩
    · refine List.Pairwise.imp_of_mem (fun {i j} hi hj e => ?_) (ordI_stable cs)
      rw [call_app (ordI_mem.mp hi), call_app (ordI_mem.mp hj)]
      exact e
    · rw [List.mem_singleton.mp hj, call_last, call_app (ordI_mem.mp hi)]
      have := h _ (call_mem (ordI_mem.mp hi))
      have := ordI_mem.mp hi
      omega
theorem lst_app {cs : List C4} {c : C4} (h : ∀ x ∈ cs, x.t ≤ c.t) : lst (cs ++ [c]) = lst cs ++ [c] := by
  unfold lst
  rw [ordI_app h, List.map_append, List.map_singleton, call_last]
  congr 1
  exact List.map_congr_left fun i hi => call_app (ordI_mem.mp hi)
theorem told_app {n : Nat} {cs : List C4} {c : C4} (h : ∀ x ∈ cs, x.t ≤ c.t) : told n (cs ++ [c]) = told n cs ++ [dec n (held c.t (run n (lst cs))) c] := by
  have e : pso n (cs ++ [c]) = pso n cs ++ [(cs.length, dec n (held c.t (run n (lst cs))) c)] := by
    unfold pso
    rw [ordI_app h, psOf_snoc, call_last]
    have e1 : (ordI cs).map (call (cs ++ [c])) = lst cs := List.map_congr_left fun i hi => call_app (ordI_mem.mp hi)
    rw [e1]
    congr 1
    unfold psOf
    rw [e1]
    rfl
  have hni : cs.length ∉ (pso n cs).map (·.1) := by
    unfold pso
    rw [psOf_fst]
    intro z
    have := ordI_mem.mp z
    omega
  unfold told fnd
  rw [e, List.length_append, List.length_singleton, List.range_succ, List.map_append, List.map_singleton]
  congr 1
  · refine List.map_congr_left fun i hi => ?_
    rw [look_snoc hni, if_neg (by have := List.mem_range.mp hi; omega)]
  · rw [look_snoc hni, if_pos rfl]
    rfl
theorem held_none {cs : List CR} {t : Int} (h : ∀ p ∈ cs, p.1.t + p.1.s ≤ t) : held t cs = [] := by
  unfold held
  rw [List.filterMap_eq_nil_iff]
  intro p hp
  unfold live
  have := h p hp
  split
  · rw [if_neg (by omega)]
  · rfl
theorem told_behind {n : Nat} {cs : List C4} {c : C4} (h : ∀ x ∈ cs, x.t + x.s ≤ c.t) (hs : ∀ x ∈ cs, 0 < x.s) : told n (cs ++ [c]) = told n cs ++ [if 0 < n then .cord 0 else .none] := by
  rw [told_app fun x hx => by have := h x hx; have := hs x hx; omega]
  rw [held_none fun p hp => h _ ((lst_perm cs).mem_iff.mp (run_mem hp))]
  congr 2
  have hb : ¬ isBusy [] c := by simp [isBusy, lines]
  by_cases e : 0 < n
  · rw [if_pos e]
    exact dec_cord hb e (by simp) (by omega)
  · rw [if_neg e]
    exact dec_none hb fun j hj => by omega
/-! ### the greatest is as many as the fewest -/
theorem at_least {n : Nat} {cs : List C4} (ho : Ord cs) (hs : ∀ c ∈ cs, 0 < c.s) {k : Nat} (h : R.cord k ∈ res n cs) : ∃ p ∈ run n cs, p.2 ≠ .busy ∧ p.2 ≠ .none ∧ k + 1 ≤ ((run n cs).filter (at1 p.1.t)).length := by
  induction cs using snoc_ind with
  | h0 => cases h
  | hs l c ih =>
    obtain ⟨ho1, ho2⟩ := ho.init
    have hs1 : ∀ c ∈ l, 0 < c.s := fun x hx => hs x (by simp [hx])
    rw [res_snoc] at h
    rcases List.mem_append.mp h with h | h
    · obtain ⟨p, hp, h1, h2, h3⟩ := ih ho1 hs1 h
      refine ⟨p, by rw [run_snoc]; exact List.mem_append_left _ hp, h1, h2, ?_⟩
      rw [run_snoc, List.filter_append, List.length_append]
      omega
    · have e := List.mem_singleton.mp h
      rcases dec_cases n (held c.t (run n l)) c with ⟨a, e'⟩ | ⟨a, e', b⟩ | ⟨k', a, e', b1, b2, b3⟩
      · rw [e'] at e; cases e
      · rw [e'] at e; cases e
      · rw [e'] at e
        cases e
        refine ⟨(c, .cord k), by rw [run_snoc, e']; simp, by simp, by simp, ?_⟩
        show k + 1 ≤ ((run n (l ++ [c])).filter (at1 c.t)).length
        rw [run_snoc, e', List.filter_append, List.length_append]
        have hc1 : ([(c, R.cord k)].filter (at1 c.t)).length = 1 := by
          have := hs c (by simp)
          have e1 : at1 c.t (c, R.cord k) = true := by
            simp [at1]
            omega
          rw [List.filter_cons_of_pos e1]
          rfl
        have hk : k ≤ ((run n l).filter (at1 c.t)).length := by
          have h1 := nodup_le ((held c.t (run n l)).map Tr.k) (List.range k) List.nodup_range fun j hj => b3 j (List.mem_range.mp hj)
          rw [List.length_range, List.length_map] at h1
          have h2 : (held c.t (run n l)).length ≤ ((run n l).filter (at1 c.t)).length := by
            have hall : ∀ p ∈ run n l, p.1.t ≤ c.t := fun p hp => ho2 _ (run_mem hp)
            clear h1
            unfold held
            revert hall
            generalize run n l = L
            intro hall
            induction L with
            | nil => exact Nat.le_refl _
            | cons p L ih2 =>
              have ih2 := ih2 fun q hq => hall q (List.mem_cons_of_mem _ hq)
              rw [List.filterMap_cons]
              have hp := hall p List.mem_cons_self
              cases hl : live c.t p with
              | none =>
                simp only
                rw [List.filter_cons]
                split
                · simp only [List.length_cons]; omega
                · exact ih2
              | some x =>
                simp only
                have e1 : at1 c.t p = true := by
                  unfold live at hl
                  split at hl
                  · rename_i k0 ek
                    split at hl
                    · rename_i hlt
                      simp [at1, ek, hp, hlt]
                    · cases hl
                  · cases hl
                rw [List.filter_cons_of_pos e1, List.length_cons, List.length_cons]
                omega
          omega
        rw [hc1]
        omega
theorem cnt_reached {cs : List C4} (hok : ∀ c ∈ cs, COk c) (hne : cs ≠ []) : ∃ x ∈ rows cs (told 20 cs), cnt (rows cs (told 20 cs)) x.t = fewest cs := by
  have hf := fewest_pos hne
  have h1 := at_least (n := 20) (lst_ord cs) (fun c hc => (lst_ok hok c hc).s) (need_at (rs := res 20 (lst cs)) hf)
  obtain ⟨p, hp, hb, hn, hle⟩ := h1
  have e : ∀ t, cnt (rows cs (told 20 cs)) t = ((run 20 (lst cs)).filter (at1 t)).length := fun t => by
    rw [← ((told_run 20 cs).filter (at1 t)).length_eq]
    unfold cnt rows
    rw [List.filter_map, List.length_map, List.filter_filter]
    congr 1
    refine List.filter_congr fun p _ => ?_
    simp only [at1, inT, Function.comp]
    rw [Bool.and_comm]
  refine ⟨p.1, mem_rows.mpr ⟨p.2, (told_run 20 cs).mem_iff.mpr hp, hb⟩, ?_⟩
  have := cnt_le hok p.1.t
  rw [e] at this ⊢
  unfold fewest at *
  omega
end HR

namespace K30
open PySem L2 DL
theorem drawn_eq (c k : Int) : m_law_drawn [.int c, .int k] = .ok (.int (drawnI c k)) := by
  simp [m_law_drawn, runF, F_law_drawn, sMul_lo]
  unfold drawnI
  generalize hA : (c * 6364136223846793005 + (k + 1) * 1442695040888963407) % 340282366920938463463374607431768211507 = A
  have a1 : 0 ≤ A := by rw [← hA]; exact Int.emod_nonneg _ (by decide)
  have a2 : A < 340282366920938463463374607431768211507 := by rw [← hA]; exact Int.emod_lt_of_pos _ (by decide)
  rw [sMul_big (by rw [big_eq]; omega)]
  simp
  generalize hB : A * A % 340282366920938463463374607431768211297 = B
  have b1 : 0 ≤ B := by rw [← hB]; exact Int.emod_nonneg _ (by decide)
  have b2 : B < 340282366920938463463374607431768211297 := by rw [← hB]; exact Int.emod_lt_of_pos _ (by decide)
  have c1 : 0 ≤ B % 18446744073709551557 + 1 ∧ B % 18446744073709551557 + 1 ≤ 18446744073709551557 := by omega
  have c2 : 0 ≤ B / 18446744073709551557 + 1 ∧ B / 18446744073709551557 + 1 ≤ 18446744073709551700 := by omega
  generalize B % 18446744073709551557 + 1 = D at c1 ⊢
  generalize B / 18446744073709551557 + 1 = E at c2 ⊢
  have de := mul_bd c1.1 c1.2 c2.1 c2.2
  rw [sMul_big (by rw [big_eq]; omega)]
  simp only [opt_some, bnd_ok]
  rw [sMul_big (by rw [big_eq]; omega)]
  simp
theorem cell_eq (ns : List Int) (k : Int) (hk : 0 ≤ k) (hl : ns.length ≤ 63) : m_law_cell ns k = .ok (.int (cellI ns k)) := by
  by_cases e : ns = []
  · subst e
    simp [m_law_cell, runC, F_law_cell, sMul_lo, cellI]
  · have hp : 0 < ns.length := List.length_pos_iff.mpr e
    have hp' : (0 : Int) < ns.length := by omega
    have h1 : 0 ≤ k % ns.length := Int.emod_nonneg _ (by omega)
    have h2 : k % ns.length < ns.length := Int.emod_lt_of_pos _ hp'
    have h3 : atI ns (k % ns.length) = some (ns.getD (k % ns.length).toNat 0) := by
      rw [atI_pos _ h1, List.getD_eq_getElem?_getD, List.getElem?_eq_getElem (by omega)]
      rfl
    have h4 : (ns.length : Int) < 36893488147419103232 := by omega
    simp [m_law_cell, runC, F_law_cell, sMul_lo, cellI, e, hp, hp', h3, h4]

/-! ### calls of told hours -/
theorem is_count_int (x lo hi : Int) : m_is_count [.int x, .int lo, .int hi] = .ok (.bool (decide (lo ≤ x) && decide (x ≤ hi))) := by
  by_cases e : lo ≤ x <;> simp [m_is_count, runF, F_is_count, bInt, bBool, ch, e]
def encC (c : HR.C4) : D := .tuple [.int c.a, .int c.b, .int c.t, .int c.s]
def encR : HR.R → D
  | .cord k => .int k
  | .busy => .str "busy"
  | .none => .str "no cord"
def encO : Option HR.R → D
  | some r => encR r
  | none => .none
def encCs (cs : List HR.C4) : D := .list (cs.map encC)
structure HOk (c : HR.C4) : Prop where
  a : 0 ≤ c.a ∧ c.a ≤ 19
  b : 0 ≤ c.b ∧ c.b ≤ 19
  ne : c.a ≠ c.b
  t : 0 ≤ c.t ∧ c.t ≤ 10000
  s : 1 ≤ c.s ∧ c.s ≤ 1000
theorem HOk.c {c : HR.C4} (h : HOk c) : HR.COk c := ⟨h.a, h.b, h.ne, by have := h.s; omega⟩
theorem is_call_eq {c : HR.C4} (h : HOk c) : m_is_call [encC c] = .ok (.bool true) := by
  obtain ⟨h1, h2, h3, h4, h5⟩ := h
  simp [m_is_call, runF, F_is_call, encC, bTup, is_count_int, sNe_int, sEq_int, h1, h2, h3, h4, h5]
theorem need_calls_eq {cs : List HR.C4} (hok : ∀ c ∈ cs, HOk c) (hl : cs.length ≤ 60) : m_need_calls [encCs cs] = .ok .none := by
  have h1 := comp_all (i := 1) (f := E_need_calls_1) (ε := [.dat (encCs cs), .un]) encC (fun _ => .bool true) cs (fun c hc => by simp [E_need_calls_1, is_call_eq (hok c hc)])
  have h3 : (cs.map fun _ => PyData.bool true) = (cs.map fun _ => true).map PyData.bool := by rw [List.map_map]; rfl
  rw [h3] at h1
  have h7 : sAll (.list ((cs.map fun _ => true).map PyData.bool)) = some (.bool true) := by
    rw [sAll_bools]
    simp
  have hl' : ¬ (60 < (cs.length : Int)) := by omega
  simp only [encCs] at h1 ⊢
  simp [-List.map_map, m_need_calls, runF, F_need_calls, bList, h1, h7, hl']
/-- those that are held: four numbers each -/
def encH (p : HR.Tr × Int) : D := .tuple [.int p.1.k, .int p.1.a, .int p.1.b, .int p.2]
def liveU (t : Int) (p : HR.CR) : Option (HR.Tr × Int) := match p.2 with
  | .cord k => if t < p.1.t + p.1.s then some (⟨k, p.1.a, p.1.b⟩, p.1.t + p.1.s) else none
  | _ => none
def heldU (t : Int) (done : List HR.CR) : List (HR.Tr × Int) := done.filterMap (liveU t)
theorem heldU_map (t : Int) (done : List HR.CR) : (heldU t done).map (·.1) = HR.held t done := by
  unfold heldU HR.held
  rw [List.map_filterMap]
  congr 1
  funext p
  obtain ⟨c, r⟩ := p
  cases r with
  | cord k =>
    simp only [liveU, HR.live]
    split <;> rfl
  | busy => rfl
  | none => rfl
theorem heldU_filter {t t' : Int} (h : t ≤ t') (done : List HR.CR) : (heldU t done).filter (fun p => decide (t' < p.2)) = heldU t' done := by
  unfold heldU
  rw [List.filter_filterMap]
  congr 1
  funext p
  obtain ⟨c, r⟩ := p
  cases r with
  | cord k =>
    simp only [liveU]
    by_cases h1 : t < c.t + c.s
    · rw [if_pos h1]
      by_cases h2 : t' < c.t + c.s
      · simp [h2]
      · simp [h2]
        omega
    · rw [if_neg h1, if_neg (by omega)]
      rfl
  | busy => rfl
  | none => rfl
theorem heldU_app (t : Int) (l l' : List HR.CR) : heldU t (l ++ l') = heldU t l ++ heldU t l' := by simp [heldU]
end K30

namespace K30
open PySem L2 DL
theorem any_ints (x : Int) (l : List Int) : ((l.map PyData.int).any fun e => PyData.eqv e (.int x)) = decide (x ∈ l) := by
  rw [List.any_map, Bool.eq_iff_iff]
  simp only [List.any_eq_true, Function.comp, PyData.eqv, decide_eq_true_eq]
  constructor
  · rintro ⟨y, hy, e⟩
    rw [← (by simpa using e : y = x)]
    exact hy
  · intro h
    exact ⟨x, h, by simp⟩
theorem in_ints (x : Int) (l : List Int) : sInA (.int x) (.list (l.map PyData.int)) = some (.bool (decide (x ∈ l))) := by
  simp only [sInA]
  rw [if_pos ⟨rfl, shapedInts l⟩, any_ints]
theorem notin_ints (x : Int) (l : List Int) : sNotInA (.int x) (.list (l.map PyData.int)) = some (.bool (!decide (x ∈ l))) := by
  unfold sNotInA
  rw [in_ints]
theorem eq_nil_ints (l : List Int) : sEq (.list (l.map PyData.int)) (.list []) = some (.bool (decide (l = []))) := by
  unfold sEq
  rw [if_pos ⟨shapedInts l, by decide⟩]
  cases l with
  | nil => rfl
  | cons a r => rfl
theorem ixSet_nat (F : List D) (i : Nat) (d : D) (h : i < F.length) : ixSet F (.int i) d = some (F.set i d) := by
  simp only [ixSet, ixN]
  rw [if_pos (Int.natCast_nonneg i), if_pos (by omega)]
  rfl
theorem call_ix (cs : List HR.C4) {i : Nat} (h : i < cs.length) : sIx (encCs cs) (.int i) = some (encC (HR.call cs i)) := by
  unfold encCs
  rw [sIx_list, DL.atI_nat, List.getElem?_map, List.getElem?_eq_getElem h]
  simp [HR.call, h]
theorem free_eq (n : Nat) (l : List HR.Tr) : ((List.range n).filter fun (k : Nat) => !decide ((k : Int) ∈ l.map fun x => (x.k : Int))) = HR.free n l := by
  unfold HR.free
  refine List.filter_congr fun k _ => ?_
  have e : ((k : Int) ∈ l.map fun x => (x.k : Int)) ↔ k ∈ l.map HR.Tr.k := by
    simp only [List.mem_map]
    constructor
    · rintro ⟨x, hx, e⟩; exact ⟨x, hx, by omega⟩
    · rintro ⟨x, hx, e⟩; exact ⟨x, hx, by omega⟩
  rw [Bool.eq_iff_iff]
  simp only [Bool.not_eq_true', decide_eq_false_iff_not, decide_eq_true_eq, e]
def newH (c : HR.C4) : HR.R → List (HR.Tr × Int)
  | .cord k => [(⟨k, c.a, c.b⟩, c.t + c.s)]
  | _ => []
theorem led_body (cs : List HR.C4) (n : Nat) (hn : n ≤ 100) (F : List D) (ord : D) (h : List (HR.Tr × Int)) (hh : h.length ≤ 1000) (i : Nat) (hi : i < cs.length) (hF : F.length = cs.length) (c : HR.C4) (hc : HR.call cs i = c) (h' : List (HR.Tr × Int)) (hf : h.filter (fun p => decide (c.t < p.2)) = h') (r : HR.R) (hr : HR.dec n (h'.map (·.1)) c = r) (s6 s7 s8 s9 s10 s11 s13 : Sl) :
    ∃ t10 t11, L_led_8 [.dat (encCs cs), .dat (.int n), .lst F, .dat ord, .lst (h.map encH), .dat (.int i), s6, s7, s8, s9, s10, s11, .un, .un] =
      .ok (.nx [.dat (encCs cs), .dat (.int n), .lst (F.set i (encR r)), .dat ord, .lst ((h' ++ newH c r).map encH), .dat (.int i), .dat (.int c.a), .dat (.int c.b), .dat (.int c.t), .dat (.int c.s), t10, t11, .un, .un]) := by
  have h16 := sizeLine_eq
  have hh' : h'.length ≤ 1000 := by
    rw [← hf]
    exact Nat.le_trans (List.length_filter_le _ _) hh
  have g1 := comp_nm (i := 12) (c := C_led_1) (f := E_led_2) (ε := [.dat (encCs cs), .dat (.int n), .lst F, .dat ord, .lst (h.map encH), .dat (.int i), .dat (.int c.a), .dat (.int c.b), .dat (.int c.t), .dat (.int c.s), s10, s11, .un, .un]) encH (fun p => decide (c.t < p.2)) encH h (fun p _ => by simp [C_led_1, encH]) (fun p _ _ => by simp [E_led_2])
  rw [hf] at g1
  have g2 := comp_all (i := 12) (f := E_led_3) (ε := [.dat (encCs cs), .dat (.int n), .lst F, .dat ord, .lst (h'.map encH), .dat (.int i), .dat (.int c.a), .dat (.int c.b), .dat (.int c.t), .dat (.int c.s), s10, s11, .un, .un]) encH (fun p => .int p.1.a) h' (fun p _ => by simp [E_led_3, encH])
  have g3 := comp_all (i := 12) (f := E_led_4) (ε := [.dat (encCs cs), .dat (.int n), .lst F, .dat ord, .lst (h'.map encH), .dat (.int i), .dat (.int c.a), .dat (.int c.b), .dat (.int c.t), .dat (.int c.s), s10, s11, .un, .un]) encH (fun p => .int p.1.b) h' (fun p _ => by simp [E_led_4, encH])
  have eL : (h'.map fun p => PyData.int p.1.a) ++ (h'.map fun p => PyData.int p.1.b) = (HR.lines (h'.map (·.1))).map PyData.int := by
    simp only [HR.lines, List.map_map, List.map_append]
    rfl
  have g4 : ∀ k : Nat, compL (.nm 12) yesT E_led_5 [.dat (encCs cs), .dat (.int n), .lst F, .dat ord, .lst (h'.map encH), .dat (.int i), .dat (.int c.a), .dat (.int c.b), .dat (.int c.t), .dat (.int c.s), .dat (.list ((HR.lines (h'.map (·.1))).map PyData.int)), s11, .un, .dat (.int k)] (h'.map encH) = .ok (((h'.map (·.1)).map fun x => (x.k : Int)).map PyData.int) := fun k => by
    rw [comp_all (i := 12) (f := E_led_5) encH (fun p => .int p.1.k) h' (fun p _ => by simp [E_led_5, encH])]
    simp [List.map_map, Function.comp]
  have g5 := comp_nm (i := 13) (c := C_led_6) (f := E_led_7) (ε := [.dat (encCs cs), .dat (.int n), .lst F, .dat ord, .lst (h'.map encH), .dat (.int i), .dat (.int c.a), .dat (.int c.b), .dat (.int c.t), .dat (.int c.s), .dat (.list ((HR.lines (h'.map (·.1))).map PyData.int)), s11, .un, .un]) (fun (k : Nat) => PyData.int (k : Int)) (fun k => !decide ((k : Int) ∈ (h'.map (·.1)).map fun x => (x.k : Int))) (fun k => .int k) (List.range n) (fun k _ => by
    simp [-List.map_map, C_led_6, g4, notin_ints]) (fun k _ _ => by simp [E_led_7])
  rw [free_eq] at g5
  have hs : sR1 (.int (n : Int)) = some ((List.range n).map fun (k : Nat) => PyData.int (k : Int)) := by
    rw [sR1_int, if_pos (by omega), rng0]
    simp
  have hix := call_ix cs hi
  rw [hc] at hix
  have hcat : sCat (.list (h'.map fun p => PyData.int p.1.a)) (.list (h'.map fun p => PyData.int p.1.b)) = some ((HR.lines (h'.map (·.1))).map PyData.int) := by
    rw [← eL]
    simp only [sCat]
    rw [if_pos (by simp; omega)]
  have hfi : ((HR.free n (h'.map (·.1))).map fun (k : Nat) => PyData.int (k : Int)) = ((HR.free n (h'.map (·.1))).map fun (k : Nat) => (k : Int)).map PyData.int := by rw [List.map_map]; rfl
  have hput : ∀ d, ixSet F (.int i) d = some (F.set i d) := fun d => ixSet_nat F i d (by omega)
  refine ⟨.dat (.list ((HR.lines (h'.map (·.1))).map PyData.int)), .dat (.list ((HR.free n (h'.map (·.1))).map fun (k : Nat) => PyData.int (k : Int))), ?_⟩
  have hfr : HR.free n (h'.map (·.1)) = [] ∨ ∃ k r, HR.free n (h'.map (·.1)) = k :: r := by
    cases HR.free n (h'.map (·.1)) with
    | nil => exact .inl rfl
    | cons k r => exact .inr ⟨k, r, rfl⟩
  by_cases hb : c.a ∈ HR.lines (h'.map (·.1)) ∨ c.b ∈ HR.lines (h'.map (·.1))
  · have er : r = .busy := by rw [← hr]; exact HR.dec_busy hb
    subst er
    rcases hb with hb | hb
    · simp [-List.map_map, -List.map_append, L_led_8, hix, encC, asg, setAll, g1, g2, g3, hcat, hs, g5, in_ints, hb, hput, newH, encR]
    · by_cases hb2 : c.a ∈ HR.lines (h'.map (·.1))
      · simp [-List.map_map, -List.map_append, L_led_8, hix, encC, asg, setAll, g1, g2, g3, hcat, hs, g5, in_ints, hb, hb2, hput, newH, encR]
      · simp [-List.map_map, -List.map_append, L_led_8, hix, encC, asg, setAll, g1, g2, g3, hcat, hs, g5, in_ints, hb, hb2, hput, newH, encR]
  · have hb1 : ¬ c.a ∈ HR.lines (h'.map (·.1)) := fun z => hb (.inl z)
    have hb2 : ¬ c.b ∈ HR.lines (h'.map (·.1)) := fun z => hb (.inr z)
    have hl : h'.length < 1000000 := by omega
    rcases hfr with he | ⟨k, q, he⟩
    · have er : r = .none := by rw [← hr]; unfold HR.dec; rw [if_neg hb, he]
      subst er
      rw [he] at g5
      have h0 : sEq (.list []) (.list []) = some (.bool true) := rfl
      simp [-List.map_map, -List.map_append, L_led_8, hix, encC, asg, setAll, g1, g2, g3, hcat, hs, g5, in_ints, hb1, hb2, hput, newH, encR, h0, he]
    · have er : r = .cord k := by rw [← hr]; unfold HR.dec; rw [if_neg hb, he]
      subst er
      have h0 : sEq (.list (.int (k : Int) :: q.map fun (k : Nat) => PyData.int (k : Int))) (.list []) = some (.bool false) := by
        have := eq_nil_ints ((k :: q).map fun (k : Nat) => (k : Int))
        rw [List.map_map] at this
        exact this.trans (by simp)
      rw [he] at g5
      simp [-List.map_map, L_led_8, hix, encC, asg, setAll, g1, g2, g3, hcat, hs, g5, in_ints, hb1, hb2, hput, newH, encR, he, hl, encH, h0]
/-- what led tells -/
theorem led_loop (cs : List HR.C4) (n : Nat) (hn : n ≤ 100) (hl : cs.length ≤ 60) (hs : ∀ c ∈ cs, 0 < c.s) (ord : D) (s6 s7 s8 s9 s10 s11 : Sl) :
    ∃ ε', loopD (.nm 5) L_led_8 ((HR.ordI cs).map fun (i : Nat) => PyData.int (i : Int)) [.dat (encCs cs), .dat (.int n), .lst (HR.fnd encO cs.length []), .dat ord, .lst [], .un, s6, s7, s8, s9, s10, s11, .un, .un] = .ok (.nx ε') ∧ ∃ h t5 t6 t7 t8 t9 t10 t11, ε' = [.dat (encCs cs), .dat (.int n), .lst (HR.fnd encO cs.length (HR.pso n cs)), .dat ord, .lst h, t5, t6, t7, t8, t9, t10, t11, .un, .un] := by
  have key := loop_pre (tg := .nm 5) (F := L_led_8) (fun (i : Nat) => PyData.int (i : Int)) (fun pre ε => ∃ h t5 t6 t7 t8 t9 t10 t11, ε = [.dat (encCs cs), .dat (.int n), .lst (HR.fnd encO cs.length (HR.psOf n cs pre)), .dat ord, .lst (h.map encH), t5, t6, t7, t8, t9, t10, t11, .un, .un] ∧ h.length ≤ pre.length ∧
      ∀ t : Int, (∀ i ∈ pre, (HR.call cs i).t ≤ t) → h.filter (fun p => decide (t < p.2)) = heldU t (HR.run n (pre.map (HR.call cs))))
    (HR.ordI cs) [.dat (encCs cs), .dat (.int n), .lst (HR.fnd encO cs.length []), .dat ord, .lst [], .un, s6, s7, s8, s9, s10, s11, .un, .un] ⟨[], _, _, _, _, _, _, _, rfl, Nat.le_refl _, fun t _ => rfl⟩ (by
      rintro pre i suf ε hl2 ⟨h, t5, t6, t7, t8, t9, t10, t11, rfl, hlen, hinv⟩
      have hn1 := HR.ordI_nodup cs
      have hmem : i ∈ HR.ordI cs := by rw [hl2]; simp
      have hi : i < cs.length := HR.ordI_mem.mp hmem
      have hlo : (HR.ordI cs).length = cs.length := by rw [(HR.ordI_perm cs).length_eq, List.length_range]
      have hlp : pre.length < cs.length := by rw [← hlo, hl2]; simp
      have hst := HR.ordI_stable cs
      rw [hl2] at hst hn1
      have hle : ∀ j ∈ pre, (HR.call cs j).t ≤ (HR.call cs i).t := fun j hj => by
        have := (List.pairwise_append.mp hst).2.2 j hj i List.mem_cons_self
        omega
      have hni : i ∉ pre := fun z => (List.nodup_append.mp hn1).2.2 i z i List.mem_cons_self rfl
      have hf := hinv _ hle
      obtain ⟨r, hr⟩ : ∃ r, HR.dec n ((heldU (HR.call cs i).t (HR.run n (pre.map (HR.call cs)))).map (·.1)) (HR.call cs i) = r := ⟨_, rfl⟩
      obtain ⟨u10, u11, e⟩ := led_body cs n hn (HR.fnd encO cs.length (HR.psOf n cs pre)) ord h (by omega) i hi (HR.fnd_len _ _ _) _ rfl _ hf r hr t6 t7 t8 t9 t10 t11 .un
      refine ⟨_, _, rfl, .inl e, heldU (HR.call cs i).t (HR.run n (pre.map (HR.call cs))) ++ newH (HR.call cs i) r, .dat (.int i), .dat (.int (HR.call cs i).a), .dat (.int (HR.call cs i).b), .dat (.int (HR.call cs i).t), .dat (.int (HR.call cs i).s), u10, u11, ?_, ?_, ?_⟩
      · have e2 := HR.fnd_set encO (m := cs.length) (ps := HR.psOf n cs pre) (i := i) (r := r) (by rw [HR.psOf_fst]; exact hni)
        rw [HR.psOf_snoc]
        rw [heldU_map] at hr
        rw [hr, ← e2]
        rfl
      · have e3 : (newH (HR.call cs i) r).length ≤ 1 := by cases r <;> simp [newH]
        have e4 : (heldU (HR.call cs i).t (HR.run n (pre.map (HR.call cs)))).length ≤ h.length := by rw [← hf]; exact List.length_filter_le _ _
        rw [List.length_append, List.length_append, List.length_singleton]
        omega
      · intro t ht
        have ht1 : ∀ j ∈ pre, (HR.call cs j).t ≤ t := fun j hj => ht j (by simp [hj])
        have ht2 : (HR.call cs i).t ≤ t := ht i (by simp)
        rw [List.filter_append, heldU_filter ht2, List.map_append, List.map_singleton, HR.run_snoc, heldU_app]
        congr 1
        rw [heldU_map] at hr
        rw [hr]
        have hsi := hs _ (HR.call_mem hi)
        cases r with
        | busy => rfl
        | none => rfl
        | cord k =>
          simp only [newH, heldU, List.filterMap_cons, List.filterMap_nil, liveU]
          by_cases hlt : t < (HR.call cs i).t + (HR.call cs i).s
          · simp [hlt]
          · simp [hlt])
  obtain ⟨ε', e1, h, t5, t6, t7, t8, t9, t10, t11, rfl, _, _⟩ := key
  exact ⟨_, e1, _, _, _, _, _, _, _, _, rfl⟩
theorem key_eq (cs : List HR.C4) {i : Nat} (h : i < cs.length) : keyO (cs.map encC) 2 (i : Int) = some (HR.call cs i).t := by
  unfold keyO
  rw [if_pos (Int.natCast_nonneg i)]
  have e : (cs.map encC)[((i : Nat) : Int).toNat]? = some (encC (HR.call cs i)) := by
    rw [Int.toNat_natCast, List.getElem?_map, List.getElem?_eq_getElem h]
    simp [HR.call, h]
  rw [e]
  simp [encC, L2.atI, L2.ixN]
theorem sort_eq (cs : List HR.C4) : sortK (encCs cs) 2 (.list (rng 0 cs.length)) = some ((HR.ordI cs).map fun (i : Nat) => PyData.int (i : Int)) := by
  have e1 : rng 0 (cs.length : Int) = ((List.range cs.length).map fun (i : Nat) => (i : Int)).map PyData.int := by
    rw [rng0, List.map_map]
    simp
  rw [e1]
  unfold encCs
  simp only [sortK]
  rw [ints?_map, Option.bind_some, if_pos]
  · congr 1
    rw [dataLe_eq, ← List.map_mergeSort (r := HR.leT cs)]
    · rw [List.map_map]
      rfl
    · intro a ha b hb
      rw [key_eq cs (List.mem_range.mp ha), key_eq cs (List.mem_range.mp hb)]
      rfl
  · rw [List.all_map, List.all_eq_true]
    intro i hi
    simp [key_eq cs (List.mem_range.mp hi)]
theorem led_eq (cs : List HR.C4) (n : Nat) (hn : n ≤ 100) (hl : cs.length ≤ 60) (hs : ∀ c ∈ cs, 0 < c.s) : m_led [encCs cs, .int n] = .ok (.list ((HR.told n cs).map encR)) := by
  obtain ⟨ε', e1, h, t5, t6, t7, t8, t9, t10, t11, rfl⟩ := led_loop cs n hn hl hs (.list ((HR.ordI cs).map fun (i : Nat) => PyData.int (i : Int))) .un .un .un .un .un .un
  have e2 : sRep (.list [.none]) (.int cs.length) = some (HR.fnd encO cs.length []) := by
    rw [HR.fnd_nil]
    simp only [sRep]
    rw [if_pos ⟨Int.natCast_nonneg _, by omega, by simp⟩, Int.toNat_natCast, List.flatten_replicate_singleton]
    rfl
  have e3 : sLen (encCs cs) = some (.int cs.length) := by simp [encCs]
  have e4 : sR1 (.int (cs.length : Int)) = some (rng 0 cs.length) := by rw [sR1_int, if_pos (by omega)]
  have e5 : HR.fnd encO cs.length (HR.pso n cs) = (HR.told n cs).map encR := HR.fnd_told encO n cs
  rw [e5] at e1
  simp [-List.map_map, m_led, runF, F_led, e2, e3, e4, sort_eq, e1]
end K30

namespace DL
open PySem L2
theorem comp_tg {α : Type} {tg : Tg} {c : En → M Bool} {f : En → M D} {ε : En} (enc : α → D) (st : α → En) (p : α → Bool) (g : α → D) : ∀ l : List α, (∀ a ∈ l, asg tg (enc a) ε = .ok (st a)) → (∀ a ∈ l, c (st a) = .ok (p a)) → (∀ a ∈ l, p a = true → f (st a) = .ok (g a)) → compL tg c f ε (l.map enc) = .ok ((l.filter p).map g)
  | [], _, _, _ => rfl
  | a :: l, hs, hc, hf => by
    have ih := comp_tg enc st p g l (fun a h => hs a (List.mem_cons_of_mem _ h)) (fun a h => hc a (List.mem_cons_of_mem _ h)) (fun a h => hf a (List.mem_cons_of_mem _ h))
    rw [List.map_cons]
    unfold compL
    simp only [hs a List.mem_cons_self, bnd_ok, hc a List.mem_cons_self, hush]
    cases hp : p a with
    | false =>
      simp only [Bool.false_eq_true, if_false]
      rw [ih, List.filter_cons_of_neg (by simp [hp])]
    | true =>
      simp only [if_true]
      rw [hf a List.mem_cons_self hp]
      simp only [hush, bnd_ok]
      rw [ih, List.filter_cons_of_pos hp]
      rfl
theorem comp_tall {α : Type} {tg : Tg} {f : En → M D} {ε : En} (enc : α → D) (st : α → En) (g : α → D) (l : List α) (hs : ∀ a ∈ l, asg tg (enc a) ε = .ok (st a)) (hf : ∀ a ∈ l, f (st a) = .ok (g a)) : compL tg yesT f ε (l.map enc) = .ok (l.map g) := by
  rw [comp_tg (c := yesT) enc st (fun _ => true) g l hs (fun _ _ => rfl) (fun a h _ => hf a h), List.filter_eq_self.mpr (fun _ _ => rfl)]
def enc2 {α β : Type} (f : α → D) (g : β → D) (p : α × β) : D := .tuple [f p.1, g p.2]
theorem zipD_map {α β : Type} (f : α → D) (g : β → D) : ∀ (l : List α) (m : List β), zipD (l.map f) (m.map g) = (l.zip m).map (enc2 f g)
  | [], _ => rfl
  | a :: l, [] => rfl
  | a :: l, b :: m => by
    have ih := zipD_map f g l m
    unfold zipD at ih ⊢
    simp only [List.map_cons, List.zipWith_cons_cons, List.zip_cons_cons, ih]
    rfl
theorem sZip_map {α β : Type} (f : α → D) (g : β → D) (l : List α) (m : List β) : sZip (.list (l.map f)) (.list (m.map g)) = some ((l.zip m).map (enc2 f g)) := by
  simp only [sZip, zipD_map]
theorem sEnum_map {α : Type} (f : α → D) (l : List α) : sEnum (.list (l.map f)) = some (l.zipIdx.map fun p => .tuple [.int (p.2 : Int), f p.1]) := by
  simp only [sEnum, enumD]
  rw [List.zipIdx_map, List.map_map]
  rfl
/-! ### texts and numbers compared -/
section
variable {s t : Str} (hs : SeqAt.shaped (.str s) = true) (ht : SeqAt.shaped (.str t) = true)
include hs
theorem sEq_is (k : Int) : sEq (.int k) (.str s) = some (.bool false) := by
  unfold sEq
  rw [if_pos ⟨sh_int k, hs⟩]
  simp [PyData.eqv]
theorem sEq_si (k : Int) : sEq (.str s) (.int k) = some (.bool false) := by
  unfold sEq
  rw [if_pos ⟨hs, sh_int k⟩]
  simp [PyData.eqv]
theorem sNe_is (k : Int) : sNe (.int k) (.str s) = some (.bool true) := by
  unfold sNe
  rw [if_pos ⟨sh_int k, hs⟩]
  simp [PyData.eqv]
theorem sNe_si (k : Int) : sNe (.str s) (.int k) = some (.bool true) := by
  unfold sNe
  rw [if_pos ⟨hs, sh_int k⟩]
  simp [PyData.eqv]
theorem sNe_ns : sNe .none (.str s) = some (.bool true) := by
  unfold sNe
  rw [if_pos ⟨sh_none, hs⟩]
  simp [PyData.eqv]
include ht
theorem sEq_ss : sEq (.str s) (.str t) = some (.bool (s == t)) := by
  unfold sEq
  rw [if_pos ⟨hs, ht⟩]
  simp [PyData.eqv]
theorem sNe_ss : sNe (.str s) (.str t) = some (.bool (!(s == t))) := by
  unfold sNe
  rw [if_pos ⟨hs, ht⟩]
  simp [PyData.eqv]
end
end DL

namespace K30
open PySem L2 DL
def nbusy (r : HR.R) : Bool := decide (r ≠ .busy)
theorem ne_busy (r : HR.R) : sNe (encR r) (.str "busy") = some (.bool (nbusy r)) := by
  cases r with
  | cord k => exact sNe_is (by kernel_rfl) _
  | busy => kernel_rfl
  | none => kernel_rfl
theorem foldl_need (rs : List HR.R) : ∀ m : Nat, ((rs.filter nbusy).map fun r => ((HR.cordOf r : Nat) : Int)).foldl max (m : Int) = ((rs.foldl (fun m r => max m (HR.cordOf r)) m : Nat) : Int) := by
  induction rs with
  | nil => intro m; rfl
  | cons r rs ih =>
    intro m
    rw [List.foldl_cons]
    cases r with
    | busy =>
      rw [List.filter_cons_of_neg (by simp [nbusy])]
      rw [ih m]
      simp [HR.cordOf]
    | cord k =>
      rw [List.filter_cons_of_pos (by simp [nbusy]), List.map_cons, List.foldl_cons, ← ih]
      congr 1
      omega
    | none =>
      rw [List.filter_cons_of_pos (by simp [nbusy]), List.map_cons, List.foldl_cons, ← ih]
      congr 1
      omega
section
variable {cs : List HR.C4} (hok : ∀ c ∈ cs, HOk c) (hl : cs.length ≤ 60)
include hok
theorem sized : ∀ c ∈ cs, 0 < c.s := fun c hc => (hok c hc).c.s
theorem cok : ∀ c ∈ cs, HR.COk c := fun c hc => (hok c hc).c
include hl
theorem carried_eq (n : Nat) (hn : n ≤ 8) : m_carried [encCs cs, .int n] = .ok (.list ((HR.told n cs).map encR)) := by
  have h1 : ((n : Int) ≤ 8) := by omega
  simp [m_carried, runF, F_carried, need_calls_eq hok hl, is_count_int, h1, led_eq cs n (by omega) hl (sized hok)]
theorem fewest_eq : m_fewest [encCs cs] = .ok (.int (HR.fewest cs)) := by
  have hled : m_led [encCs cs, .int 20] = .ok (.list ((HR.told 20 cs).map encR)) := led_eq cs 20 (by omega) hl (sized hok)
  have g1 := comp_nm (i := 2) (c := C_fewest_1) (f := E_fewest_2) (ε := [.dat (encCs cs), .un, .un]) encR nbusy encR (HR.told 20 cs) (fun r _ => by simp [C_fewest_1, ne_busy]) (fun r _ _ => by simp [E_fewest_2])
  have hno : HR.R.none ∉ HR.told 20 cs := fun z => by
    have := (HR.none_told (cok hok)).mp z
    have := HR.fewest_le (cok hok)
    omega
  have g2 := comp_all (i := 2) (f := E_fewest_3) (ε := [.dat (encCs cs), .dat (.list (((HR.told 20 cs).filter nbusy).map encR)), .un]) encR (fun r => .int (HR.cordOf r)) ((HR.told 20 cs).filter nbusy) (fun r hr => by
    obtain ⟨h1, h2⟩ := List.mem_filter.mp hr
    cases r with
    | cord k => simp [E_fewest_3, encR, HR.cordOf]
    | busy => simp [nbusy] at h2
    | none => exact absurd h1 hno)
  have e1 : sCat (.list [.int 0]) (.list (((HR.told 20 cs).filter nbusy).map fun r => PyData.int (HR.cordOf r))) = some (.int 0 :: (((HR.told 20 cs).filter nbusy).map fun r => ((HR.cordOf r : Nat) : Int)).map PyData.int) := by
    have h16 := sizeLine_eq
    have h3 := List.length_filter_le nbusy (HR.told 20 cs)
    rw [HR.told_len] at h3
    simp only [sCat]
    rw [if_pos (by simp; omega), List.map_map]
    rfl
  have e2 := sMaxA_ints 0 (((HR.told 20 cs).filter nbusy).map fun r => ((HR.cordOf r : Nat) : Int))
  have e3 := foldl_need (HR.told 20 cs) 0
  have e4 : (((HR.told 20 cs).foldl (fun m r => max m (HR.cordOf r)) 0 : Nat)) = HR.fewest cs := HR.need_told cs
  rw [e4] at e3
  have e5 : (((HR.told 20 cs).filter nbusy).map fun r => ((HR.cordOf r : Nat) : Int)).foldl max 0 = (HR.fewest cs : Int) := e3
  rw [e5] at e2
  rw [List.map_cons] at e2
  simp [-List.map_map, m_fewest, runF, F_fewest, need_calls_eq hok hl, hled, g1, g2, e1, e2]
/-- those that are put through, how many at once when each begins, and when -/
def prs (X : List HR.C4) : List (Int × Int) := X.map fun x => ((HR.cnt X x.t : Nat), 0 - x.t)
def grP (X : List HR.C4) : Int × Int := match prs X with
  | [] => (0, 0)
  | p :: ps => mxP p ps
def encX (c : HR.C4) : D := .tuple [.int c.t, .int (c.t + c.s)]
theorem greatest_eq : m_greatest [encCs cs] = .ok (if HR.rows cs (HR.told 20 cs) = [] then .none else eP ((grP (HR.rows cs (HR.told 20 cs))).1, 0 - (grP (HR.rows cs (HR.told 20 cs))).2)) := by
  have hled : m_led [encCs cs, .int 20] = .ok (.list ((HR.told 20 cs).map encR)) := led_eq cs 20 (by omega) hl (sized hok)
  obtain ⟨X, hX⟩ : ∃ X, HR.rows cs (HR.told 20 cs) = X := ⟨_, rfl⟩
  have hXl : X.length ≤ 60 := by
    rw [← hX]
    unfold HR.rows
    rw [List.length_map]
    refine Nat.le_trans (List.length_filter_le _ _) ?_
    rw [List.length_zip, HR.told_len]
    omega
  have g1 := comp_tg (tg := .tp [5, 6]) (c := C_greatest_1) (f := E_greatest_2) (ε := [.dat (encCs cs), .dat (.list ((HR.told 20 cs).map encR)), .un, .un, .un, .un, .un, .un, .un, .un, .un]) (enc2 encC encR) (fun p => [.dat (encCs cs), .dat (.list ((HR.told 20 cs).map encR)), .un, .un, .un, .dat (encC p.1), .dat (encR p.2), .un, .un, .un, .un]) (fun p => nbusy p.2) (fun p => encX p.1) (cs.zip (HR.told 20 cs)) (fun p _ => by simp [asg, setAll, enc2]) (fun p _ => by simp [C_greatest_1, ne_busy]) (fun p _ _ => by simp [E_greatest_2, encC, encX])
  have ez := sZip_map encC encR cs (HR.told 20 cs)
  have eX : ((cs.zip (HR.told 20 cs)).filter fun p => nbusy p.2).map (fun p => encX p.1) = X.map encX := by
    rw [← hX]
    unfold HR.rows
    rw [List.map_map]
    rfl
  rw [eX] at g1
  have g2 : ∀ (t u : Int) (m : Sl), compL (.tp [9, 10]) C_greatest_3 E_greatest_4 [.dat (encCs cs), .dat (.list ((HR.told 20 cs).map encR)), .dat (.list (X.map encX)), .un, .un, .un, .un, .dat (.int t), .dat (.int u), .un, .un] (X.map encX) = .ok ((X.filter (HR.inT t)).map fun _ => .int 1) := fun t u m => by
    refine comp_tg (tg := .tp [9, 10]) encX (fun p => [.dat (encCs cs), .dat (.list ((HR.told 20 cs).map encR)), .dat (.list (X.map encX)), .un, .un, .un, .un, .dat (.int t), .dat (.int u), .dat (.int p.t), .dat (.int (p.t + p.s))]) (HR.inT t) (fun _ => .int 1) X (fun p _ => by simp [asg, setAll, encX]) (fun p _ => ?_) (fun p _ _ => by simp [E_greatest_4])
    by_cases h : p.t ≤ t <;> simp [C_greatest_3, HR.inT, h]
  have g3 := comp_tall (tg := .tp [7, 8]) (f := E_greatest_5) (ε := [.dat (encCs cs), .dat (.list ((HR.told 20 cs).map encR)), .dat (.list (X.map encX)), .un, .un, .un, .un, .un, .un, .un, .un]) encX (fun p => [.dat (encCs cs), .dat (.list ((HR.told 20 cs).map encR)), .dat (.list (X.map encX)), .un, .un, .un, .un, .dat (.int p.t), .dat (.int (p.t + p.s)), .un, .un]) (fun p => eP ((HR.cnt X p.t : Nat), 0 - p.t)) X (fun p _ => by simp [asg, setAll, encX]) (fun p _ => by
    simp [E_greatest_5, g2 p.t (p.t + p.s) .un, eP, HR.cnt])
  have e3 : (X.map fun p => eP ((HR.cnt X p.t : Nat), 0 - p.t)) = (prs X).map eP := by
    unfold prs
    rw [List.map_map]
    rfl
  rw [e3] at g3
  rw [hX]
  have ez' : sZip (encCs cs) (.list ((HR.told 20 cs).map encR)) = some ((cs.zip (HR.told 20 cs)).map (enc2 encC encR)) := ez
  by_cases hn : X = []
  · have e0 : sEq (.list []) (.list []) = some (.bool true) := rfl
    rw [hn] at g1
    simp [-List.map_map, m_greatest, runF, F_greatest, need_calls_eq hok hl, hled, ez', g1, e0, hn]
  · have e0 : sEq (.list (X.map encX)) (.list []) = some (.bool false) := by
      unfold sEq
      rw [if_pos ⟨(shN_list (n := 1) fun d hd => by
        obtain ⟨y, _, rfl⟩ := List.mem_map.mp hd
        exact shN_tup (n := 0) fun d hd => by
          simp at hd
          rcases hd with rfl | rfl <;> exact shN_int _).sh, by decide⟩]
      cases X with
      | nil => exact absurd rfl hn
      | cons x X' => rfl
    have e4 : sMaxA (.list ((prs X).map eP)) = some (eP (grP X)) := by
      unfold grP
      cases hp : prs X with
      | nil =>
        exfalso
        unfold prs at hp
        exact hn (List.map_eq_nil_iff.mp hp)
      | cons p ps => exact sMaxA_pairs p ps
    obtain ⟨q, hq⟩ : ∃ q, grP X = q := ⟨_, rfl⟩
    rw [hq] at e4
    have e5 : sIx (eP q) (.int 0) = some (.int q.1) := by simp [eP]
    have e6 : sIx (eP q) (.int 1) = some (.int q.2) := by simp [eP]
    simp [-List.map_map, m_greatest, runF, F_greatest, need_calls_eq hok hl, hled, ez', g1, e0, g3, e4, e5, e6, hq, hn]
    simp [eP]
end
end K30

namespace K30
open PySem L2 DL
/-! ### the law's own way -/
def encS : Option HR.R → D
  | some r => encR r
  | none => .str ""
def encT (x : HR.Tr) : D := .tuple [.int x.k, .int x.a, .int x.b]
theorem enum_calls (cs : List HR.C4) : sEnum (encCs cs) = some ((List.range cs.length).map fun (i : Nat) => PyData.tuple [.int (i : Int), encC (HR.call cs i)]) := by
  unfold encCs
  rw [sEnum_map]
  congr 1
  apply List.ext_getElem?
  intro i
  by_cases h : i < cs.length
  · rw [List.getElem?_map, List.getElem?_map, List.getElem?_range h, List.getElem?_zipIdx, List.getElem?_eq_getElem h]
    simp [HR.call, h]
  · rw [List.getElem?_eq_none (by simp; omega), List.getElem?_eq_none (by simp; omega)]
theorem told_at (m : Nat) (ps : List (Nat × HR.R)) {i : Nat} (h : i < m) : sIx (.list (HR.fnd encS m ps)) (.int i) = some (encS (HR.look? ps i)) := by
  rw [sIx_list, DL.atI_nat, HR.fnd_get _ _ h]
def nowF (cs : List HR.C4) (ps : List (Nat × HR.R)) (b : Int) (o : Nat) : Option HR.Tr := match HR.look? ps o with
  | some (.cord k) => if (HR.call cs o).t ≤ b ∧ b < (HR.call cs o).t + (HR.call cs o).s then some ⟨k, (HR.call cs o).a, (HR.call cs o).b⟩ else none
  | _ => none
def nowL (cs : List HR.C4) (ps : List (Nat × HR.R)) (b : Int) : List HR.Tr := (List.range cs.length).filterMap (nowF cs ps b)
theorem now_loop (cs : List HR.C4) (hl : cs.length ≤ 60) (ps : List (Nat × HR.R)) (b : Int) (s1 s4 s5 s7 s8 s9 : Sl) :
    ∃ t7 t8, loopD (.tp [7, 8]) L_law_carried_3 ((List.range cs.length).map fun (i : Nat) => PyData.tuple [.int (i : Int), encC (HR.call cs i)]) [.dat (encCs cs), s1, .lst (HR.fnd encS cs.length ps), .dat (.int b), s4, s5, .lst [], s7, s8, s9, .un, .un] =
      .ok (.nx [.dat (encCs cs), s1, .lst (HR.fnd encS cs.length ps), .dat (.int b), s4, s5, .lst ((nowL cs ps b).map encT), t7, t8, s9, .un, .un]) := by
  have key := loop_pre (tg := .tp [7, 8]) (F := L_law_carried_3) (fun (i : Nat) => PyData.tuple [.int (i : Int), encC (HR.call cs i)]) (fun pre ε => ∃ t7 t8, ε = [.dat (encCs cs), s1, .lst (HR.fnd encS cs.length ps), .dat (.int b), s4, s5, .lst ((pre.filterMap (nowF cs ps b)).map encT), t7, t8, s9, .un, .un])
    (List.range cs.length) [.dat (encCs cs), s1, .lst (HR.fnd encS cs.length ps), .dat (.int b), s4, s5, .lst [], s7, s8, s9, .un, .un] ⟨_, _, rfl⟩ (by
      rintro pre i suf ε hl2 ⟨t7, t8, rfl⟩
      have hi : i < cs.length := List.mem_range.mp (by rw [hl2]; simp)
      have hlp : pre.length < 60 := by
        have := congrArg List.length hl2
        simp at this
        omega
      have hle : (pre.filterMap (nowF cs ps b)).length < 1000000 := by
        have := List.length_filterMap_le (nowF cs ps b) pre
        omega
      have hat := told_at cs.length ps hi
      refine ⟨_, [.dat (encCs cs), s1, .lst (HR.fnd encS cs.length ps), .dat (.int b), s4, s5, .lst (((pre ++ [i]).filterMap (nowF cs ps b)).map encT), .dat (.int i), .dat (encC (HR.call cs i)), s9, .un, .un], rfl, .inl ?_, _, _, rfl⟩
      rw [List.filterMap_append]
      cases hlk : HR.look? ps i with
      | none =>
        have e : nowF cs ps b i = none := by unfold nowF; rw [hlk]
        simp [L_law_carried_3, asg, setAll, hat, hlk, encS, bInt, e]
      | some r =>
        cases r with
        | busy =>
          have e : nowF cs ps b i = none := by unfold nowF; rw [hlk]
          simp [L_law_carried_3, asg, setAll, hat, hlk, encS, encR, bInt, e]
        | none =>
          have e : nowF cs ps b i = none := by unfold nowF; rw [hlk]
          simp [L_law_carried_3, asg, setAll, hat, hlk, encS, encR, bInt, e]
        | cord k =>
          by_cases h1 : (HR.call cs i).t ≤ b
          · by_cases h2 : b < (HR.call cs i).t + (HR.call cs i).s
            · have e : nowF cs ps b i = some ⟨k, (HR.call cs i).a, (HR.call cs i).b⟩ := by unfold nowF; rw [hlk]; exact if_pos ⟨h1, h2⟩
              simp [L_law_carried_3, asg, setAll, hat, hlk, encS, encR, encC, bInt, e, h1, h2, hle, encT]
            · have e : nowF cs ps b i = none := by unfold nowF; rw [hlk]; exact if_neg fun z => h2 z.2
              simp [L_law_carried_3, asg, setAll, hat, hlk, encS, encR, encC, bInt, e, h1, h2]
          · have e : nowF cs ps b i = none := by unfold nowF; rw [hlk]; exact if_neg fun z => h1 z.1
            simp [L_law_carried_3, asg, setAll, hat, hlk, encS, encR, encC, bInt, e, h1])
  obtain ⟨ε', e1, t7, t8, rfl⟩ := key
  exact ⟨_, _, e1⟩
end K30

namespace K30
open PySem L2 DL
theorem row_cut (x : HR.Tr) : sCut (encT x) (some 1) none = some (.tuple [.int x.a, .int x.b]) := by
  have : cutL [PyData.int x.k, .int x.a, .int x.b] (some 1) none = [.int x.a, .int x.b] := rfl
  unfold encT
  simp only [sCut, this]
theorem in_two (z a b : Int) : sInA (.int z) (.tuple [.int a, .int b]) = some (.bool (decide (a = z) || decide (b = z))) := by
  simp only [sInA, flat, List.all_cons, List.all_nil, Bool.and_self, and_self, if_true, List.any_cons, List.any_nil, Bool.or_false, PyData.eqv]
  rfl
def confB (c : HR.C4) (x : HR.Tr) : Bool := (decide (x.a = c.a) || decide (x.b = c.a)) || (decide (x.a = c.b) || decide (x.b = c.b))
theorem conf_iff (c : HR.C4) (l : List HR.Tr) : l.filter (confB c) ≠ [] ↔ HR.isBusy l c := by
  rw [Ne, List.filter_eq_nil_iff]
  unfold HR.isBusy HR.lines
  simp only [List.mem_append, List.mem_map, Classical.not_forall, Classical.not_not]
  constructor
  · rintro ⟨x, hx, h⟩
    simp only [confB, Bool.or_eq_true, decide_eq_true_eq] at h
    rcases h with (h | h) | (h | h)
    · exact .inl (.inl ⟨x, hx, h⟩)
    · exact .inl (.inr ⟨x, hx, h⟩)
    · exact .inr (.inl ⟨x, hx, h⟩)
    · exact .inr (.inr ⟨x, hx, h⟩)
  · rintro ((⟨x, hx, h⟩ | ⟨x, hx, h⟩) | (⟨x, hx, h⟩ | ⟨x, hx, h⟩)) <;> refine ⟨x, hx, ?_⟩ <;> simp [confB, h]
theorem ne_nil_T (l : List HR.Tr) : sNe (.list (l.map encT)) (.list []) = some (.bool (!decide (l = []))) := by
  unfold sNe
  rw [if_pos ⟨(shN_list (n := 1) fun d hd => by
    obtain ⟨y, _, rfl⟩ := List.mem_map.mp hd
    exact shN_tup (n := 0) fun d hd => by
      simp at hd
      rcases hd with rfl | rfl | rfl <;> exact shN_int _).sh, by decide⟩]
  cases l with
  | nil => rfl
  | cons x l => rfl
theorem law_body (cs : List HR.C4) (hl : cs.length ≤ 60) (n : Nat) (hn : n ≤ 100) (ps : List (Nat × HR.R)) (b : Int) (i : Nat) (hi : i < cs.length) (c : HR.C4) (hc : HR.call cs i = c) (hb : c.t = b) (hni : i ∉ ps.map (·.1)) (r : HR.R) (hr : HR.dec n (nowL cs ps b) c = r) (s6 s7 s8 s9 : Sl) :
    ∃ t6 t7 t8 t9, L_law_carried_9 [.dat (encCs cs), .dat (.int n), .lst (HR.fnd encS cs.length ps), .dat (.int b), .dat (.int i), .dat (encC c), s6, s7, s8, s9, .un, .un] =
      .ok (.nx [.dat (encCs cs), .dat (.int n), .lst (HR.fnd encS cs.length (ps ++ [(i, r)])), .dat (.int b), .dat (.int i), .dat (encC c), t6, t7, t8, t9, .un, .un]) := by
  have h16 := sizeLine_eq
  obtain ⟨t7, t8, g0⟩ := now_loop cs hl ps b (.dat (.int n)) (.dat (.int i)) (.dat (encC c)) s7 s8 s9
  obtain ⟨N, hN⟩ : ∃ N, nowL cs ps b = N := ⟨_, rfl⟩
  rw [hN] at g0 hr
  have g1 := comp_nm (i := 10) (c := C_law_carried_4) (f := E_law_carried_5) (ε := [.dat (encCs cs), .dat (.int n), .lst (HR.fnd encS cs.length ps), .dat (.int b), .dat (.int i), .dat (encC c), .lst (N.map encT), t7, t8, s9, .un, .un]) encT (confB c) encT N (fun x _ => by
    by_cases h : (decide (x.a = c.a) || decide (x.b = c.a)) = true
    · simp [C_law_carried_4, encC, row_cut, in_two, h, confB]
    · rw [Bool.not_eq_true] at h
      simp [C_law_carried_4, encC, row_cut, in_two, h, confB]) (fun x _ _ => by simp [E_law_carried_5])
  have g4 : ∀ k : Nat, compL (.nm 10) yesT E_law_carried_6 [.dat (encCs cs), .dat (.int n), .lst (HR.fnd encS cs.length ps), .dat (.int b), .dat (.int i), .dat (encC c), .lst (N.map encT), t7, t8, s9, .un, .dat (.int k)] (N.map encT) = .ok ((N.map fun x => (x.k : Int)).map PyData.int) := fun k => by
    rw [comp_all (i := 10) (f := E_law_carried_6) encT (fun p => .int p.k) N (fun p _ => by simp [E_law_carried_6, encT])]
    simp [List.map_map, Function.comp]
  have g5 := comp_nm (i := 11) (c := C_law_carried_7) (f := E_law_carried_8) (ε := [.dat (encCs cs), .dat (.int n), .lst (HR.fnd encS cs.length ps), .dat (.int b), .dat (.int i), .dat (encC c), .lst (N.map encT), t7, t8, s9, .un, .un]) (fun (k : Nat) => PyData.int (k : Int)) (fun k => !decide ((k : Int) ∈ N.map fun x => (x.k : Int))) (fun k => .int k) (List.range n) (fun k _ => by
    simp [-List.map_map, C_law_carried_7, g4, notin_ints]) (fun k _ _ => by simp [E_law_carried_8])
  rw [free_eq] at g5
  have hs : sR1 (.int (n : Int)) = some ((List.range n).map fun (k : Nat) => PyData.int (k : Int)) := by
    rw [sR1_int, if_pos (by omega), rng0]
    simp
  have hput : ∀ d, ixSet (HR.fnd encS cs.length ps) (.int i) d = some ((HR.fnd encS cs.length ps).set i d) := fun d => ixSet_nat _ i d (by rw [HR.fnd_len]; exact hi)
  have hset := HR.fnd_set encS (m := cs.length) (r := r) hni
  have hfl : (HR.free n N).length ≤ 100 := by
    have := List.length_filter_le (fun k => decide (k ∉ N.map HR.Tr.k)) (List.range n)
    rw [List.length_range] at this
    unfold HR.free
    omega
  have hcat : sCat (.list ((HR.free n N).map fun (k : Nat) => PyData.int (k : Int))) (.list [.str "no cord"]) = some ((HR.free n N).map (fun (k : Nat) => PyData.int (k : Int)) ++ [.str "no cord"]) := by
    simp only [sCat]
    rw [if_pos (by simp; omega)]
  have e0 : sNe (.int c.t) (.int b) = some (.bool false) := by rw [hb]; simp
  have et : sIx (encC c) (.int 2) = some (.int c.t) := by simp [encC]
  by_cases hbz : HR.isBusy N c
  · have er : r = .busy := by rw [← hr]; exact HR.dec_busy hbz
    subst er
    have hne := ne_nil_T (N.filter (confB c))
    rw [decide_eq_false ((conf_iff c N).mpr hbz)] at hne
    rw [← hset]
    refine ⟨.lst (N.map encT), t7, t8, s9, ?_⟩
    simp [-List.map_map, L_law_carried_9, et, e0, enum_calls, g0, g1, hne, hput, encS, encR]
  · have hne := ne_nil_T (N.filter (confB c))
    rw [decide_eq_true (show N.filter (confB c) = [] from Classical.byContradiction fun z => hbz ((conf_iff c N).mp z))] at hne
    rw [← hset]
    cases he : HR.free n N with
    | nil =>
      have er : r = .none := by rw [← hr]; unfold HR.dec; rw [if_neg (show ¬ (c.a ∈ HR.lines N ∨ c.b ∈ HR.lines N) from hbz), he]
      subst er
      rw [he] at g5 hcat
      refine ⟨.lst (N.map encT), t7, t8, .dat (.list []), ?_⟩
      simp [-List.map_map, L_law_carried_9, et, e0, enum_calls, g0, g1, hne, hput, encS, encR, hs, g5]
      simp only [List.map_nil] at hcat
      simp [hcat, hput]
    | cons k q =>
      have er : r = .cord k := by rw [← hr]; unfold HR.dec; rw [if_neg (show ¬ (c.a ∈ HR.lines N ∨ c.b ∈ HR.lines N) from hbz), he]
      subst er
      rw [he] at g5 hcat
      refine ⟨.lst (N.map encT), t7, t8, .dat (.list ((k :: q).map fun (k : Nat) => PyData.int (k : Int))), ?_⟩
      simp only [List.map_cons] at hcat g5
      simp [-List.map_map, L_law_carried_9, et, e0, enum_calls, g0, g1, hne, hput, encS, encR, hs, g5, hcat]
/-- what stands now is what is held -/
theorem now_held (cs : List HR.C4) (n : Nat) (is : List Nat) (hn : is.Nodup) (hm : ∀ j ∈ is, j < cs.length) (b : Int) (hb : ∀ j ∈ is, (HR.call cs j).t ≤ b) (x : HR.Tr) : x ∈ nowL cs (HR.psOf n cs is) b ↔ x ∈ HR.held b (HR.run n (is.map (HR.call cs))) := by
  have hnd : ((HR.psOf n cs is).map (·.1)).Nodup := by rw [HR.psOf_fst]; exact hn
  have hin : ∀ p ∈ HR.psOf n cs is, p.1 ∈ is := fun p hp => by
    rw [← HR.psOf_fst n cs is]
    exact List.mem_map_of_mem hp
  rw [HR.mem_held, HR.psOf_run]
  unfold nowL
  rw [List.mem_filterMap]
  constructor
  · rintro ⟨o, ho, h⟩
    unfold nowF at h
    split at h
    · rename_i k hk
      split at h
      · rename_i hc
        cases h
        exact ⟨_, List.mem_map_of_mem ((HR.find_mem hnd).mp hk), rfl, rfl, rfl, hc.2⟩
      · cases h
    · cases h
  · rintro ⟨p, hp, hr, ha, hbb, ht⟩
    obtain ⟨q, hq, rfl⟩ := List.mem_map.mp hp
    refine ⟨q.1, List.mem_range.mpr (hm _ (hin q hq)), ?_⟩
    have hk := (HR.find_mem hnd).mpr (show (q.1, q.2) ∈ HR.psOf n cs is from hq)
    unfold nowF
    rw [hk]
    simp only at hr ha hbb ht
    rw [hr]
    simp only
    rw [if_pos ⟨hb _ (hin q hq), ht⟩, ha, hbb]
end K30

namespace K30
open PySem L2 DL
/-- places gone through, at the beginning b up to i -/
def upto (cs : List HR.C4) (b : Int) (bpre : List Int) (l : List Nat) : List Nat := HR.byT cs bpre ++ l.filter fun i => decide ((HR.call cs i).t = b)
theorem range_at {m i : Nat} {pre suf : List Nat} (h : List.range m = pre ++ i :: suf) : pre = List.range i ∧ i < m := by
  have hi : i ∈ List.range m := by rw [h]; simp
  have hlen : pre.length < m := by
    have := congrArg List.length h
    simp at this
    omega
  have h1 : (List.range m)[pre.length]? = some i := by rw [h]; simp
  rw [List.getElem?_range hlen] at h1
  have h2 : pre.length = i := Option.some.inj h1
  have h3 : (List.range m).take i = pre := by rw [h, ← h2]; simp
  rw [List.take_range] at h3
  refine ⟨?_, by omega⟩
  rw [← h3]
  congr 1
  omega
theorem inner_loop (cs : List HR.C4) (hl : cs.length ≤ 60) (n : Nat) (hn : n ≤ 100) (bs : List Int) (hb1 : bs.Pairwise (· < ·)) (bpre bsuf : List Int) (b : Int) (hbs : bs = bpre ++ b :: bsuf) (s4 s5 s6 s7 s8 s9 : Sl) :
    ∃ t4 t5 t6 t7 t8 t9, L_law_carried_10 [.dat (encCs cs), .dat (.int n), .lst (HR.fnd encS cs.length (HR.psOf n cs (HR.byT cs bpre))), .dat (.int b), s4, s5, s6, s7, s8, s9, .un, .un] =
      .ok (.nx [.dat (encCs cs), .dat (.int n), .lst (HR.fnd encS cs.length (HR.psOf n cs (HR.byT cs (bpre ++ [b])))), .dat (.int b), t4, t5, t6, t7, t8, t9, .un, .un]) := by
  have hlt : ∀ x ∈ bpre, x < b := fun x hx => by
    rw [hbs] at hb1
    exact (List.pairwise_append.mp hb1).2.2 x hx b List.mem_cons_self
  have hbp : bpre.Pairwise (· < ·) := by rw [hbs] at hb1; exact (List.pairwise_append.mp hb1).1
  have hby : ∀ j ∈ HR.byT cs bpre, j < cs.length ∧ (HR.call cs j).t < b := fun j hj => by
    obtain ⟨x, hx, h⟩ := List.mem_flatMap.mp hj
    obtain ⟨h1, h2⟩ := List.mem_filter.mp h
    have := hlt x hx
    simp only [decide_eq_true_eq] at h2
    exact ⟨List.mem_range.mp h1, by omega⟩
  have key := loop_pre (tg := .tp [4, 5]) (F := L_law_carried_9) (fun (i : Nat) => PyData.tuple [.int (i : Int), encC (HR.call cs i)]) (fun pre ε => ∃ t4 t5 t6 t7 t8 t9, ε = [.dat (encCs cs), .dat (.int n), .lst (HR.fnd encS cs.length (HR.psOf n cs (upto cs b bpre pre))), .dat (.int b), t4, t5, t6, t7, t8, t9, .un, .un])
    (List.range cs.length) [.dat (encCs cs), .dat (.int n), .lst (HR.fnd encS cs.length (HR.psOf n cs (HR.byT cs bpre))), .dat (.int b), s4, s5, s6, s7, s8, s9, .un, .un] ⟨_, _, _, _, _, _, by unfold upto; rw [List.filter_nil, List.append_nil]⟩ (by
      rintro pre i suf ε hl2 ⟨t4, t5, t6, t7, t8, t9, rfl⟩
      obtain ⟨hpre, hi⟩ := range_at hl2
      by_cases ht : (HR.call cs i).t = b
      · have hu : upto cs b bpre (pre ++ [i]) = upto cs b bpre pre ++ [i] := by
          unfold upto
          rw [List.filter_append, List.filter_cons_of_pos (by simpa using ht), List.filter_nil, List.append_assoc]
        have hnd : (upto cs b bpre pre).Nodup := by
          unfold upto
          rw [List.nodup_append]
          refine ⟨(HR.byT_pair hbp).imp fun {a c} h z => by subst z; omega, ?_, fun a ha c hc z => ?_⟩
          · rw [hpre]; exact List.Pairwise.filter _ List.nodup_range
          · have h1 := (hby a ha).2
            have h2 := (List.mem_filter.mp hc).2
            simp only [decide_eq_true_eq] at h2
            rw [z] at h1
            omega
        have hm : ∀ j ∈ upto cs b bpre pre, j < cs.length ∧ (HR.call cs j).t ≤ b ∧ j ≠ i := fun j hj => by
          unfold upto at hj
          rcases List.mem_append.mp hj with h | h
          · obtain ⟨h1, h2⟩ := hby j h
            exact ⟨h1, by omega, fun z => by rw [z] at h2; omega⟩
          · obtain ⟨h1, h2⟩ := List.mem_filter.mp h
            simp only [decide_eq_true_eq] at h2
            rw [hpre] at h1
            have := List.mem_range.mp h1
            exact ⟨by omega, by omega, by omega⟩
        have hni : i ∉ (HR.psOf n cs (upto cs b bpre pre)).map (·.1) := by
          rw [HR.psOf_fst]
          exact fun z => (hm i z).2.2 rfl
        obtain ⟨u6, u7, u8, u9, e⟩ := law_body cs hl n hn (HR.psOf n cs (upto cs b bpre pre)) b i hi _ rfl ht hni _ rfl t6 t7 t8 t9
        refine ⟨_, _, rfl, .inl e, .dat (.int i), .dat (encC (HR.call cs i)), u6, u7, u8, u9, ?_⟩
        rw [hu, HR.psOf_snoc]
        have hd : HR.dec n (nowL cs (HR.psOf n cs (upto cs b bpre pre)) b) (HR.call cs i) = HR.dec n (HR.held (HR.call cs i).t (HR.run n ((upto cs b bpre pre).map (HR.call cs)))) (HR.call cs i) := by
          refine HR.dec_congr fun x => ?_
          rw [ht]
          exact now_held cs n _ hnd (fun j hj => (hm j hj).1) b (fun j hj => (hm j hj).2.1) x
        rw [hd]
      · have hu : upto cs b bpre (pre ++ [i]) = upto cs b bpre pre := by
          unfold upto
          rw [List.filter_append, List.filter_cons_of_neg (by simpa using ht), List.filter_nil, List.append_nil]
        refine ⟨_, [.dat (encCs cs), .dat (.int n), .lst (HR.fnd encS cs.length (HR.psOf n cs (upto cs b bpre pre))), .dat (.int b), .dat (.int i), .dat (encC (HR.call cs i)), t6, t7, t8, t9, .un, .un], rfl, .inr ?_, .dat (.int i), .dat (encC (HR.call cs i)), t6, t7, t8, t9, by rw [hu]⟩
        have et : sIx (encC (HR.call cs i)) (.int 2) = some (.int (HR.call cs i).t) := by simp [encC]
        simp [L_law_carried_9, asg, setAll, et, ht])
  obtain ⟨ε', e1, t4, t5, t6, t7, t8, t9, rfl⟩ := key
  have hu : upto cs b bpre (List.range cs.length) = HR.byT cs (bpre ++ [b]) := by
    unfold upto HR.byT
    rw [List.flatMap_append]
    simp
  rw [hu] at e1
  refine ⟨t4, t5, t6, t7, t8, t9, ?_⟩
  simp only [L_law_carried_10, forD, f1N, rdS, List.getElem?_cons_zero, bnd_ok, enum_calls, opt_some, e1]
theorem law_carried_eq (cs : List HR.C4) (hl : cs.length ≤ 60) (n : Nat) (hn : n ≤ 100) : m_law_carried [encCs cs, .int n] = .ok (.list ((HR.told n cs).map encR)) := by
  have g0 := comp_all (i := 5) (f := E_law_carried_1) (ε := [.dat (encCs cs), .dat (.int n), .un, .un, .un, .un, .un, .un, .un, .un, .un, .un]) encC (fun _ => .str "") cs (fun c _ => by simp [E_law_carried_1])
  have g1 := comp_all (i := 5) (f := E_law_carried_2) (ε := [.dat (encCs cs), .dat (.int n), .lst (HR.fnd encS cs.length []), .un, .un, .un, .un, .un, .un, .un, .un, .un]) encC (fun c => .int c.t) cs (fun c _ => by simp [E_law_carried_2, encC])
  have e0 : (cs.map fun _ => PyData.str "") = HR.fnd encS cs.length [] := by
    rw [HR.fnd_nil]
    exact List.map_const' (l := cs) (b := PyData.str "")
  rw [e0] at g0
  have e1 : (cs.map fun c => PyData.int c.t) = (cs.map fun c => c.t).map PyData.int := by rw [List.map_map]; rfl
  rw [e1] at g1
  have e2 : sSetS (.list ((cs.map fun c => c.t).map PyData.int)) = some ((setI (cs.map fun c => c.t)).map PyData.int) := by
    simp only [sSetS, ints?_map, Option.bind_some]
    rw [if_pos (by rw [List.length_map]; omega)]
  have hb1 := setI_lt (cs.map fun c => c.t)
  have key := loop_pre (tg := .nm 3) (F := L_law_carried_10) PyData.int (fun pre ε => ∃ t3 t4 t5 t6 t7 t8 t9, ε = [.dat (encCs cs), .dat (.int n), .lst (HR.fnd encS cs.length (HR.psOf n cs (HR.byT cs pre))), t3, t4, t5, t6, t7, t8, t9, .un, .un])
    (setI (cs.map fun c => c.t)) [.dat (encCs cs), .dat (.int n), .lst (HR.fnd encS cs.length []), .un, .un, .un, .un, .un, .un, .un, .un, .un] ⟨_, _, _, _, _, _, _, rfl⟩ (by
      rintro pre b suf ε hl2 ⟨t3, t4, t5, t6, t7, t8, t9, rfl⟩
      obtain ⟨u4, u5, u6, u7, u8, u9, e⟩ := inner_loop cs hl n hn _ hb1 pre suf b hl2 t4 t5 t6 t7 t8 t9
      exact ⟨_, _, rfl, .inl e, _, _, _, _, _, _, _, rfl⟩)
  obtain ⟨ε', e3, t3, t4, t5, t6, t7, t8, t9, rfl⟩ := key
  rw [HR.byT_eq hb1 (fun c hc => (setI_mem _).mpr (List.mem_map_of_mem hc))] at e3
  have e4 : HR.fnd encS cs.length (HR.psOf n cs (HR.ordI cs)) = (HR.told n cs).map encR := HR.fnd_told encS n cs
  rw [e4] at e3
  have e5 : items (encCs cs) = some (cs.map encC) := rfl
  simp [-List.map_map, m_law_carried, runF, F_law_carried, e5, g0, g1, e2, e3]
/-! ### the calls that the law draws -/
theorem mod_in (x : Int) {k : Int} (hk : 0 < k) : 0 ≤ x % k ∧ x % k < k := ⟨Int.emod_nonneg _ (by omega), Int.emod_lt_of_pos _ hk⟩
def mkC (x y : Int) : HR.C4 :=
  let one := y % (if x / 32 % 2 = 0 then 4 else 20)
  let oth := y / 32 % (if x / 32 % 2 = 0 then 4 else 19)
  ⟨one, if oth = one then 19 - one else oth, y / 1024 % (if x / 64 % 3 = 0 then 6 else if x / 64 % 3 = 1 then 60 else 9000), 1 + y / 1073741824 % (if x / 64 % 3 = 0 then 3 else if x / 64 % 3 = 1 then 20 else 1000)⟩
def drawC (x : Int) (j : Nat) : HR.C4 := mkC x (drawnI x (20 + (j : Int)))
def drawCs (x : Int) : List HR.C4 := ((List.range (x % 26).toNat).map (drawC x)).filter fun c => !decide (c.a = c.b)
theorem ite2 {P : Prop} [Decidable P] {a b : Int} : (if P then PyData.int a else PyData.int b) = PyData.int (if P then a else b) := by split <;> rfl
theorem ite3 {P Q : Prop} [Decidable P] [Decidable Q] {a b c : Int} : (if P then PyData.int a else if Q then PyData.int b else PyData.int c) = PyData.int (if P then a else if Q then b else c) := by split; rfl; split <;> rfl
theorem pos2 {P : Prop} [Decidable P] {a b : Int} (h1 : 0 < a) (h2 : 0 < b) : 0 < (if P then a else b) := by split <;> assumption
theorem pos3 {P Q : Prop} [Decidable P] [Decidable Q] {a b c : Int} (h1 : 0 < a) (h2 : 0 < b) (h3 : 0 < c) : 0 < (if P then a else if Q then b else c) := by split; exact h1; split <;> assumption
theorem mkC_ok (x y : Int) (hne : (mkC x y).a ≠ (mkC x y).b) : 0 ≤ (mkC x y).a ∧ (mkC x y).a ≤ 19 ∧ 0 ≤ (mkC x y).b ∧ (mkC x y).b ≤ 19 ∧ 0 ≤ (mkC x y).t ∧ (mkC x y).t < 9000 ∧ 1 ≤ (mkC x y).s ∧ (mkC x y).s ≤ 1000 := by
  have h1 : 0 ≤ (mkC x y).a ∧ (mkC x y).a ≤ 19 := by
    simp only [mkC]
    split
    · have := mod_in y (k := 4) (by decide); omega
    · have := mod_in y (k := 20) (by decide); omega
  have h2 : 0 ≤ y / 32 % (if x / 32 % 2 = 0 then 4 else 19) ∧ y / 32 % (if x / 32 % 2 = 0 then 4 else 19) ≤ 19 := by
    split
    · have := mod_in (y / 32) (k := 4) (by decide); omega
    · have := mod_in (y / 32) (k := 19) (by decide); omega
  have h3 : 0 ≤ (mkC x y).b ∧ (mkC x y).b ≤ 19 := by
    simp only [mkC] at h1 ⊢
    generalize y % (if x / 32 % 2 = 0 then (4 : Int) else 20) = A at h1 ⊢
    generalize y / 32 % (if x / 32 % 2 = 0 then (4 : Int) else 19) = B at h2 ⊢
    by_cases e : B = A
    · rw [if_pos e]; omega
    · rw [if_neg e]; exact h2
  have h4 : 0 ≤ (mkC x y).t ∧ (mkC x y).t < 9000 := by
    simp only [mkC]
    split
    · have := mod_in (y / 1024) (k := 6) (by decide); omega
    · split
      · have := mod_in (y / 1024) (k := 60) (by decide); omega
      · have := mod_in (y / 1024) (k := 9000) (by decide); omega
  have h5 : 1 ≤ (mkC x y).s ∧ (mkC x y).s ≤ 1000 := by
    simp only [mkC]
    split
    · have := mod_in (y / 1073741824) (k := 3) (by decide); omega
    · split
      · have := mod_in (y / 1073741824) (k := 20) (by decide); omega
      · have := mod_in (y / 1073741824) (k := 1000) (by decide); omega
  exact ⟨h1.1, h1.2, h3.1, h3.2, h4.1, h4.2, h5.1, h5.2⟩
theorem drawCs_in {x : Int} {c : HR.C4} (h : c ∈ drawCs x) : ∃ y, c = mkC x y ∧ c.a ≠ c.b := by
  obtain ⟨h1, h2⟩ := List.mem_filter.mp h
  obtain ⟨j, _, rfl⟩ := List.mem_map.mp h1
  exact ⟨_, rfl, by simpa using h2⟩
theorem drawCs_ok (x : Int) : ∀ c ∈ drawCs x, HOk c := fun c hc => by
  obtain ⟨y, rfl, hne⟩ := drawCs_in hc
  obtain ⟨h1, h2, h3, h4, h5, h6, h7, h8⟩ := mkC_ok x y hne
  exact ⟨⟨h1, h2⟩, ⟨h3, h4⟩, hne, ⟨h5, by omega⟩, ⟨h7, h8⟩⟩
theorem late_ok (x : Int) : ∀ c ∈ (drawCs x).map (HR.late 7), HOk c := fun c hc => by
  obtain ⟨c', hc', rfl⟩ := List.mem_map.mp hc
  obtain ⟨y, rfl, hne⟩ := drawCs_in hc'
  obtain ⟨h1, h2, h3, h4, h5, h6, h7, h8⟩ := mkC_ok x y hne
  exact ⟨⟨h1, h2⟩, ⟨h3, h4⟩, hne, by simp only [HR.late]; omega, ⟨h7, h8⟩⟩
theorem drawCs_len (x : Int) : (drawCs x).length ≤ 60 := by
  have := mod_in x (k := 26) (by decide)
  refine Nat.le_trans (List.length_filter_le _ _) ?_
  rw [List.length_map, List.length_range]
  omega
theorem calls_of_eq (x : Int) : m_law_calls_of [.int x] = .ok (encCs (drawCs x)) := by
  have hx := mod_in x (k := 26) (by decide)
  have key := loop_pre (tg := .nm 2) (F := L_law_calls_of_1) (fun (i : Nat) => PyData.int (i : Int)) (fun done ε => ∃ g2 g3 g4 g5 g6 g7, ε = [.dat (.int x), .lst ((done.map (drawC x)).map encC), g2, g3, g4, g5, g6, g7, .un])
    (List.range (x % 26).toNat) [.dat (.int x), .lst [], .un, .un, .un, .un, .un, .un, .un] ⟨_, _, _, _, _, _, rfl⟩ (by
      rintro pre a suf ε hl ⟨g2, g3, g4, g5, g6, g7, rfl⟩
      have hlen : pre.length < 1000000 := by
        have := congrArg List.length hl
        simp at this
        omega
      obtain ⟨y, hy⟩ : ∃ y, drawnI x (20 + (a : Int)) = y := ⟨_, rfl⟩
      have a1 : 0 < (if x / 32 % 2 = 0 then (4 : Int) else 20) := pos2 (by decide) (by decide)
      have a2 : 0 < (if x / 32 % 2 = 0 then (4 : Int) else 19) := pos2 (by decide) (by decide)
      have a3 : 0 < (if x / 64 % 3 = 0 then (6 : Int) else if x / 64 % 3 = 1 then 60 else 9000) := pos3 (by decide) (by decide) (by decide)
      have a4 : 0 < (if x / 64 % 3 = 0 then (3 : Int) else if x / 64 % 3 = 1 then 20 else 1000) := pos3 (by decide) (by decide) (by decide)
      refine ⟨_, [.dat (.int x), .lst (((pre ++ [a]).map (drawC x)).map encC), .dat (.int a), .dat (.int y), .dat (.int (mkC x y).a), .dat (.int (y / 32 % (if x / 32 % 2 = 0 then 4 else 19))), .dat (.int (mkC x y).t), .dat (.int (mkC x y).s), .un], rfl, .inl ?_, _, _, _, _, _, _, rfl⟩
      have e9 : ((pre ++ [a]).map (drawC x)).map encC = (pre.map (drawC x)).map encC ++ [encC (mkC x y)] := by simp [drawC, hy]
      rw [e9]
      by_cases ho : y / 32 % (if x / 32 % 2 = 0 then (4 : Int) else 19) = y % (if x / 32 % 2 = 0 then (4 : Int) else 20)
      · simp [-List.map_map, L_law_calls_of_1, drawn_eq, hy, ite2, ite3, a1, a2, a3, a4, ho, hlen, mkC, encC]
      · simp [-List.map_map, L_law_calls_of_1, drawn_eq, hy, ite2, ite3, a1, a2, a3, a4, ho, hlen, mkC, encC])
  obtain ⟨ε', e1, g2, g3, g4, g5, g6, g7, rfl⟩ := key
  have g := comp_nm (i := 8) (c := C_law_calls_of_2) (f := E_law_calls_of_3) (ε := [.dat (.int x), .lst (((List.range (x % 26).toNat).map (drawC x)).map encC), g2, g3, g4, g5, g6, g7, .un]) encC (fun c => !decide (c.a = c.b)) encC ((List.range (x % 26).toNat).map (drawC x)) (fun c _ => by simp [C_law_calls_of_2, encC]) (fun c _ _ => by simp [E_law_calls_of_3])
  have e4 : x % 26 ≤ 1000000 := by omega
  have e5 : -1000000 ≤ x % 26 := by omega
  simp [-List.map_map, m_law_calls_of, runF, F_law_calls_of, e4, e5, rng0, e1, g]
  rfl
end K30

namespace K30
open PySem L2 DL
theorem shN_s {n : Nat} {s : Str} (h : SeqAt.shaped (.str s) = true) : ShN n (.str s) := by
  unfold SeqAt.shaped at h
  rw [Bool.and_eq_true] at h
  exact ⟨h.1, Nat.zero_le _⟩
theorem encR_sh (r : HR.R) : ShN 0 (encR r) := by
  cases r with
  | cord k => exact shN_int _
  | busy => exact shN_s (by kernel_rfl)
  | none => exact shN_s (by kernel_rfl)
theorem told_sh (rs : List HR.R) : ShN 1 (.list (rs.map encR)) := shN_list fun d hd => by
  obtain ⟨r, _, rfl⟩ := List.mem_map.mp hd
  exact encR_sh r
theorem encC_sh (c : HR.C4) : ShN 1 (encC c) := shN_tup (n := 0) fun d hd => by
  simp at hd
  rcases hd with rfl | rfl | rfl | rfl <;> exact shN_int _
theorem encCs_sh (cs : List HR.C4) : ShN 2 (encCs cs) := shN_list fun d hd => by
  obtain ⟨c, _, rfl⟩ := List.mem_map.mp hd
  exact encC_sh c
theorem in_told (rs : List HR.R) : sInA (.str "no cord") (.list (rs.map encR)) = some (.bool (decide (HR.R.none ∈ rs))) := by
  simp only [sInA]
  rw [if_pos ⟨by kernel_rfl, (told_sh rs).sh⟩]
  congr 2
  rw [Bool.eq_iff_iff, List.any_map]
  simp only [List.any_eq_true, Function.comp, decide_eq_true_eq]
  constructor
  · rintro ⟨r, hr, h⟩
    cases r with
    | cord k => simp [encR, PyData.eqv] at h
    | busy =>
      have e : PyData.eqv (encR HR.R.busy) (.str "no cord") = false := by kernel_rfl
      rw [e] at h
      cases h
    | none => exact hr
  · intro h
    exact ⟨_, h, by kernel_rfl⟩
theorem notin_told (rs : List HR.R) : sNotInA (.str "no cord") (.list (rs.map encR)) = some (.bool (!decide (HR.R.none ∈ rs))) := by
  unfold sNotInA
  rw [in_told]
theorem fold_max : ∀ (ns : List Int) (n : Int), ns.foldl max n ∈ n :: ns ∧ ∀ y ∈ n :: ns, y ≤ ns.foldl max n
  | [], n => ⟨List.mem_cons_self, fun y hy => by
      rcases List.mem_cons.mp hy with rfl | hy
      · exact Int.le_refl _
      · cases hy⟩
  | m :: ns, n => by
    obtain ⟨h1, h2⟩ := fold_max ns (max n m)
    rw [List.foldl_cons]
    refine ⟨?_, fun y hy => ?_⟩
    · rcases List.mem_cons.mp h1 with h | h
      · rw [h]
        by_cases e : n ≤ m
        · rw [Int.max_eq_right e]; simp
        · rw [Int.max_eq_left (by omega)]; simp
      · simp [h]
    · have h0 := h2 _ List.mem_cons_self
      rcases List.mem_cons.mp hy with rfl | hy
      · omega
      · rcases List.mem_cons.mp hy with rfl | hy
        · omega
        · exact h2 y (List.mem_cons_of_mem _ hy)
theorem fold_min : ∀ (ns : List Int) (n : Int), ns.foldl min n ∈ n :: ns ∧ ∀ y ∈ n :: ns, ns.foldl min n ≤ y
  | [], n => ⟨List.mem_cons_self, fun y hy => by
      rcases List.mem_cons.mp hy with rfl | hy
      · exact Int.le_refl _
      · cases hy⟩
  | m :: ns, n => by
    obtain ⟨h1, h2⟩ := fold_min ns (min n m)
    rw [List.foldl_cons]
    refine ⟨?_, fun y hy => ?_⟩
    · rcases List.mem_cons.mp h1 with h | h
      · rw [h]
        by_cases e : n ≤ m
        · rw [Int.min_eq_left e]; simp
        · rw [Int.min_eq_right (by omega)]; simp
      · simp [h]
    · have h0 := h2 _ List.mem_cons_self
      rcases List.mem_cons.mp hy with rfl | hy
      · omega
      · rcases List.mem_cons.mp hy with rfl | hy
        · omega
        · exact h2 y (List.mem_cons_of_mem _ hy)
theorem max_is {l : List Int} {m : Int} (h1 : m ∈ l) (h2 : ∀ y ∈ l, y ≤ m) : sMaxA (.list (l.map PyData.int)) = some (.int m) := by
  cases l with
  | nil => cases h1
  | cons n ns =>
    rw [sMaxA_ints]
    obtain ⟨a, b⟩ := fold_max ns n
    have := h2 _ a
    have := b _ h1
    congr 2
    omega
theorem min_is {l : List Int} {m : Int} (h1 : m ∈ l) (h2 : ∀ y ∈ l, m ≤ y) : sMinA (.list (l.map PyData.int)) = some (.int m) := by
  cases l with
  | nil => cases h1
  | cons n ns =>
    rw [sMinA_ints]
    obtain ⟨a, b⟩ := fold_min ns n
    have := h2 _ a
    have := b _ h1
    congr 2
    omega
theorem grP_spec {X : List HR.C4} (hn : X ≠ []) : (∃ x ∈ X, grP X = (((HR.cnt X x.t : Nat) : Int), 0 - x.t)) ∧ ∀ x ∈ X, DL.ltP (grP X) (((HR.cnt X x.t : Nat) : Int), 0 - x.t) = false := by
  unfold grP
  cases hp : prs X with
  | nil => unfold prs at hp; exact absurd (List.map_eq_nil_iff.mp hp) hn
  | cons p ps =>
    simp only
    obtain ⟨h1, h2⟩ := mxP_spec ps p
    rw [← hp] at h1 h2
    unfold prs at h1 h2
    constructor
    · obtain ⟨x, hx, e⟩ := List.mem_map.mp h1
      exact ⟨x, hx, e.symm⟩
    · exact fun x hx => h2 _ (List.mem_map_of_mem hx)
theorem eq_nil_C (cs : List HR.C4) : sEq (encCs cs) (.list []) = some (.bool (decide (cs = []))) := by
  unfold sEq
  rw [if_pos ⟨(encCs_sh cs).sh, by decide⟩]
  cases cs with
  | nil => rfl
  | cons c cs => rfl
theorem seq_nx {F G : En → M Fl} {ε ε' : En} (h : F ε = .ok (.nx ε')) : seqD F G ε = G ε' := by simp [h]
theorem ifD_yes {p : En → M Bool} {F G : En → M Fl} {ε : En} (h : p ε = .ok true) : ifD p F G ε = F ε := by simp [h]
theorem ifD_no {p : En → M Bool} {F G : En → M Fl} {ε : En} (h : p ε = .ok false) : ifD p F G ε = G ε := by simp [h]
theorem eP_sh (p : Int × Int) : ShN 1 (eP p) := shN_tup (n := 0) fun d hd => by
  simp at hd
  rcases hd with rfl | rfl <;> exact shN_int _
theorem ne_b (a b : Bool) : sNe (.bool a) (.bool b) = some (.bool (a != b)) := by cases a <;> cases b <;> rfl
theorem ne_nil_C (cs : List HR.C4) : sNe (encCs cs) (.list []) = some (.bool (!decide (cs = []))) := by
  unfold sNe
  rw [if_pos ⟨(encCs_sh cs).sh, by decide⟩]
  cases cs with
  | nil => rfl
  | cons c cs => rfl
end K30

namespace HR
theorem latest : ∀ (L : List C4), L ≠ [] → ∃ x ∈ L, ∀ y ∈ L, y.t ≤ x.t
  | [], h => absurd rfl h
  | [x], _ => ⟨x, by simp, fun y hy => by rw [List.mem_singleton.mp hy]; exact Int.le_refl _⟩
  | x :: z :: L, _ => by
    obtain ⟨m, hm, h⟩ := latest (z :: L) (by simp)
    by_cases e : x.t ≤ m.t
    · exact ⟨m, List.mem_cons_of_mem _ hm, fun y hy => by
        rcases List.mem_cons.mp hy with rfl | hy
        · exact e
        · exact h y hy⟩
    · exact ⟨x, List.mem_cons_self, fun y hy => by
        rcases List.mem_cons.mp hy with rfl | hy
        · exact Int.le_refl _
        · have := h y hy; omega⟩
theorem best_tick {X : List C4} {t : Int} (hp : 0 < cnt X t) : ∃ x ∈ X, x.t ≤ t ∧ cnt X t ≤ cnt X x.t := by
  unfold cnt at hp
  obtain ⟨x, hx, hmax⟩ := latest (X.filter (inT t)) (fun z => by rw [z] at hp; simp at hp)
  obtain ⟨h1, h2⟩ := List.mem_filter.mp hx
  simp only [inT, Bool.and_eq_true, decide_eq_true_eq] at h2
  refine ⟨x, h1, h2.1, ?_⟩
  unfold cnt
  rw [← List.countP_eq_length_filter, ← List.countP_eq_length_filter]
  refine List.countP_mono_left fun y hy hin => ?_
  have h3 := hmax y (List.mem_filter.mpr ⟨hy, hin⟩)
  simp only [inT, Bool.and_eq_true, decide_eq_true_eq] at hin ⊢
  omega
theorem cnt_self {X : List C4} (hs : ∀ x ∈ X, 0 < x.s) {x : C4} (hx : x ∈ X) : 0 < cnt X x.t := by
  unfold cnt
  rw [List.length_pos_iff]
  intro z
  have h := List.filter_eq_nil_iff.mp z x hx
  have := hs x hx
  apply h
  simp only [inT, Bool.and_eq_true, decide_eq_true_eq]
  omega
theorem least_head {p : Nat → Bool} {n k : Nat} (h1 : k < n) (h2 : p k = true) (h3 : ∀ j, j < k → p j = false) : ∃ r, (List.range n).filter p = k :: r := by
  cases hf : (List.range n).filter p with
  | nil =>
    have := List.filter_eq_nil_iff.mp hf k (List.mem_range.mpr h1)
    exact absurd h2 this
  | cons a r =>
    obtain ⟨q1, q2, q3⟩ := head_filter n hf
    rcases Nat.lt_trichotomy a k with z | z | z
    · rw [h3 a z] at q2; cases q2
    · exact ⟨r, by rw [z]⟩
    · rw [q3 k z] at h2; cases h2
end HR

namespace K30
open PySem L2 DL
theorem ltP_eq {p q : Int × Int} (h1 : DL.ltP p q = false) (h2 : DL.ltP q p = false) : p = q := by
  obtain ⟨a, b⟩ := p
  obtain ⟨c, d⟩ := q
  simp [DL.ltP] at h1 h2
  have : a = c := by omega
  subst this
  have : b = d := by omega
  rw [this]
/-- the greatest over all ticks at which calls begin is that over those put through -/
theorem all_ticks {cs : List HR.C4} {X : List HR.C4} (hX : ∀ x ∈ X, x ∈ cs) (hs : ∀ x ∈ cs, 0 < x.s) (hne : X ≠ []) {l : List Int} (hl : ∀ t, t ∈ l ↔ ∃ c ∈ cs, c.t = t) :
    sMaxA (.list ((l.map fun t => (((HR.cnt X t : Nat) : Int), 0 - t)).map eP)) = some (eP (grP X)) := by
  obtain ⟨⟨x0, hx0, e0⟩, hsp⟩ := grP_spec hne
  have hin : x0.t ∈ l := (hl _).mpr ⟨x0, hX x0 hx0, rfl⟩
  cases hp : l.map fun t => (((HR.cnt X t : Nat) : Int), 0 - t) with
  | nil => rw [List.map_eq_nil_iff.mp hp] at hin; cases hin
  | cons p ps =>
    rw [sMaxA_pairs]
    congr 2
    obtain ⟨h1, h2⟩ := mxP_spec ps p
    rw [← hp] at h1 h2
    obtain ⟨q, hq⟩ : ∃ q, mxP p ps = q := ⟨_, rfl⟩
    rw [hq] at h1 h2 ⊢
    have h3 : DL.ltP q (grP X) = false := by rw [e0]; exact h2 _ (List.mem_map_of_mem hin)
    refine ltP_eq h3 ?_
    obtain ⟨t, ht, rfl⟩ := List.mem_map.mp h1
    have hpos : 0 < HR.cnt X t := by
      have := HR.cnt_self (fun x hx => hs x (hX x hx)) hx0
      rw [e0] at h3
      simp only [DL.ltP, Bool.or_eq_false_iff, decide_eq_false_iff_not] at h3
      omega
    obtain ⟨y, hy, hy1, hy2⟩ := HR.best_tick hpos
    have h4 := h2 _ (List.mem_map_of_mem (f := fun t => (((HR.cnt X t : Nat) : Int), 0 - t)) ((hl _).mpr ⟨y, hX y hy, rfl⟩))
    have h5 := hsp y hy
    simp [DL.ltP] at h4
    have e1 : HR.cnt X t = HR.cnt X y.t := by omega
    have e2 : t = y.t := by omega
    rw [e2]
    exact h5
theorem rows_sub {cs : List HR.C4} {rs : List HR.R} {x : HR.C4} (h : x ∈ HR.rows cs rs) : x ∈ cs := by
  obtain ⟨r, hr, _⟩ := HR.mem_rows.mp h
  exact (List.of_mem_zip hr).1
def rowsD (cs : List HR.C4) (m : Nat) : D := .list ((List.range m).map fun n => PyData.list ((HR.told n cs).map encR))
theorem rowsD_sh (cs : List HR.C4) (m : Nat) : ShN 2 (rowsD cs m) := shN_list fun d hd => by
  obtain ⟨n, _, rfl⟩ := List.mem_map.mp hd
  exact told_sh _
section
variable {cs : List HR.C4} (hok : ∀ c ∈ cs, HOk c) (hl : cs.length ≤ 60)
include hok hl
theorem count_body (s0 s1 s2 s3 s5 s6 s9 s10 s11 s12 s13 s14 : Sl) (ds : List D) (hds : ds.length < 1000000) (t : Int) (hr : sIx (rowsD cs 22) (.int 21) = some (.list ((HR.told 20 cs).map encR))) :
    ∃ t9, L_law_10 [s0, s1, s2, s3, .dat (encCs cs), .dat (rowsD cs 22), s6, .lst ds, .dat (.int t), s9, s10, s11, s12, s13, s14, .un, .un, .un] =
      .ok (.nx [s0, s1, s2, s3, .dat (encCs cs), .dat (rowsD cs 22), s6, .lst (ds ++ [eP (((HR.cnt (HR.rows cs (HR.told 20 cs)) t : Nat) : Int), 0 - t)]), .dat (.int t), t9, s10, s11, s12, s13, s14, .un, .un, .un]) := by
  obtain ⟨T, hT⟩ : ∃ T, HR.told 20 cs = T := ⟨_, rfl⟩
  rw [hT] at hr
  have hz : sZip (encCs cs) (.list (T.map encR)) = some ((cs.zip T).map (enc2 encC encR)) := sZip_map encC encR cs T
  have g1 := comp_tg (tg := .tp [16, 17]) (c := C_law_6) (f := E_law_7) (ε := [s0, s1, s2, s3, .dat (encCs cs), .dat (rowsD cs 22), s6, .lst ds, .dat (.int t), s9, s10, s11, s12, s13, s14, .un, .un, .un]) (enc2 encC encR) (fun p => [s0, s1, s2, s3, .dat (encCs cs), .dat (rowsD cs 22), s6, .lst ds, .dat (.int t), s9, s10, s11, s12, s13, s14, .un, .dat (encC p.1), .dat (encR p.2)]) (fun p => HR.inT t p.1) (fun p => encR p.2) (cs.zip T) (fun p _ => by simp [asg, setAll, enc2]) (fun p _ => by
    by_cases h : p.1.t ≤ t <;> simp [C_law_6, HR.inT, h, encC]) (fun p _ _ => by simp [E_law_7])
  have e1 : ((cs.zip T).filter fun p => HR.inT t p.1).map (fun p => encR p.2) = (((cs.zip T).filter fun p => HR.inT t p.1).map (·.2)).map encR := by rw [List.map_map]; rfl
  rw [e1] at g1
  have g2 := comp_nm (i := 17) (c := C_law_8) (f := E_law_9) (ε := [s0, s1, s2, s3, .dat (encCs cs), .dat (rowsD cs 22), s6, .lst ds, .dat (.int t), .dat (.list ((((cs.zip T).filter fun p => HR.inT t p.1).map (·.2)).map encR)), s10, s11, s12, s13, s14, .un, .un, .un]) encR nbusy encR (((cs.zip T).filter fun p => HR.inT t p.1).map (·.2)) (fun r _ => by simp [C_law_8, ne_busy]) (fun r _ _ => by simp [E_law_9])
  have e2 : (((((cs.zip T).filter fun p => HR.inT t p.1).map (·.2)).filter nbusy).map encR).length = HR.cnt (HR.rows cs T) t := by
    unfold HR.cnt HR.rows
    rw [List.length_map, List.filter_map, List.length_map, List.filter_map, List.length_map, List.filter_filter, List.filter_filter]
    congr 1
    refine List.filter_congr fun p _ => ?_
    simp only [Function.comp, nbusy]
    rw [Bool.and_comm]
  rw [hT]
  refine ⟨.dat (.list ((((cs.zip T).filter fun p => HR.inT t p.1).map (·.2)).map encR)), ?_⟩
  simp [-List.map_map, -List.length_map, L_law_10, hr, hz, g1, g2, e2, hds, eP]
theorem body11 (s0 s1 s11 s12 s13 s14 g4 g5 g6 g7 g8 g9 g10 : Sl) (more : Int) (j : Nat) (hcs : drawCs (drawnI more (10 + (j : Int))) = cs) :
    ∃ t4 t5 t6 t7 t8 t9 t10, L_law_11 [s0, s1, .dat (.int more), .dat (.int j), g4, g5, g6, g7, g8, g9, g10, s11, s12, s13, s14, .un, .un, .un] =
      .ok (.nx [s0, s1, .dat (.int more), .dat (.int j), t4, t5, t6, t7, t8, t9, t10, s11, s12, s13, s14, .un, .un, .un]) := by
  have hcalls : m_law_calls_of [.int (drawnI more (10 + (j : Int)))] = .ok (encCs cs) := by rw [calls_of_eq, hcs]
  have r22 : sR1 (.int 22) = some ((List.range 22).map fun (i : Nat) => PyData.int (i : Int)) := by rw [sR1_int, if_pos (by decide), rng0]; rfl
  have r9 : sR1 (.int 9) = some ((List.range 9).map fun (i : Nat) => PyData.int (i : Int)) := by rw [sR1_int, if_pos (by decide), rng0]; rfl
  have h11 := HR.fewest_le (cok hok)
  have g1 : ∀ q5, compL (.nm 15) yesT E_law_1 [s0, s1, .dat (.int more), .dat (.int j), .dat (encCs cs), q5, g6, g7, g8, g9, g10, s11, s12, s13, s14, .un, .un, .un] ((List.range 22).map fun (i : Nat) => PyData.int (i : Int)) = .ok ((List.range 22).map fun n => PyData.list ((HR.told n cs).map encR)) := fun q5 => by
    refine comp_all (i := 15) (fun (i : Nat) => PyData.int (i : Int)) (fun n => PyData.list ((HR.told n cs).map encR)) (List.range 22) (fun n hn => ?_)
    have := law_carried_eq cs hl n (by have := List.mem_range.mp hn; omega)
    simp [E_law_1, this]
  have g2 : compL (.nm 15) yesT E_law_2 [s0, s1, .dat (.int more), .dat (.int j), .dat (encCs cs), .dat (rowsD cs 22), g6, g7, g8, g9, g10, s11, s12, s13, s14, .un, .un, .un] ((List.range 9).map fun (i : Nat) => PyData.int (i : Int)) = .ok ((List.range 9).map fun n => PyData.list ((HR.told n cs).map encR)) := by
    refine comp_all (i := 15) (fun (i : Nat) => PyData.int (i : Int)) (fun n => PyData.list ((HR.told n cs).map encR)) (List.range 9) (fun n hn => ?_)
    have := carried_eq hok hl n (by have := List.mem_range.mp hn; omega)
    simp [E_law_2, this]
  have k1 : PyData.list ((List.range 22).map fun n => PyData.list ((HR.told n cs).map encR)) = rowsD cs 22 := rfl
  have k2 : PyData.list ((List.range 9).map fun n => PyData.list ((HR.told n cs).map encR)) = rowsD cs 9 := rfl
  have ecut : sCut (rowsD cs 22) none (some 9) = some (rowsD cs 9) := rfl
  have ne9 : sNe (rowsD cs 9) (rowsD cs 9) = some (.bool false) := sNe_self (rowsD_sh cs 9)
  have ixr : ∀ n : Nat, n < 22 → sIx (rowsD cs 22) (.int n) = some (.list ((HR.told n cs).map encR)) := fun n hn => by
    unfold rowsD
    rw [sIx_list, DL.atI_nat, List.getElem?_map, List.getElem?_range hn]
    rfl
  have g3 := comp_nm (i := 15) (c := C_law_3) (f := E_law_4) (ε := [s0, s1, .dat (.int more), .dat (.int j), .dat (encCs cs), .dat (rowsD cs 22), g6, g7, g8, g9, g10, s11, s12, s13, s14, .un, .un, .un]) (fun (i : Nat) => PyData.int (i : Int)) (fun n => !decide (HR.R.none ∈ HR.told n cs)) (fun n => .int n) (List.range 22) (fun n hn => by
    simp [C_law_3, ixr n (List.mem_range.mp hn), notin_told]) (fun n _ _ => by simp [E_law_4])
  obtain ⟨rr, hrr⟩ := HR.least_head (p := fun n => !decide (HR.R.none ∈ HR.told n cs)) (n := 22) (k := HR.fewest cs) (by omega) (by
    have : HR.R.none ∉ HR.told (HR.fewest cs) cs := fun z => by have := (HR.none_told (cok hok)).mp z; omega
    simp [this]) (fun n hn => by
    have : HR.R.none ∈ HR.told n cs := (HR.none_told (cok hok)).mpr hn
    simp [this])
  rw [hrr] at g3
  have hf := fewest_eq hok hl
  have hr21 : sIx (rowsD cs 22) (.int 21) = some (.list ((HR.told 20 cs).map encR)) := by
    have := ixr 21 (by decide)
    rw [HR.told_enough (cok hok) (by omega)] at this
    exact this
  have hi : items (encCs cs) = some (cs.map encC) := rfl
  have g4' : ∀ q6 q8 q9 q10, compL (.nm 16) yesT E_law_5 [s0, s1, .dat (.int more), .dat (.int j), .dat (encCs cs), .dat (rowsD cs 22), q6, .lst [], q8, q9, q10, s11, s12, s13, s14, .un, .un, .un] (cs.map encC) = .ok ((cs.map fun c => c.t).map PyData.int) := fun q6 q8 q9 q10 => by
    rw [comp_all (i := 16) encC (fun c => .int c.t) cs (fun c _ => by simp [E_law_5, encC]), List.map_map]
    rfl
  have e2 : sSetS (.list ((cs.map fun c => c.t).map PyData.int)) = some ((setI (cs.map fun c => c.t)).map PyData.int) := by
    simp only [sSetS, ints?_map, Option.bind_some]
    rw [if_pos (by rw [List.length_map]; omega)]
  obtain ⟨X, hX⟩ : ∃ X, HR.rows cs (HR.told 20 cs) = X := ⟨_, rfl⟩
  have hsl : (setI (cs.map fun c => c.t)).length ≤ 60 := by
    have := HR.nodup_le (cs.map fun c => c.t) (setI (cs.map fun c => c.t)) ((setI_lt _).imp fun h e => by omega) fun k hk => (setI_mem _).mp hk
    rw [List.length_map] at this
    omega
  have key := loop_pre (tg := .nm 8) (F := L_law_10) PyData.int (fun pre ε => ∃ t8 t9, ε = [s0, s1, .dat (.int more), .dat (.int j), .dat (encCs cs), .dat (rowsD cs 22), .dat (.int (HR.fewest cs)), .lst ((pre.map fun t => (((HR.cnt X t : Nat) : Int), 0 - t)).map eP), t8, t9, g10, s11, s12, s13, s14, .un, .un, .un])
    (setI (cs.map fun c => c.t)) [s0, s1, .dat (.int more), .dat (.int j), .dat (encCs cs), .dat (rowsD cs 22), .dat (.int (HR.fewest cs)), .lst [], g8, g9, g10, s11, s12, s13, s14, .un, .un, .un] ⟨_, _, rfl⟩ (by
      rintro pre t suf ε hl2 ⟨t8, t9, rfl⟩
      have hlp : pre.length < 1000000 := by
        have := congrArg List.length hl2
        simp at this
        omega
      obtain ⟨u9, e⟩ := count_body hok hl s0 s1 (.dat (.int more)) (.dat (.int j)) (.dat (rowsD cs 22)) (.dat (.int (HR.fewest cs))) t9 g10 s11 s12 s13 s14 ((pre.map fun t => (((HR.cnt X t : Nat) : Int), 0 - t)).map eP) (by simpa using hlp) t hr21
      rw [hX] at e
      refine ⟨_, _, rfl, .inl e, .dat (.int t), u9, ?_⟩
      simp)
  obtain ⟨ε', eloop, u8, u9, rfl⟩ := key
  have hg := greatest_eq hok hl
  rw [hX] at hg
  have en := ne_nil_C cs
  refine ⟨.dat (encCs cs), .dat (rowsD cs 22), .dat (.int (HR.fewest cs)), .lst (((setI (cs.map fun c => c.t)).map fun t => (((HR.cnt X t : Nat) : Int), 0 - t)).map eP), u8, u9, .dat (if X = [] then PyData.none else eP ((grP X).1, 0 - (grP X).2)), ?_⟩
  unfold L_law_11
  refine (seq_nx (ε' := [s0, s1, .dat (.int more), .dat (.int j), .dat (encCs cs), g5, g6, g7, g8, g9, g10, s11, s12, s13, s14, .un, .un, .un]) (by simp [drawn_eq, hcalls])).trans ?_
  refine (seq_nx (ε' := [s0, s1, .dat (.int more), .dat (.int j), .dat (encCs cs), .dat (rowsD cs 22), g6, g7, g8, g9, g10, s11, s12, s13, s14, .un, .un, .un]) (by simp [-List.map_map, r22, g1, k1])).trans ?_
  refine (seq_nx (ε' := [s0, s1, .dat (.int more), .dat (.int j), .dat (encCs cs), .dat (rowsD cs 22), g6, g7, g8, g9, g10, s11, s12, s13, s14, .un, .un, .un]) (by simp [-List.map_map, r9, g2, k2, ecut, ne9])).trans ?_
  refine (seq_nx (ε' := [s0, s1, .dat (.int more), .dat (.int j), .dat (encCs cs), .dat (rowsD cs 22), .dat (.int (HR.fewest cs)), g7, g8, g9, g10, s11, s12, s13, s14, .un, .un, .un]) (by simp [-List.map_map, r22, g3])).trans ?_
  refine (seq_nx (ε' := [s0, s1, .dat (.int more), .dat (.int j), .dat (encCs cs), .dat (rowsD cs 22), .dat (.int (HR.fewest cs)), g7, g8, g9, g10, s11, s12, s13, s14, .un, .un, .un]) (by simp [hf])).trans ?_
  refine (seq_nx (ε' := [s0, s1, .dat (.int more), .dat (.int j), .dat (encCs cs), .dat (rowsD cs 22), .dat (.int (HR.fewest cs)), .lst [], g8, g9, g10, s11, s12, s13, s14, .un, .un, .un]) (by simp)).trans ?_
  refine (seq_nx (ε' := [s0, s1, .dat (.int more), .dat (.int j), .dat (encCs cs), .dat (rowsD cs 22), .dat (.int (HR.fewest cs)), .lst (((setI (cs.map fun c => c.t)).map fun t => (((HR.cnt X t : Nat) : Int), 0 - t)).map eP), u8, u9, g10, s11, s12, s13, s14, .un, .un, .un]) (by
    simp [-List.map_map, hi, g4', e2, eloop])).trans ?_
  obtain ⟨L, hL⟩ : ∃ L, ((setI (cs.map fun c => c.t)).map fun t => (((HR.cnt X t : Nat) : Int), 0 - t)).map eP = L := ⟨_, rfl⟩
  by_cases hnil : cs = []
  · have hX0 : X = [] := by rw [← hX, hnil]; rfl
    have hL0 : L = [] := by rw [← hL, hnil]; rfl
    rw [if_pos hX0] at hg ⊢
    rw [hL, hL0]
    have n0 : sNe (.list []) (.list []) = some (.bool false) := rfl
    have n1 : sNe .none .none = some (.bool false) := rfl
    refine (seq_nx (ε' := [s0, s1, .dat (.int more), .dat (.int j), .dat (encCs cs), .dat (rowsD cs 22), .dat (.int (HR.fewest cs)), .lst [], u8, u9, .dat .none, s11, s12, s13, s14, .un, .un, .un]) (by simp [n0])).trans ?_
    simp [hg, n1]
  · have hXn : X ≠ [] := by rw [← hX]; exact HR.rows_ne hnil
    rw [if_neg hXn] at hg ⊢
    have hmax := all_ticks (cs := cs) (X := X) (fun x hx => by rw [← hX] at hx; exact rows_sub hx) (sized hok) hXn (l := setI (cs.map fun c => c.t)) (fun t => by rw [setI_mem, List.mem_map])
    rw [hL] at hmax
    have hLn : sNe (.list L) (.list []) = some (.bool true) := by
      unfold sNe
      rw [← hL, if_pos ⟨(shN_list (n := 1) fun d hd => by
        obtain ⟨y, _, rfl⟩ := List.mem_map.mp hd
        exact eP_sh y).sh, by decide⟩]
      cases hs : setI (cs.map fun c => c.t) with
      | nil =>
        exfalso
        cases cs with
        | nil => exact hnil rfl
        | cons c cs =>
          have : c.t ∈ setI ((c :: cs).map fun c => c.t) := (setI_mem _).mpr (by simp)
          rw [hs] at this
          cases this
      | cons a b => rfl
    obtain ⟨⟨x0, hx0, e0⟩, hsp⟩ := grP_spec hXn
    obtain ⟨y, hy, hyc⟩ := HR.cnt_reached (cok hok) hnil
    have hle := HR.cnt_le (cok hok) x0.t
    rw [hX] at hy hyc hle
    have hsy := hsp y hy
    rw [e0] at hsy
    simp only [DL.ltP, Bool.or_eq_false_iff, decide_eq_false_iff_not] at hsy
    have hq : (grP X).1 = HR.fewest cs := by rw [e0]; simp only; omega
    obtain ⟨q, hqq⟩ : ∃ q, grP X = q := ⟨_, rfl⟩
    rw [hqq] at hmax hg hq ⊢
    have i0 : sIx (eP q) (.int 0) = some (.int q.1) := by simp [eP]
    have i1 : sIx (eP q) (.int 1) = some (.int q.2) := by simp [eP]
    have k5 : PyData.tuple [.int q.1, .int (0 - q.2)] = eP (q.1, 0 - q.2) := rfl
    rw [hL]
    refine (seq_nx (ε' := [s0, s1, .dat (.int more), .dat (.int j), .dat (encCs cs), .dat (rowsD cs 22), .dat (.int (HR.fewest cs)), .lst L, u8, u9, .dat (eP (q.1, 0 - q.2)), s11, s12, s13, s14, .un, .un, .un]) (by simp [-Int.zero_sub, hLn, hmax, i0, i1, k5])).trans ?_
    have n1 : sNe (eP (q.1, 0 - q.2)) (eP (q.1, 0 - q.2)) = some (.bool false) := sNe_self (eP_sh _)
    have i2 : sIx (eP (q.1, 0 - q.2)) (.int 0) = some (.int q.1) := by simp [eP]
    have i3 : isNone (eP (q.1, 0 - q.2)) = false := rfl
    obtain ⟨G, hG⟩ : ∃ G, eP (q.1, 0 - q.2) = G := ⟨_, rfl⟩
    rw [hG] at hg n1 i2 i3 ⊢
    rw [hq] at i2
    simp [hg, n1, i2, i3]
end
/-! ### what are no calls -/
def c1 : D := .tuple [.int 0, .int 1, .int 0, .int 1]
def bads : List D := [.none, .tuple [c1], .list (List.replicate 61 c1), .list [.list [.int 0, .int 1, .int 0, .int 1]], .list [.tuple [.int 0, .int 0, .int 0, .int 1]], .list [.tuple [.int 0, .int 20, .int 0, .int 1]], .list [.tuple [.int (-1), .int 1, .int 0, .int 1]],
  .list [.tuple [.int 0, .int 1, .int 10001, .int 1]], .list [.tuple [.int 0, .int 1, .int 0, .int 0]], .list [.tuple [.int 0, .int 1, .int 0, .int 1001]], .list [.tuple [.bool true, .int 2, .int 0, .int 1]], .list [.tuple [.int 0, .int 1, .int 0]]]
theorem bad_need : ∀ b ∈ bads, m_need_calls [b] = .er (.exc "BadCalls") := by
  intro b hb
  simp only [bads, List.mem_cons, List.not_mem_nil, or_false] at hb
  rcases hb with rfl | rfl | rfl | rfl | rfl | rfl | rfl | rfl | rfl | rfl | rfl | rfl <;> rfl
end K30

namespace K30
open PySem L2 DL
theorem word_true : ∀ D ∈ LS, ∀ a, F_law_word (flOf D) a (.adr a :: List.replicate 3 .un) = .ok (.rt (.str (PySem.Str.ofString D))) := by
  intro D hD a
  simp only [LS, List.mem_cons, List.not_mem_nil, or_false] at hD
  have j0 : ∀ a b c d e f g h i : PyData, atI [a, b, c, d, e, f, g, h, i] 0 = some a := fun _ _ _ _ _ _ _ _ _ => rfl
  have j5 : ∀ a b c d e f g h i : PyData, atI [a, b, c, d, e, f, g, h, i] 5 = some f := fun _ _ _ _ _ _ _ _ _ => rfl
  rcases hD with rfl | rfl
  · have i1 : sIndex (.list [.bool false, .bool false, .bool false, .bool false, .bool false, .bool true, .bool false, .bool false, .bool false]) (.bool true) = some (.int 5) := rfl
    have i2 : sSum (.list [.int 0, .int 0, .int 0, .int 0, .int 0, .int 1, .int 0, .int 0, .int 0]) = some (.int 1) := rfl
    simp [F_law_word, flOf, compL, E_law_word_1, sCat, sizeLine_eq, sInt, i1, i2, j5]
  · have i1 : sIndex (.list [.bool true, .bool false, .bool false, .bool false, .bool false, .bool false, .bool false, .bool false, .bool false]) (.bool true) = some (.int 0) := rfl
    have i2 : sSum (.list [.int 1, .int 0, .int 0, .int 0, .int 0, .int 0, .int 0, .int 0, .int 0]) = some (.int 1) := rfl
    simp [F_law_word, flOf, compL, E_law_word_1, sCat, sizeLine_eq, sInt, i1, i2, j0]
theorem bad3 (b : D) (hb : b ∈ bads) : m_carried [b, .int (-1)] = .er (.exc "BadCalls") ∧ m_fewest [b] = .er (.exc "BadCalls") ∧ m_greatest [b] = .er (.exc "BadCalls") := by
  have h := bad_need b hb
  refine ⟨?_, ?_, ?_⟩
  · simp [m_carried, runF, F_carried, h]
  · simp [m_fewest, runF, F_fewest, h]
  · simp [m_greatest, runF, F_greatest, h]
theorem sh_word : SeqAt.shaped (.list [.str "BadCalls", .str "BadCalls", .str "BadCalls"]) = true := by decide +kernel
theorem bads_loop (s0 s1 s2 s3 s4 s5 s6 s7 s8 s9 s10 s11 s12 s13 s14 s15 s16 s17 : Sl) :
    ∃ t13 t14, loopD (.nm 13) L_law_15 bads [s0, s1, s2, s3, s4, s5, s6, s7, s8, s9, s10, s11, s12, s13, s14, s15, s16, s17] = .ok (.nx [s0, s1, s2, s3, s4, s5, s6, s7, s8, s9, s10, s11, s12, t13, t14, s15, s16, s17]) := by
  have e0 : bads.map id = bads := List.map_id _
  obtain ⟨ε', e1, t13, t14, rfl⟩ := loop_keep (tg := .nm 13) (F := L_law_15) (fun (d : D) => d) (fun ε => ∃ t13 t14, ε = [s0, s1, s2, s3, s4, s5, s6, s7, s8, s9, s10, s11, s12, t13, t14, s15, s16, s17]) bads [s0, s1, s2, s3, s4, s5, s6, s7, s8, s9, s10, s11, s12, s13, s14, s15, s16, s17] ⟨_, _, rfl⟩ (by
    rintro b ε hb ⟨t13, t14, rfl⟩
    obtain ⟨h1, h2, h3⟩ := bad3 b hb
    have hc : LS.contains "BadCalls" = true := by decide
    have hrep : sRep (.list [.str "BadCalls"]) (.int 3) = some [.str "BadCalls", .str "BadCalls", .str "BadCalls"] := rfl
    have hne : sNe (.list [.str "BadCalls", .str "BadCalls", .str "BadCalls"]) (.list [.str "BadCalls", .str "BadCalls", .str "BadCalls"]) = some (.bool false) := by
      unfold sNe
      rw [if_pos ⟨sh_word, sh_word⟩]
      simp [PyData.eqv, PyData.eqvAll]
    refine ⟨_, [s0, s1, s2, s3, s4, s5, s6, s7, s8, s9, s10, s11, s12, .dat b, .lst [.str "BadCalls", .str "BadCalls", .str "BadCalls"], s15, s16, s17], rfl, .inl ?_, _, _, rfl⟩
    have g12 : ∀ ε : En, (strip ε)[13]? = some (.dat b) → toldF LS G_law_12 ε = .ok (.str "BadCalls") := fun ε h => by
      simp [G_law_12, h, h1]
      decide
    have g13 : ∀ ε : En, (strip ε)[13]? = some (.dat b) → toldF LS G_law_13 ε = .ok (.str "BadCalls") := fun ε h => by
      simp [G_law_13, h, h2]
      decide
    have g14 : ∀ ε : En, (strip ε)[13]? = some (.dat b) → toldF LS G_law_14 ε = .ok (.str "BadCalls") := fun ε h => by
      simp [G_law_14, h, h3]
      decide
    unfold L_law_15
    refine (seq_nx (ε' := [s0, s1, s2, s3, s4, s5, s6, s7, s8, s9, s10, s11, s12, .dat b, .lst [.str "BadCalls"], s15, s16, s17]) (by
      have := g12 [s0, s1, s2, s3, s4, s5, s6, s7, s8, s9, s10, s11, s12, .dat b, t14, s15, s16, s17] rfl
      simp only [List.set_cons_succ, List.set_cons_zero, parD, evKs, evK, consF, nilF, this, bnd_ok, setS])).trans ?_
    refine (seq_nx (ε' := [s0, s1, s2, s3, s4, s5, s6, s7, s8, s9, s10, s11, s12, .dat b, .lst [.str "BadCalls", .str "BadCalls"], s15, s16, s17]) (by
      have := g13 [s0, s1, s2, s3, s4, s5, s6, s7, s8, s9, s10, s11, s12, .dat b, .lst [.str "BadCalls"], s15, s16, s17] rfl
      simp only [appD, List.getElem?_cons_succ, List.getElem?_cons_zero, this, bnd_ok]
      rfl)).trans ?_
    refine (seq_nx (ε' := [s0, s1, s2, s3, s4, s5, s6, s7, s8, s9, s10, s11, s12, .dat b, .lst [.str "BadCalls", .str "BadCalls", .str "BadCalls"], s15, s16, s17]) (by
      have := g14 [s0, s1, s2, s3, s4, s5, s6, s7, s8, s9, s10, s11, s12, .dat b, .lst [.str "BadCalls", .str "BadCalls"], s15, s16, s17] rfl
      simp only [appD, List.getElem?_cons_succ, List.getElem?_cons_zero, this, bnd_ok]
      rfl)).trans ?_
    simp [hrep, hne])
  have e2 : bads.map (fun (d : D) => d) = bads := List.map_id _
  rw [e2] at e1
  exact ⟨_, _, e1⟩
theorem bad_num (d : D) (hd : d = .int (-1) ∨ d = .int 9 ∨ d = .none ∨ d = .bool true) : m_carried [.list [], d] = .er (.exc "BadNumber") := by
  rcases hd with rfl | rfl | rfl | rfl <;> rfl
theorem sh_word4 : SeqAt.shaped (.list [.str "BadNumber", .str "BadNumber", .str "BadNumber", .str "BadNumber"]) = true := by decide +kernel
theorem inner (s0 s1 : Sl) (more : Int) (s11 s12 s13 s14 g3 g4 g5 g6 g7 g8 g9 g10 : Sl) :
    ∃ t3 t4 t5 t6 t7 t8 t9 t10, loopD (.nm 3) L_law_11 ((List.range 3).map fun (i : Nat) => PyData.int (i : Int)) [s0, s1, .dat (.int more), g3, g4, g5, g6, g7, g8, g9, g10, s11, s12, s13, s14, .un, .un, .un] =
      .ok (.nx [s0, s1, .dat (.int more), t3, t4, t5, t6, t7, t8, t9, t10, s11, s12, s13, s14, .un, .un, .un]) := by
  obtain ⟨ε', e1, t3, t4, t5, t6, t7, t8, t9, t10, rfl⟩ := loop_keep (tg := .nm 3) (F := L_law_11) (fun (i : Nat) => PyData.int (i : Int)) (fun ε => ∃ t3 t4 t5 t6 t7 t8 t9 t10, ε = [s0, s1, .dat (.int more), t3, t4, t5, t6, t7, t8, t9, t10, s11, s12, s13, s14, .un, .un, .un]) (List.range 3) [s0, s1, .dat (.int more), g3, g4, g5, g6, g7, g8, g9, g10, s11, s12, s13, s14, .un, .un, .un] ⟨_, _, _, _, _, _, _, _, rfl⟩ (by
    rintro j ε _ ⟨t3, t4, t5, t6, t7, t8, t9, t10, rfl⟩
    obtain ⟨u4, u5, u6, u7, u8, u9, u10, e⟩ := body11 (cs := drawCs (drawnI more (10 + (j : Int)))) (drawCs_ok _) (drawCs_len _) s0 s1 s11 s12 s13 s14 t4 t5 t6 t7 t8 t9 t10 more j rfl
    exact ⟨_, _, rfl, .inl e, _, _, _, _, _, _, _, _, rfl⟩)
  exact ⟨_, _, _, _, _, _, _, _, e1⟩
theorem body18 (ns : List Int) (hn : ns.length ≤ 63) (k : Nat) (g2 g3 g4 g5 g6 g7 g8 g9 g10 g11 g12 g13 g14 : Sl) :
    ∃ t2 t3 t4 t5 t6 t7 t8 t9 t10 t11 t12 t13 t14, L_law_18 [.scr ns, .dat (.int k), g2, g3, g4, g5, g6, g7, g8, g9, g10, g11, g12, g13, g14, .un, .un, .un] = .ok (.nx [.scr ns, .dat (.int k), t2, t3, t4, t5, t6, t7, t8, t9, t10, t11, t12, t13, t14, .un, .un, .un]) := by
  have hc := cell_eq ns k (by omega) hn
  obtain ⟨more, hmore⟩ : ∃ more, drawnI (cellI ns k) k = more := ⟨_, rfl⟩
  obtain ⟨t3, t4, t5, t6, t7, t8, t9, t10, e11⟩ := inner (.scr ns) (.dat (.int k)) more g11 g12 g13 g14 g3 g4 g5 g6 g7 g8 g9 g10
  have r3 : sR1 (.int 3) = some ((List.range 3).map fun (i : Nat) => PyData.int (i : Int)) := by rw [sR1_int, if_pos (by decide), rng0]; rfl
  have hrep : sRep (.list [c1]) (.int 61) = some (List.replicate 61 c1) := rfl
  obtain ⟨b12, hb12⟩ : ∃ b12 : List D, b12 = [.none, .tuple [c1], .list (List.replicate 61 c1), .list [.list [.int 0, .int 1, .int 0, .int 1]], .list [.tuple [.int 0, .int 0, .int 0, .int 1]], .list [.tuple [.int 0, .int 20, .int 0, .int 1]], .list [.tuple [.int (-1), .int 1, .int 0, .int 1]]] := ⟨_, rfl⟩
  have hcat : sCat (.list b12) (.list [.list [.tuple [.int 0, .int 1, .int 10001, .int 1]], .list [.tuple [.int 0, .int 1, .int 0, .int 0]], .list [.tuple [.int 0, .int 1, .int 0, .int 1001]], .list [.tuple [.bool true, .int 2, .int 0, .int 1]], .list [.tuple [.int 0, .int 1, .int 0]]]) = some bads := by
    rw [hb12]
    simp only [sCat]
    rw [if_pos (by rw [sizeLine_eq]; simp)]
    rfl
  obtain ⟨u13, u14, eb⟩ := bads_loop (.scr ns) (.dat (.int k)) (.dat (.int more)) t3 t4 t5 t6 t7 t8 t9 t10 (.dat c1) (.dat (.list b12)) g13 g14 .un .un .un
  have hl1 : sList c1 = some [.int 0, .int 1, .int 0, .int 1] := rfl
  have e17 := comp_all (i := 13) (f := E_law_17) (ε := [.scr ns, .dat (.int k), .dat (.int more), t3, t4, t5, t6, t7, t8, t9, t10, .dat c1, .dat (.list b12), .un, u14, .un, .un, .un]) (fun (d : D) => d) (fun _ => .str "BadNumber") [.int (-1), .int 9, .none, .bool true] (fun d hd => by
    have hb := bad_num d (by simpa using hd)
    have hs : (strip ([Sl.scr ns, .dat (.int k), .dat (.int more), t3, t4, t5, t6, t7, t8, t9, t10, .dat c1, .dat (.list b12), .un, u14, .un, .un, .un].set 13 (.dat d)))[13]? = some (.dat d) := rfl
    unfold E_law_17
    simp only [toldF, G_law_16, callF, consF, nilF, frz, bnd_ok, rdS, hs, hb, hush, toldM_exc]
    rfl)
  have hne : sNe (.list [.str "BadNumber", .str "BadNumber", .str "BadNumber", .str "BadNumber"]) (.list [.str "BadNumber", .str "BadNumber", .str "BadNumber", .str "BadNumber"]) = some (.bool false) := by
    unfold sNe
    rw [if_pos ⟨sh_word4, sh_word4⟩]
    simp [PyData.eqv, PyData.eqvAll]
  have hrep4 : sRep (.list [.str "BadNumber"]) (.int 4) = some [.str "BadNumber", .str "BadNumber", .str "BadNumber", .str "BadNumber"] := rfl
  have k1 : PyData.tuple [.int 0, .int 1, .int 0, .int 1] = c1 := rfl
  have hi : ∀ l : List D, items (.list l) = some l := fun l => rfl
  refine ⟨.dat (.int more), t3, t4, t5, t6, t7, t8, t9, t10, .dat c1, .dat (.list b12), u13, u14, ?_⟩
  unfold L_law_18
  refine (seq_nx (ε' := [.scr ns, .dat (.int k), .dat (.int more), g3, g4, g5, g6, g7, g8, g9, g10, g11, g12, g13, g14, .un, .un, .un]) (by simp [hc, drawn_eq, hmore])).trans ?_
  refine (seq_nx (ε' := [.scr ns, .dat (.int k), .dat (.int more), t3, t4, t5, t6, t7, t8, t9, t10, g11, g12, g13, g14, .un, .un, .un]) (by simp only [forD, f1N, kn, bnd_ok, r3, opt_some, e11])).trans ?_
  refine (seq_nx (ε' := [.scr ns, .dat (.int k), .dat (.int more), t3, t4, t5, t6, t7, t8, t9, t10, .dat c1, g12, g13, g14, .un, .un, .un]) (by simp [k1])).trans ?_
  refine (seq_nx (ε' := [.scr ns, .dat (.int k), .dat (.int more), t3, t4, t5, t6, t7, t8, t9, t10, .dat c1, .dat (.list b12), g13, g14, .un, .un, .un]) (by rw [hb12]; simp [hrep, hl1])).trans ?_
  refine (seq_nx (ε' := [.scr ns, .dat (.int k), .dat (.int more), t3, t4, t5, t6, t7, t8, t9, t10, .dat c1, .dat (.list b12), u13, u14, .un, .un, .un]) (by simp [hcat, eb])).trans ?_
  have e17' : compL (.nm 13) yesT E_law_17 [.scr ns, .dat (.int k), .dat (.int more), t3, t4, t5, t6, t7, t8, t9, t10, .dat c1, .dat (.list b12), .un, u14, .un, .un, .un] [.int (-1), .int 9, .none, .bool true] = .ok [.str "BadNumber", .str "BadNumber", .str "BadNumber", .str "BadNumber"] := e17
  simp [e17', hrep4, hne]
theorem law_true : ∀ ns : List Int, ns.length ≤ 63 → F_law (.scr ns :: List.replicate 17 .un) = .ok (.rt (.bool true)) := by
  intro ns hn
  have outer : ∀ (l : List Nat), ∃ g' : List Sl, loopD (.nm 1) L_law_18 (l.map fun (i : Nat) => PyData.int (i : Int)) (.scr ns :: List.replicate 17 .un) = .ok (.nx g') := by
    intro l
    obtain ⟨ε', e1, _⟩ := loop_keep (tg := .nm 1) (F := L_law_18) (fun (i : Nat) => PyData.int (i : Int)) (fun ε => ∃ g1 g2 g3 g4 g5 g6 g7 g8 g9 g10 g11 g12 g13 g14, ε = [.scr ns, g1, g2, g3, g4, g5, g6, g7, g8, g9, g10, g11, g12, g13, g14, .un, .un, .un]) l (.scr ns :: List.replicate 17 .un) ⟨_, _, _, _, _, _, _, _, _, _, _, _, _, _, rfl⟩ (by
      rintro a ε _ ⟨g1, g2, g3, g4, g5, g6, g7, g8, g9, g10, g11, g12, g13, g14, rfl⟩
      obtain ⟨t2, t3, t4, t5, t6, t7, t8, t9, t10, t11, t12, t13, t14, e⟩ := body18 ns hn a g2 g3 g4 g5 g6 g7 g8 g9 g10 g11 g12 g13 g14
      exact ⟨_, _, rfl, .inl e, _, _, _, _, _, _, _, _, _, _, _, _, _, _, rfl⟩)
    exact ⟨_, e1⟩
  have hR : ∃ m : Int, sMax2 (.int 1) (.int (if (ns.length : Int) < 4 then (ns.length : Int) else 4)) = some (.int m) ∧ m ≤ 1000000 ∧ -1000000 ≤ m := by
    refine ⟨_, rfl, ?_, ?_⟩
    · split <;> split <;> omega
    · split <;> split <;> omega
  obtain ⟨m, h1, h2, h3⟩ := hR
  obtain ⟨g', e⟩ := outer (List.range m.toNat)
  have h4 : sR1 (.int m) = some ((List.range m.toNat).map fun (i : Nat) => PyData.int (i : Int)) := by
    rw [sR1_int, if_pos ⟨h2, h3⟩, rng0]
  simp only [F_law, seqD, forD, f1N, f2, kn, scrLen, List.getElem?_cons_zero, bnd_ok, opt_some, sMin2_int, h1, h4, e, retD]
end K30

namespace K30
open PySem L2 DL
theorem at_law {l : PySem.W.OpenLaw} {w : World} {K : PySem.W.Frag} {mg : Str → Option Value} {h : Heap} {fa : Addr} {c_BadCalls : Addr} {c_BadNumber : Addr} {c_BadRows : Addr} {c_BadText : Addr} {c_BadWord : Addr} {c_BoardError : Addr} {c_Busy : Addr} {c_InPlace : Addr} {c_NoPlug : Addr} {c_Nothing : Addr} {cL Pt : Addr} {cM PtM : Addr} (KX : K.In h) (G : h.Ns mainGlobals mg) (hfa : mg "law" = some (.ref fa))
    (R_is_count : Raw K mg "is_count" s_is_count)
    (R_is_call : Raw K mg "is_call" s_is_call)
    (R_need_calls : Raw K mg "need_calls" s_need_calls)
    (R_led : Raw K mg "led" s_led)
    (R_carried : Raw K mg "carried" s_carried)
    (R_fewest : Raw K mg "fewest" s_fewest)
    (R_greatest : Raw K mg "greatest" s_greatest)
    (R_law_cell : Raw K mg "_law_cell" s_law_cell)
    (R_law_drawn : Raw K mg "_law_drawn" s_law_drawn)
    (R_law_word : Raw K mg "_law_word" s_law_word)
    (R_law_calls_of : Raw K mg "_law_calls_of" s_law_calls_of)
    (R_law_carried : Raw K mg "_law_carried" s_law_carried)
    (R_law : Raw K mg "law" s_law)
    (R_law_told : Raw K mg "_law_told" s_law_told)
    (b_ValueError : PySem.W.nsIn K mainGlobals "ValueError" = some none)
    (b_all : PySem.W.nsIn K mainGlobals "all" = some none)
    (b_bool : PySem.W.nsIn K mainGlobals "bool" = some none)
    (b_enumerate : PySem.W.nsIn K mainGlobals "enumerate" = some none)
    (b_int : PySem.W.nsIn K mainGlobals "int" = some none)
    (b_isinstance : PySem.W.nsIn K mainGlobals "isinstance" = some none)
    (b_len : PySem.W.nsIn K mainGlobals "len" = some none)
    (b_list : PySem.W.nsIn K mainGlobals "list" = some none)
    (b_max : PySem.W.nsIn K mainGlobals "max" = some none)
    (b_min : PySem.W.nsIn K mainGlobals "min" = some none)
    (b_range : PySem.W.nsIn K mainGlobals "range" = some none)
    (b_set : PySem.W.nsIn K mainGlobals "set" = some none)
    (b_sorted : PySem.W.nsIn K mainGlobals "sorted" = some none)
    (b_sum : PySem.W.nsIn K mainGlobals "sum" = some none)
    (b_tuple : PySem.W.nsIn K mainGlobals "tuple" = some none)
    (b_zip : PySem.W.nsIn K mainGlobals "zip" = some none)
    (c_LATEST : GlobD K mg "LATEST" (.int 10000))
    (c_LONGEST : GlobD K mg "LONGEST" (.int 1000))
    (c_MOST_CALLS : GlobD K mg "MOST_CALLS" (.int 60))
    (c_MOST_CORDS : GlobD K mg "MOST_CORDS" (.int 8))
    (c_MOST_LINES : GlobD K mg "MOST_LINES" (.int 20))
    (a_BadCalls : PySem.W.nsIn K mainGlobals "BadCalls" = some (some (.ref c_BadCalls)))
    (a_BadNumber : PySem.W.nsIn K mainGlobals "BadNumber" = some (some (.ref c_BadNumber)))
    (a_BadRows : PySem.W.nsIn K mainGlobals "BadRows" = some (some (.ref c_BadRows)))
    (a_BadText : PySem.W.nsIn K mainGlobals "BadText" = some (some (.ref c_BadText)))
    (a_BadWord : PySem.W.nsIn K mainGlobals "BadWord" = some (some (.ref c_BadWord)))
    (a_BoardError : PySem.W.nsIn K mainGlobals "BoardError" = some (some (.ref c_BoardError)))
    (a_Busy : PySem.W.nsIn K mainGlobals "Busy" = some (some (.ref c_Busy)))
    (a_InPlace : PySem.W.nsIn K mainGlobals "InPlace" = some (some (.ref c_InPlace)))
    (a_NoPlug : PySem.W.nsIn K mainGlobals "NoPlug" = some (some (.ref c_NoPlug)))
    (a_Nothing : PySem.W.nsIn K mainGlobals "Nothing" = some (some (.ref c_Nothing)))
    (q_BadCalls : PySem.W.excIn K c_BadCalls [.type "ValueError", .type "Exception", .type "BaseException", .type "object"] "ValueError.__new__" = true)
    (k_BadCalls : PySem.W.keepIn K (.ref c_BadCalls) = true)
    (q_BadNumber : PySem.W.excIn K c_BadNumber [.type "ValueError", .type "Exception", .type "BaseException", .type "object"] "ValueError.__new__" = true)
    (k_BadNumber : PySem.W.keepIn K (.ref c_BadNumber) = true)
    (s_BadCalls : PySem.W.subIn K (.ref c_BadCalls) (.type "BaseException") = some true)
    (t_BadCalls : PySem.W.typeIn K (.ref c_BadCalls) = some (.type "type"))
    (s_BadNumber : PySem.W.subIn K (.ref c_BadNumber) (.type "BaseException") = some true)
    (t_BadNumber : PySem.W.typeIn K (.ref c_BadNumber) = some (.type "type"))
    (s_BoardError : PySem.W.subIn K (.ref c_BoardError) (.type "BaseException") = some true)
    (t_BoardError : PySem.W.typeIn K (.ref c_BoardError) = some (.type "type"))
    (hd_BoardError : PySem.W.hasDictIn K c_BoardError = true)
    (sn : PySem.W.specialIn K (.builtin "object.__class__") "__get__" = some (some (.builtin "getset_descriptor.__get__")))
    (st : PySem.W.takesIn K (.builtin "object.__class__") = some true)
    (u_BadCalls : PySem.W.subIn K (.ref c_BadCalls) (.ref c_BoardError) = some true)
    (e1_BadCalls : PySem.W.findIn K (.ref c_BadCalls) "__getattribute__" = some (some (.builtin "BaseException.__getattribute__")))
    (e2_BadCalls : PySem.W.findIn K (.ref c_BadCalls) "__getattr__" = some none)
    (e4_BadCalls : PySem.W.hasDictIn K c_BadCalls = true)
    (e5_BadCalls : PySem.W.findIn K (.ref c_BadCalls) "__class__" = some (some (.builtin "object.__class__")))
    (e8_BadCalls : PySem.W.mroIn K c_BadCalls (.type "object") = some true)
    (w_BadCalls_NoPlug : PySem.W.kitOne K (.ref c_BadCalls) (.ref c_NoPlug) = some false)
    (w_BadCalls_Busy : PySem.W.kitOne K (.ref c_BadCalls) (.ref c_Busy) = some false)
    (w_BadCalls_BadWord : PySem.W.kitOne K (.ref c_BadCalls) (.ref c_BadWord) = some false)
    (w_BadCalls_BadNumber : PySem.W.kitOne K (.ref c_BadCalls) (.ref c_BadNumber) = some false)
    (w_BadCalls_BadText : PySem.W.kitOne K (.ref c_BadCalls) (.ref c_BadText) = some false)
    (w_BadCalls_BadRows : PySem.W.kitOne K (.ref c_BadCalls) (.ref c_BadRows) = some false)
    (w_BadCalls_BadCalls : PySem.W.kitOne K (.ref c_BadCalls) (.ref c_BadCalls) = some true)
    (w_BadCalls_InPlace : PySem.W.kitOne K (.ref c_BadCalls) (.ref c_InPlace) = some false)
    (w_BadCalls_Nothing : PySem.W.kitOne K (.ref c_BadCalls) (.ref c_Nothing) = some false)
    (w_BadCalls_ValueError : PySem.W.kitOne K (.ref c_BadCalls) (.type "ValueError") = some true)
    (u_BadNumber : PySem.W.subIn K (.ref c_BadNumber) (.ref c_BoardError) = some true)
    (e1_BadNumber : PySem.W.findIn K (.ref c_BadNumber) "__getattribute__" = some (some (.builtin "BaseException.__getattribute__")))
    (e2_BadNumber : PySem.W.findIn K (.ref c_BadNumber) "__getattr__" = some none)
    (e4_BadNumber : PySem.W.hasDictIn K c_BadNumber = true)
    (e5_BadNumber : PySem.W.findIn K (.ref c_BadNumber) "__class__" = some (some (.builtin "object.__class__")))
    (e8_BadNumber : PySem.W.mroIn K c_BadNumber (.type "object") = some true)
    (w_BadNumber_NoPlug : PySem.W.kitOne K (.ref c_BadNumber) (.ref c_NoPlug) = some false)
    (w_BadNumber_Busy : PySem.W.kitOne K (.ref c_BadNumber) (.ref c_Busy) = some false)
    (w_BadNumber_BadWord : PySem.W.kitOne K (.ref c_BadNumber) (.ref c_BadWord) = some false)
    (w_BadNumber_BadNumber : PySem.W.kitOne K (.ref c_BadNumber) (.ref c_BadNumber) = some true)
    (w_BadNumber_BadText : PySem.W.kitOne K (.ref c_BadNumber) (.ref c_BadText) = some false)
    (w_BadNumber_BadRows : PySem.W.kitOne K (.ref c_BadNumber) (.ref c_BadRows) = some false)
    (w_BadNumber_BadCalls : PySem.W.kitOne K (.ref c_BadNumber) (.ref c_BadCalls) = some false)
    (w_BadNumber_InPlace : PySem.W.kitOne K (.ref c_BadNumber) (.ref c_InPlace) = some false)
    (w_BadNumber_Nothing : PySem.W.kitOne K (.ref c_BadNumber) (.ref c_Nothing) = some false)
    (w_BadNumber_ValueError : PySem.W.kitOne K (.ref c_BadNumber) (.type "ValueError") = some true)
    (tl : PySem.W.tabIn K "law" = some (cL, Pt))
    (nP : K.lookup Pt = none)
    (hcH : PySem.W.codeHdIn K cL Pt = true)
    (hTb : h.get? Pt = some { cls := .none, data := .fields #[] })
    (tlM : PySem.W.tabIn K "led" = some (cM, PtM))
    (nPM : K.lookup PtM = none)
    (hcHM : PySem.W.codeHdIn K cM PtM = true)
    (hTbM : h.get? PtM = some { cls := .none, data := .fields #[] })
    (hneM : PtM ≠ Pt)
    (hm : ∀ ns : List Int, ns.length ≤ 63 → F_law (.scr ns :: List.replicate 17 .un) = .ok (.rt (.bool true)))
    (hw : ∀ D ∈ LS, ∀ a, F_law_word (flOf D) a (.adr a :: List.replicate 3 .un) = .ok (.rt (.str (PySem.Str.ofString D))))
    : LamX.LawAtS l w K (L2N.CX l.prog w) 7 63 "_law_script" mg fa h := by
  obtain ⟨f, fd, F, e⟩ := R_law
  cases hfa.symm.trans e
  obtain ⟨C, i_BadCalls, i_BadNumber, i_BadRows, i_BadText, i_BadWord, i_BoardError, i_Busy, i_InPlace, i_NoPlug, i_Nothing⟩ : ∃ C : String → Addr, C "BadCalls" = c_BadCalls ∧ C "BadNumber" = c_BadNumber ∧ C "BadRows" = c_BadRows ∧ C "BadText" = c_BadText ∧ C "BadWord" = c_BadWord ∧ C "BoardError" = c_BoardError ∧ C "Busy" = c_Busy ∧ C "InPlace" = c_InPlace ∧ C "NoPlug" = c_NoPlug ∧ C "Nothing" = c_Nothing := ⟨fun s => if s = "BadCalls" then c_BadCalls else if s = "BadNumber" then c_BadNumber else if s = "BadRows" then c_BadRows else if s = "BadText" then c_BadText else if s = "BadWord" then c_BadWord else if s = "BoardError" then c_BoardError else if s = "Busy" then c_Busy else if s = "InPlace" then c_InPlace else if s = "NoPlug" then c_NoPlug else if s = "Nothing" then c_Nothing else 0, by simp, by simp, by simp, by simp, by simp, by simp, by simp, by simp, by simp, by simp⟩
  subst i_BadCalls i_BadNumber i_BadRows i_BadText i_BadWord i_BoardError i_Busy i_InPlace i_NoPlug i_Nothing
  have T : Txt K mg C := ⟨PySem.W.mg_none_of KX G b_ValueError, PySem.W.mg_none_of KX G b_all, PySem.W.mg_none_of KX G b_bool, PySem.W.mg_none_of KX G b_enumerate, PySem.W.mg_none_of KX G b_int, PySem.W.mg_none_of KX G b_isinstance, PySem.W.mg_none_of KX G b_len, PySem.W.mg_none_of KX G b_list, PySem.W.mg_none_of KX G b_max, PySem.W.mg_none_of KX G b_min, PySem.W.mg_none_of KX G b_range, PySem.W.mg_none_of KX G b_set, PySem.W.mg_none_of KX G b_sorted, PySem.W.mg_none_of KX G b_sum, PySem.W.mg_none_of KX G b_tuple, PySem.W.mg_none_of KX G b_zip, c_LATEST, c_LONGEST, c_MOST_CALLS, c_MOST_CORDS, c_MOST_LINES, PySem.W.mg_of KX G a_BadCalls, PySem.W.mg_of KX G a_BadNumber, PySem.W.mg_of KX G a_BadRows, PySem.W.mg_of KX G a_BadText, PySem.W.mg_of KX G a_BadWord, PySem.W.mg_of KX G a_BoardError, PySem.W.mg_of KX G a_Busy, PySem.W.mg_of KX G a_InPlace, PySem.W.mg_of KX G a_NoPlug, PySem.W.mg_of KX G a_Nothing, ⟨q_BadCalls, PySem.W.mg_of KX G a_BadCalls, k_BadCalls, s_BadCalls, t_BadCalls⟩, ⟨q_BadNumber, PySem.W.mg_of KX G a_BadNumber, k_BadNumber, s_BadNumber, t_BadNumber⟩⟩
  have W_BadCalls : WFacts K C "BadCalls" (flOf "BadCalls") := ⟨⟨e1_BadCalls, e2_BadCalls, s_BadCalls, e4_BadCalls, e5_BadCalls, sn, st, e8_BadCalls⟩, w_BadCalls_NoPlug, w_BadCalls_Busy, w_BadCalls_BadWord, w_BadCalls_BadNumber, w_BadCalls_BadText, w_BadCalls_BadRows, w_BadCalls_BadCalls, w_BadCalls_InPlace, w_BadCalls_Nothing, w_BadCalls_ValueError⟩
  have W_BadNumber : WFacts K C "BadNumber" (flOf "BadNumber") := ⟨⟨e1_BadNumber, e2_BadNumber, s_BadNumber, e4_BadNumber, e5_BadNumber, sn, st, e8_BadNumber⟩, w_BadNumber_NoPlug, w_BadNumber_Busy, w_BadNumber_BadWord, w_BadNumber_BadNumber, w_BadNumber_BadText, w_BadNumber_BadRows, w_BadNumber_BadCalls, w_BadNumber_InPlace, w_BadNumber_Nothing, w_BadNumber_ValueError⟩
  have hcd : fd.code = .ref cL := by
    obtain ⟨oc, od, kV, doc, pm, an, cdv, ct, osl, e1, lk, _⟩ := F.ex
    exact PySem.W.law_code KX G tl hfa (KX _ _ lk) rfl
  refine ⟨fd, [(cM, PtM), (cL, Pt)], spLaw K [(PtM, ("led" : Str) ++ ".<locals>." ++ "<lambda>"), (Pt, ("law" : Str) ++ ".<locals>." ++ "<lambda>")], (fun p hp => by simp only [List.mem_cons, List.not_mem_nil, or_false] at hp; rcases hp with rfl | rfl <;> assumption), (fun p hp => by simp only [List.mem_cons, List.not_mem_nil, or_false] at hp; rcases hp with rfl | rfl <;> assumption), (fun p hp => by simp only [List.mem_cons, List.not_mem_nil, or_false] at hp; rcases hp with rfl | rfl <;> exact PySem.W.codeHd_of_K KX (by assumption)), fun s u => ?_, fun H a ns hl _ hP hq => ⟨a, ns, rfl, hl, hq, (fun p hp => by simp only [List.mem_cons, List.not_mem_nil, or_false] at hp; rcases hp with rfl | rfl <;> (refine LamX.TabS.nil ?_; first | exact hP (cL, Pt) (by simp) | exact hP (cM, PtM) (by simp))), fun _ => rfl⟩, fun base _ _ hTB => ?_⟩
  · obtain ⟨oc, od, kV, doc, pm, an, cdv, ct, osl, rfl, _, _⟩ := F.ex
    exact .of_eq rfl
  · have H_is_count := has_is_count (P := l.prog) (w := w) (base := base) (Tb := [(PtM, ("led" : Str) ++ ".<locals>." ++ "<lambda>"), (Pt, ("law" : Str) ++ ".<locals>." ++ "<lambda>")]) (C := C) R_is_count T
    have H_is_call := has_is_call (P := l.prog) (w := w) (base := base) (Tb := [(PtM, ("led" : Str) ++ ".<locals>." ++ "<lambda>"), (Pt, ("law" : Str) ++ ".<locals>." ++ "<lambda>")]) (C := C) R_is_call T H_is_count
    have H_need_calls := has_need_calls (P := l.prog) (w := w) (base := base) (Tb := [(PtM, ("led" : Str) ++ ".<locals>." ++ "<lambda>"), (Pt, ("law" : Str) ++ ".<locals>." ++ "<lambda>")]) (C := C) R_need_calls T H_is_call
    obtain ⟨fM, fdM, FM, eM⟩ := R_led
    have hcdM : fdM.code = .ref cM := by
      obtain ⟨oc, od, kV, doc, pm, an, cdv, ct, osl, e1, lk, _⟩ := FM.ex
      exact PySem.W.law_code KX G tlM eM (KX _ _ lk) rfl
    have H_led := has_led (P := l.prog) (w := w) (base := base) (Tb := [(PtM, ("led" : Str) ++ ".<locals>." ++ "<lambda>"), (Pt, ("law" : Str) ++ ".<locals>." ++ "<lambda>")]) (C := C) FM eM hcdM (hTB (cM, PtM) List.mem_cons_self) List.mem_cons_self (by intro p hp hq; simp only [List.mem_cons, List.not_mem_nil, or_false] at hp; rcases hp with rfl | rfl <;> first | exact absurd hq.symm hneM | rfl) T
    have H_carried := has_carried (P := l.prog) (w := w) (base := base) (Tb := [(PtM, ("led" : Str) ++ ".<locals>." ++ "<lambda>"), (Pt, ("law" : Str) ++ ".<locals>." ++ "<lambda>")]) (C := C) R_carried T H_is_count H_need_calls H_led
    have H_fewest := has_fewest (P := l.prog) (w := w) (base := base) (Tb := [(PtM, ("led" : Str) ++ ".<locals>." ++ "<lambda>"), (Pt, ("law" : Str) ++ ".<locals>." ++ "<lambda>")]) (C := C) R_fewest T H_need_calls H_led
    have H_greatest := has_greatest (P := l.prog) (w := w) (base := base) (Tb := [(PtM, ("led" : Str) ++ ".<locals>." ++ "<lambda>"), (Pt, ("law" : Str) ++ ".<locals>." ++ "<lambda>")]) (C := C) R_greatest T H_need_calls H_led
    have H_law_cell := has_law_cell (P := l.prog) (w := w) (base := base) (Tb := [(PtM, ("led" : Str) ++ ".<locals>." ++ "<lambda>"), (Pt, ("law" : Str) ++ ".<locals>." ++ "<lambda>")]) (C := C) R_law_cell T
    have H_law_drawn := has_law_drawn (P := l.prog) (w := w) (base := base) (Tb := [(PtM, ("led" : Str) ++ ".<locals>." ++ "<lambda>"), (Pt, ("law" : Str) ++ ".<locals>." ++ "<lambda>")]) (C := C) R_law_drawn T
    have H_law_calls_of := has_law_calls_of (P := l.prog) (w := w) (base := base) (Tb := [(PtM, ("led" : Str) ++ ".<locals>." ++ "<lambda>"), (Pt, ("law" : Str) ++ ".<locals>." ++ "<lambda>")]) (C := C) R_law_calls_of T H_law_drawn
    have H_law_carried := has_law_carried (P := l.prog) (w := w) (base := base) (Tb := [(PtM, ("led" : Str) ++ ".<locals>." ++ "<lambda>"), (Pt, ("law" : Str) ++ ".<locals>." ++ "<lambda>")]) (C := C) R_law_carried T
    have H_law_told : TolX.ToldFn l.prog w K mg base [(PtM, ("led" : Str) ++ ".<locals>." ++ "<lambda>"), (Pt, ("law" : Str) ++ ".<locals>." ++ "<lambda>")] C LS 4 "_law_told" := told_mk (S := "BoardError") (wn := "_law_word") R_law_told (fun _ _ _ _ _ _ us hl => match us, hl with | [_], _ => rfl) sc_law_told ⟨_, _, _, _, _, _, _, _, _, _, rfl⟩ T.g_BoardError
      (by intro c hc; simp only [LS, List.mem_cons, List.not_mem_nil, or_false] at hc; rcases hc with rfl | rfl <;> exact PySem.W.exm_ref s_BoardError hd_BoardError t_BoardError (by assumption))
      (by
        intro c hc
        have hw1 := hw c hc
        simp only [LS, List.mem_cons, List.not_mem_nil, or_false] at hc
        rcases hc with rfl | rfl
        · exact has_law_word W_BadCalls R_law_word T hw1
        · exact has_law_word W_BadNumber R_law_word T hw1)
    exact has_law F hcd (hTB (cL, Pt) (List.mem_cons_of_mem _ List.mem_cons_self)) (List.mem_cons_of_mem _ List.mem_cons_self) (by intro p hp hq; simp only [List.mem_cons, List.not_mem_nil, or_false] at hp; rcases hp with rfl | rfl <;> first | exact absurd hq hneM | rfl) T H_carried H_fewest H_greatest H_law_cell H_law_drawn H_law_told H_law_calls_of H_law_carried hm
end K30

open PySem PySem.W PyProof.Rows in
set_option maxRecDepth 100000 in
set_option maxHeartbeats 0 in
theorem PySem.Challenge.cw_cordboard_k30_whole_hours_holds : PySem.Challenge.rw_cordboard_k30_whole_hours.Holds := by
  w_on; o_law; k_head; (case hw => w_witness2)
  k_fill
  refine LamX.walk_ofTs (l := PySem.Challenge.rw_cordboard_k30_whole_hours) (n := 63) (k := 7) (x := "_law_script") (CX := fun w => L2N.CX (PySem.Challenge.rw_cordboard_k30_whole_hours).prog w) rfl (by decide) rfl ⟨rfl, by decide, by decide⟩ (fun w h Y => PySem.W.km_in_of Y) ?F (fun w H s e s2 z => DL.cx_no H s e s2 z)
  case F =>
    intro w mg fa h Y KX G hmg
    refine' K30.at_law KX G hmg ?R_is_count ?R_is_call ?R_need_calls ?R_led ?R_carried ?R_fewest ?R_greatest ?R_law_cell ?R_law_drawn ?R_law_word ?R_law_calls_of ?R_law_carried ?R_law ?R_law_told ?b_ValueError ?b_all ?b_bool ?b_enumerate ?b_int ?b_isinstance ?b_len ?b_list ?b_max ?b_min ?b_range ?b_set ?b_sorted ?b_sum ?b_tuple ?b_zip ?c_LATEST ?c_LONGEST ?c_MOST_CALLS ?c_MOST_CORDS ?c_MOST_LINES ?a_BadCalls ?a_BadNumber ?a_BadRows ?a_BadText ?a_BadWord ?a_BoardError ?a_Busy ?a_InPlace ?a_NoPlug ?a_Nothing ?q_BadCalls ?k_BadCalls ?q_BadNumber ?k_BadNumber ?s_BadCalls ?t_BadCalls ?s_BadNumber ?t_BadNumber ?s_BoardError ?t_BoardError ?hd_BoardError ?sn ?st ?u_BadCalls ?e1_BadCalls ?e2_BadCalls ?e4_BadCalls ?e5_BadCalls ?e8_BadCalls ?w_BadCalls_NoPlug ?w_BadCalls_Busy ?w_BadCalls_BadWord ?w_BadCalls_BadNumber ?w_BadCalls_BadText ?w_BadCalls_BadRows ?w_BadCalls_BadCalls ?w_BadCalls_InPlace ?w_BadCalls_Nothing ?w_BadCalls_ValueError ?u_BadNumber ?e1_BadNumber ?e2_BadNumber ?e4_BadNumber ?e5_BadNumber ?e8_BadNumber ?w_BadNumber_NoPlug ?w_BadNumber_Busy ?w_BadNumber_BadWord ?w_BadNumber_BadNumber ?w_BadNumber_BadText ?w_BadNumber_BadRows ?w_BadNumber_BadCalls ?w_BadNumber_InPlace ?w_BadNumber_Nothing ?w_BadNumber_ValueError ?tl ?nP ?hcH ?hTb ?tlM ?nPM ?hcHM ?hTbM ?hneM K30.law_true K30.word_true
    (case R_is_count => refine' DL.raw_mk KX G ?a ?l ?c ?k; (case a => k_is); (case l => k_is); (case c => k_is); (case k => k_is))
    (case R_is_call => refine' DL.raw_mk KX G ?a ?l ?c ?k; (case a => k_is); (case l => k_is); (case c => k_is); (case k => k_is))
    (case R_need_calls => refine' DL.raw_mk KX G ?a ?l ?c ?k; (case a => k_is); (case l => k_is); (case c => k_is); (case k => k_is))
    (case R_led => refine' DL.raw_mk KX G ?a ?l ?c ?k; (case a => k_is); (case l => k_is); (case c => k_is); (case k => k_is))
    (case R_carried => refine' DL.raw_mk KX G ?a ?l ?c ?k; (case a => k_is); (case l => k_is); (case c => k_is); (case k => k_is))
    (case R_fewest => refine' DL.raw_mk KX G ?a ?l ?c ?k; (case a => k_is); (case l => k_is); (case c => k_is); (case k => k_is))
    (case R_greatest => refine' DL.raw_mk KX G ?a ?l ?c ?k; (case a => k_is); (case l => k_is); (case c => k_is); (case k => k_is))
    (case R_law_cell => refine' DL.raw_mk KX G ?a ?l ?c ?k; (case a => k_is); (case l => k_is); (case c => k_is); (case k => k_is))
    (case R_law_drawn => refine' DL.raw_mk KX G ?a ?l ?c ?k; (case a => k_is); (case l => k_is); (case c => k_is); (case k => k_is))
    (case R_law_word => refine' DL.raw_mk KX G ?a ?l ?c ?k; (case a => k_is); (case l => k_is); (case c => k_is); (case k => k_is))
    (case R_law_calls_of => refine' DL.raw_mk KX G ?a ?l ?c ?k; (case a => k_is); (case l => k_is); (case c => k_is); (case k => k_is))
    (case R_law_carried => refine' DL.raw_mk KX G ?a ?l ?c ?k; (case a => k_is); (case l => k_is); (case c => k_is); (case k => k_is))
    (case R_law => refine' DL.raw_mk KX G ?a ?l ?c ?k; (case a => k_is); (case l => k_is); (case c => k_is); (case k => k_is))
    (case R_law_told => refine' DL.raw_mk KX G ?a ?l ?c ?k; (case a => k_is); (case l => k_is); (case c => k_is); (case k => k_is))
    (case b_ValueError => k_is)
    (case b_all => k_is)
    (case b_bool => k_is)
    (case b_enumerate => k_is)
    (case b_int => k_is)
    (case b_isinstance => k_is)
    (case b_len => k_is)
    (case b_list => k_is)
    (case b_max => k_is)
    (case b_min => k_is)
    (case b_range => k_is)
    (case b_set => k_is)
    (case b_sorted => k_is)
    (case b_sum => k_is)
    (case b_tuple => k_is)
    (case b_zip => k_is)
    (case c_LATEST => refine' DL.globD_int (PySem.W.mg_of KX G ?a); (case a => k_is))
    (case c_LONGEST => refine' DL.globD_int (PySem.W.mg_of KX G ?a); (case a => k_is))
    (case c_MOST_CALLS => refine' DL.globD_int (PySem.W.mg_of KX G ?a); (case a => k_is))
    (case c_MOST_CORDS => refine' DL.globD_int (PySem.W.mg_of KX G ?a); (case a => k_is))
    (case c_MOST_LINES => refine' DL.globD_int (PySem.W.mg_of KX G ?a); (case a => k_is))
    (case a_BadCalls => k_is)
    (case a_BadNumber => k_is)
    (case a_BadRows => k_is)
    (case a_BadText => k_is)
    (case a_BadWord => k_is)
    (case a_BoardError => k_is)
    (case a_Busy => k_is)
    (case a_InPlace => k_is)
    (case a_NoPlug => k_is)
    (case a_Nothing => k_is)
    (case q_BadCalls => k_exc)
    (case k_BadCalls => k_is)
    (case q_BadNumber => k_exc)
    (case k_BadNumber => k_is)
    (case s_BadCalls => k_is)
    (case t_BadCalls => k_is)
    (case s_BadNumber => k_is)
    (case t_BadNumber => k_is)
    (case s_BoardError => k_is)
    (case t_BoardError => k_is)
    (case hd_BoardError => k_is)
    (case sn => k_is)
    (case st => k_is)
    (case u_BadCalls => k_is)
    (case e1_BadCalls => k_is)
    (case e2_BadCalls => k_is)
    (case e4_BadCalls => k_is)
    (case e5_BadCalls => k_is)
    (case e8_BadCalls => k_is)
    (case w_BadCalls_NoPlug => kit_is)
    (case w_BadCalls_Busy => kit_is)
    (case w_BadCalls_BadWord => kit_is)
    (case w_BadCalls_BadNumber => kit_is)
    (case w_BadCalls_BadText => kit_is)
    (case w_BadCalls_BadRows => kit_is)
    (case w_BadCalls_BadCalls => kit_is)
    (case w_BadCalls_InPlace => kit_is)
    (case w_BadCalls_Nothing => kit_is)
    (case w_BadCalls_ValueError => kit_is)
    (case u_BadNumber => k_is)
    (case e1_BadNumber => k_is)
    (case e2_BadNumber => k_is)
    (case e4_BadNumber => k_is)
    (case e5_BadNumber => k_is)
    (case e8_BadNumber => k_is)
    (case w_BadNumber_NoPlug => kit_is)
    (case w_BadNumber_Busy => kit_is)
    (case w_BadNumber_BadWord => kit_is)
    (case w_BadNumber_BadNumber => kit_is)
    (case w_BadNumber_BadText => kit_is)
    (case w_BadNumber_BadRows => kit_is)
    (case w_BadNumber_BadCalls => kit_is)
    (case w_BadNumber_InPlace => kit_is)
    (case w_BadNumber_Nothing => kit_is)
    (case w_BadNumber_ValueError => kit_is)
    (case tl => refine' DL.tab_mk ?t1 ?t2 ?t3 ?t4 ?t5 ?t6 ?t7; (case t1 => k_is); (case t2 => k_is); (case t3 => rfl); (case t4 => rfl); (case t5 => k_is); (case t6 => rfl); (case t7 => rfl))
    (case nP => kernel_rfl)
    (case hcH => kernel_rfl)
    (case hTb => exact PySem.W.km_tabs_of Y _ (by decide))
    (case tlM => refine' DL.tab_mk ?t1 ?t2 ?t3 ?t4 ?t5 ?t6 ?t7; (case t1 => k_is); (case t2 => k_is); (case t3 => rfl); (case t4 => rfl); (case t5 => k_is); (case t6 => rfl); (case t7 => rfl))
    (case nPM => kernel_rfl)
    (case hcHM => kernel_rfl)
    (case hTbM => exact PySem.W.km_tabs_of Y _ (by decide))
    (case hneM => decide)

