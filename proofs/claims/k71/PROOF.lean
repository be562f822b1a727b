import PyProof.Rows.All
import HandS.ForMost
import HandS.Lambda
import HandS.HeadHook4
import HandS.IsInst
import HandS.Wide
import HandS.Conv
import HandS.Defaults
import HandS.RevRange
import KE.KDictZip
import KE.KTurns
import PyProof.ListNew
import PyProof.CollectIter
import PyProof.FactsAll.range_iterator_1
import PyProof.WalksMore
import HandS.Sort
import KE.SortKeyHeap
import KE.SortData
import KE.KSortKey
import HandS.Style
import KE.SortLaws
import PySem.Challenge.RW_chestbreaks_k71_parted_in_units
import Wide.All
import OpenK.AllK
import Wide.FinOn
import KE.KStateDown
import HandS.Head0
import HandS.Head1
import HandS.Head2
import HandS.HeadEnd
import HandS.HeadHook1
import HandS.HeadHook2
import HandS.HeadHook3
import HandS.HeadWalk
set_option Elab.async false
set_option linter.all false
set_option autoImplicit false
set_option maxRecDepth 100000
/-! DL1: data over the hand layer: values as trees (D), what a slot holds (Sl), the state (StOk), lifted readings. -/
namespace DL
open PySem PySem.Spec L2
open PyProof.Rows hiding St

inductive D where
  | non | bl (b : Bool) | int (i : Int) | str (x : Str)
  | lst (ds : List D) | tup (ds : List D)
  | scr (ns : List Int)
  | raw (v : V)
  | obj (C : Addr) (fs : List (Str × D))
  | dct (kvs : List (Key × D))

mutual
inductive Dat (K : PySem.W.Frag) (H : Hp) : V → D → Prop
  | non : Dat K H .non .non
  | bl (b : Bool) : Dat K H (.bl b) (.bl b)
  | int (i : Int) : Dat K H (.int i) (.int i)
  | str (x : Str) : Dat K H (.str x) (.str x)
  | lst {a : Addr} {vs : List V} {ds : List D} : H a = some (.lst vs) → Dats K H vs ds → Dat K H (.ref a) (.lst ds)
  | tup {a : Addr} {vs : List V} {ds : List D} : H a = some (.tup vs) → Dats K H vs ds → Dat K H (.ref a) (.tup ds)
  | scr {a : Addr} {ns : List Int} : SqL K H a (ns.map V.int) → Dat K H (.ref a) (.scr ns)
  | raw (v : V) : Dat K H v (.raw v)
  | obj {a C dx : Addr} {fs : List (Str × V)} {gs : List (Str × D)} : H a = some (.ins C dx fs) → DatF K H fs gs → Dat K H (.ref a) (.obj C gs)
  | dct {a : Addr} {kvs : List (Key × V)} {es : List (Key × D)} : H a = some (.dK kvs) → DatK K H kvs es → Dat K H (.ref a) (.dct es)
inductive Dats (K : PySem.W.Frag) (H : Hp) : List V → List D → Prop
  | nil : Dats K H [] []
  | cons {v : V} {d : D} {vs : List V} {ds : List D} : Dat K H v d → Dats K H vs ds → Dats K H (v :: vs) (d :: ds)
inductive DatF (K : PySem.W.Frag) (H : Hp) : List (Str × V) → List (Str × D) → Prop
  | nil : DatF K H [] []
  | cons {f : Str} {v : V} {d : D} {vs : List (Str × V)} {ds : List (Str × D)} : Dat K H v d → DatF K H vs ds → DatF K H ((f, v) :: vs) ((f, d) :: ds)
inductive DatK (K : PySem.W.Frag) (H : Hp) : List (Key × V) → List (Key × D) → Prop
  | nil : DatK K H [] []
  | cons {f : Key} {v : V} {d : D} {vs : List (Key × V)} {ds : List (Key × D)} : Dat K H v d → DatK K H vs ds → DatK K H ((f, v) :: vs) ((f, d) :: ds)
end
/-! what stays: all but the tables of the code objects, which stay tables -/
def NT (o : HO) : Prop := ∀ ps, o ≠ .tbl ps
structure SmO (o : HO) (r : Option HO) : Prop where
  k : NT o → r = some o
  t : ∀ ps, o = .tbl ps → ∃ qs, r = some (.tbl qs)
theorem SmO.of {o : HO} {r : Option HO} (e : r = some o) : SmO o r := ⟨fun _ => e, fun ps z => ⟨ps, by rw [e, z]⟩⟩
theorem SmO.ex {o : HO} {r : Option HO} (s : SmO o r) : ∃ o', r = some o' := by
  by_cases h : NT o
  · exact ⟨o, s.k h⟩
  · unfold NT at h
    obtain ⟨ps, h⟩ := Classical.not_forall.mp h
    obtain ⟨qs, e⟩ := s.t ps (Classical.not_not.mp h)
    exact ⟨_, e⟩
theorem SmO.trans {o : HO} {r r' : Option HO} (a : SmO o r) (b : ∀ o', r = some o' → SmO o' r') : SmO o r' := ⟨fun n => (b o (a.k n)).k n, fun ps e => by
  obtain ⟨qs, e1⟩ := a.t ps e
  exact (b _ e1).t qs rfl⟩
def Same (H H' : Hp) : Prop := ∀ b o, H b = some o → SmO o (H' b)
theorem Same.refl (H : Hp) : Same H H := fun _ _ h => .of h
theorem Same.trans {H H1 H2 : Hp} (a : Same H H1) (b : Same H1 H2) : Same H H2 := fun c o h => (a c o h).trans (b c)
theorem Same.of {H H' : Hp} (a : L2.Same H H') : Same H H' := fun b o h => .of (a b o h)
theorem Same.free {H H' : Hp} (e : Same H H') {l : Addr} (h : H' l = Option.none) : H l = Option.none := by
  cases q : H l with
  | none => rfl
  | some o =>
    obtain ⟨o', z⟩ := (e l o q).ex
    rw [h] at z
    cases z
theorem nt_lst {vs : List V} : NT (.lst vs) := fun _ z => by cases z
theorem nt_tup {vs : List V} : NT (.tup vs) := fun _ z => by cases z
theorem nt_dK {vs : List (Key × V)} : NT (.dK vs) := fun _ z => by cases z
theorem nt_frz {o : Obj} {u : HO} : NT (.frz o u) := fun _ z => by cases z
theorem nt_ins {C dx : Addr} {fs : List (Str × V)} : NT (.ins C dx fs) := fun _ z => by cases z
theorem Same.seq {K : PySem.W.Frag} {H H' : Hp} {a : Addr} {xs : List V} (e : Same H H') (h : SqL K H a xs) : SqL K H' a xs := by
  rcases h with (h | ⟨o, h⟩) | h
  · exact .inl (.inl ((e _ _ h).k nt_lst))
  · exact .inl (.inr ⟨o, (e _ _ h).k nt_frz⟩)
  · exact .inr h
/-- the defs that make a lambda, in any of the laws -/
def lamNames : List Str := ["from_greatest", "_law_units"]
def tabsK (K : PySem.W.Frag) : List (Addr × Str) := lamNames.filterMap fun n => match (He.cT K (n, none)).2 with
  | 0 => none
  | p => some (p, n ++ ".<locals>." ++ "<lambda>")
def TabK (K : PySem.W.Frag) (H : Hp) : Prop := LamX.Tabs (tabsK K) H
theorem TabK.ext {K : PySem.W.Frag} {H H' : Hp} (t : TabK K H) (s : L2.Same H H') : TabK K H' := LamX.Tabs.ext t s
/-- an object that is neither a table nor a code object is written -/
theorem TabK.put {K : PySem.W.Frag} {H H' : Hp} {a : Addr} (t : TabK K H) (h : H a = none ∨ ∃ o, H a = some o ∧ NT o ∧ ∀ c q, o ≠ LamX.CodeO c q) (k : ∀ b o, b ≠ a → H b = some o → H' b = some o) : TabK K H' := fun p hp => by
  obtain ⟨ps, h1, h2, h3⟩ := t p hp
  have n1 : p.1 ≠ a := fun z => by
    rw [z] at h1
    rcases h with h | ⟨o, h, n, _⟩
    · rw [h] at h1
      cases h1
    · rw [h] at h1
      exact n _ (Option.some.inj h1)
  refine ⟨ps, k _ _ n1 h1, h2, fun pos cv hc => ?_⟩
  obtain ⟨c, e1, e2⟩ := h3 pos cv hc
  refine ⟨c, e1, k _ _ (fun z => ?_) e2⟩
  rw [z] at e2
  rcases h with h | ⟨o, h, _, n⟩
  · rw [h] at e2
    cases e2
  · rw [h] at e2
    exact n _ _ (Option.some.inj e2)
theorem TabK.new {K : PySem.W.Frag} {H : Hp} {a : Addr} {o : HO} (t : TabK K H) (n : H a = none) : TabK K (L2.upd H a o) := TabK.put t (.inl n) fun b x ne e => by
  rw [upd_ne ne]
  exact e
theorem code_lst {vs : List V} : ∀ c q, HO.lst vs ≠ LamX.CodeO c q := fun c q z => by
  unfold LamX.CodeO at z
  cases z
theorem code_dK {vs : List (Key × V)} : ∀ c q, HO.dK vs ≠ LamX.CodeO c q := fun c q z => by
  unfold LamX.CodeO at z
  cases z
section
variable {K : PySem.W.Frag} {H H' : Hp}
mutual
theorem Dat.mono (s : Same H H') : ∀ {v : V} {d : D}, Dat K H v d → Dat K H' v d
  | _, _, .non => .non
  | _, _, .bl b => .bl b
  | _, _, .int i => .int i
  | _, _, .str x => .str x
  | _, _, .lst h q => .lst ((s _ _ h).k nt_lst) (Dats.mono s q)
  | _, _, .tup h q => .tup ((s _ _ h).k nt_tup) (Dats.mono s q)
  | _, _, .scr h => .scr (s.seq h)
  | _, _, .raw v => .raw v
  | _, _, .obj h q => .obj ((s _ _ h).k nt_ins) (DatF.mono s q)
  | _, _, .dct h q => .dct ((s _ _ h).k nt_dK) (DatK.mono s q)
theorem Dats.mono (s : Same H H') : ∀ {v : List V} {d : List D}, Dats K H v d → Dats K H' v d
  | _, _, .nil => .nil
  | _, _, .cons h q => .cons (Dat.mono s h) (Dats.mono s q)
theorem DatF.mono (s : Same H H') : ∀ {v : List (Str × V)} {d : List (Str × D)}, DatF K H v d → DatF K H' v d
  | _, _, .nil => .nil
  | _, _, .cons h q => .cons (Dat.mono s h) (DatF.mono s q)
theorem DatK.mono (s : Same H H') : ∀ {v : List (Key × V)} {d : List (Key × D)}, DatK K H v d → DatK K H' v d
  | _, _, .nil => .nil
  | _, _, .cons h q => .cons (Dat.mono s h) (DatK.mono s q)
end
end
end DL
set_option Elab.async false
set_option linter.all false
set_option autoImplicit false
set_option maxRecDepth 100000
/-! DL2: slots, the state, what stays. -/
namespace DL
open PySem PySem.Spec L2
open PyProof.Rows hiding St

/-- what a slot holds: nothing known, data, a list or a dict of one's own -/
inductive Sl where
  | no | dat (d : D) | ml (ds : List D) | md (kvs : List (Key × D))
def Sl.isM : Sl → Bool
  | .ml _ => true
  | .md _ => true
  | _ => false
abbrev DEnv := List Sl
/-- an entry: the heap then, what is hidden, the borrowed slots and where their objects stand -/
structure Ct where
  H0 : Hp
  P : Addr → Prop
  ad : Nat → Addr
def Bo (bs : List Nat) (c : Ct) (b : Addr) : Prop := ∃ i ∈ bs, c.ad i = b
def Ct.hide (c : Ct) (a : Addr) : Ct := { c with P := fun b => c.P b ∨ b = a }
/-- an own object's slot -/
def MAt (σ : St) (E : DEnv) (i : Nat) (a : Addr) : Prop := ∃ s, E[i]? = some s ∧ s.isM = true ∧ σ[i]? = some (some (.ref a))
def Hid (c : Ct) (σ : St) (E : DEnv) (b : Addr) : Prop := c.P b ∨ ∃ i, MAt σ E i b
open Classical in
noncomputable def vis (c : Ct) (σ : St) (E : DEnv) (H : Hp) : Hp := fun b => if Hid c σ E b then none else H b
theorem vis_at {c : Ct} {σ : St} {E : DEnv} {H : Hp} {b : Addr} {o : HO} : vis c σ E H b = some o ↔ ¬ Hid c σ E b ∧ H b = some o := by
  unfold vis
  by_cases h : Hid c σ E b
  · rw [if_pos h]
    exact ⟨fun z => (nomatch z), fun z => absurd h z.1⟩
  · rw [if_neg h]
    exact ⟨fun z => ⟨h, z⟩, fun z => z.2⟩
theorem vis_le {c : Ct} {σ : St} {E : DEnv} {H : Hp} : Same (vis c σ E H) H := fun b o h => .of (vis_at.mp h).2
theorem vis_same {c c' : Ct} {σ σ' : St} {E E' : DEnv} {H H' : Hp} (h : ∀ b, Hid c' σ' E' b → ¬ Hid c σ E b → H b = none) (s : ∀ b o, ¬ Hid c σ E b → H b = some o → H' b = some o) : Same (vis c σ E H) (vis c' σ' E' H') := fun b o q => by
  obtain ⟨q1, q2⟩ := vis_at.mp q
  refine .of (vis_at.mpr ⟨fun z => ?_, s b o q1 q2⟩)
  rw [h b z q1] at q2
  cases q2
theorem vis_sameT {c c' : Ct} {σ σ' : St} {E E' : DEnv} {H H' : Hp} (h : ∀ b, Hid c' σ' E' b → ¬ Hid c σ E b → H b = none) (s : ∀ b o, ¬ Hid c σ E b → H b = some o → SmO o (H' b)) : Same (vis c σ E H) (vis c' σ' E' H') := fun b o q => by
  obtain ⟨q1, q2⟩ := vis_at.mp q
  have nh : ¬ Hid c' σ' E' b := fun z => by
    rw [h b z q1] at q2
    cases q2
  have q3 := s b o q1 q2
  exact ⟨fun n => vis_at.mpr ⟨nh, q3.k n⟩, fun ps e => by
    obtain ⟨qs, e1⟩ := q3.t ps e
    exact ⟨qs, vis_at.mpr ⟨nh, e1⟩⟩⟩
def SlOk (K : PySem.W.Frag) (bs : List Nat) (c : Ct) (G H : Hp) (v : Option V) : Sl → Prop
  | .no => True
  | .dat d => ∃ x, v = some x ∧ Dat K G x d
  | .ml ds => ∃ a vs, v = some (.ref a) ∧ H a = some (.lst vs) ∧ Dats K G vs ds ∧ (Bo bs c a ∨ c.H0 a = none)
  | .md kvs => ∃ a ws, v = some (.ref a) ∧ H a = some (.dK ws) ∧ DatK K G ws kvs ∧ (Bo bs c a ∨ c.H0 a = none)
structure StOk (K : PySem.W.Frag) (bs : List Nat) (c : Ct) (σ : St) (H : Hp) (E : DEnv) : Prop where
  len : σ.length = E.length
  tabs : TabK K H
  frame : ∀ b o, c.H0 b = some o → ¬ Bo bs c b → SmO o (H b)
  hidP : ∀ b, c.P b → ∃ o, H b = some o ∧ NT o
  disj : ∀ i a, MAt σ E i a → ¬ c.P a
  slot : ∀ (i : Nat) (s : Sl), E[i]? = some s → ∃ v, σ[i]? = some v ∧ SlOk K bs c (vis c σ E H) H v s
  dist : ∀ i j a, MAt σ E i a → MAt σ E j a → i = j
  bor : ∀ i ∈ bs, MAt σ E i (c.ad i)
section
variable {K : PySem.W.Frag} {bs : List Nat} {c : Ct} {σ σ' : St} {E E' : DEnv} {H H' : Hp} {a b : Addr} {i : Nat} {v : V} {d : D} {ds : List D}
theorem StOk.mat (h : StOk K bs c σ H E) (m : MAt σ E i a) : ∃ o, H a = some o ∧ NT o := by
  obtain ⟨s, h1, h2, h3⟩ := m
  obtain ⟨v, e, q⟩ := h.slot i s h1
  rw [h3] at e
  cases e
  cases s with
  | no => cases h2
  | dat d => cases h2
  | ml ds =>
    obtain ⟨a', vs, z, e, _⟩ := q
    cases z
    exact ⟨_, e, nt_lst⟩
  | md ds =>
    obtain ⟨a', vs, z, e, _⟩ := q
    cases z
    exact ⟨_, e, nt_dK⟩
theorem StOk.hid (h : StOk K bs c σ H E) (m : Hid c σ E a) : ∃ o, H a = some o ∧ NT o := by
  rcases m with m | ⟨i, m⟩
  · exact h.hidP a m
  · exact h.mat m
theorem StOk.new (h : StOk K bs c σ H E) (n : H a = none) : ¬ Hid c σ E a := fun m => by
  obtain ⟨o, e, _⟩ := h.hid m
  rw [n] at e
  cases e
/-- where an own object stands: borrowed, or new -/
theorem StOk.own (h : StOk K bs c σ H E) (m : MAt σ E i a) : Bo bs c a ∨ c.H0 a = none := by
  obtain ⟨s, h1, h2, h3⟩ := m
  obtain ⟨v, e, q⟩ := h.slot i s h1
  rw [h3] at e
  cases e
  cases s with
  | no => cases h2
  | dat d => cases h2
  | ml ds =>
    obtain ⟨a', vs, z, _, _, e⟩ := q
    cases z
    exact e
  | md ds =>
    obtain ⟨a', vs, z, _, _, e⟩ := q
    cases z
    exact e
theorem SlOk.mono {G G' : Hp} {s : Sl} {w : Option V} (q : SlOk K bs c G H w s) (g : Same G G') (k : ∀ a o, w = some (.ref a) → s.isM = true → NT o → H a = some o → H' a = some o) : SlOk K bs c G' H' w s := by
  cases s with
  | no => trivial
  | dat d =>
    obtain ⟨x, e, z⟩ := q
    exact ⟨x, e, z.mono g⟩
  | ml ds =>
    obtain ⟨a, vs, e, z1, z2, z3⟩ := q
    exact ⟨a, vs, e, k _ _ e rfl nt_lst z1, z2.mono g, z3⟩
  | md ds =>
    obtain ⟨a, vs, e, z1, z2, z3⟩ := q
    exact ⟨a, vs, e, k _ _ e rfl nt_dK z1, z2.mono g, z3⟩
/-- the heap grows -/
theorem StOk.grow (h : StOk K bs c σ H E) (s : Same H H') (t : TabK K H') : StOk K bs c σ H' E where
  len := h.len
  tabs := t
  frame := fun b o e n => (h.frame b o e n).trans (s b)
  hidP := fun b e => by
    obtain ⟨o, q, n⟩ := h.hidP b e
    exact ⟨o, (s _ _ q).k n, n⟩
  disj := h.disj
  slot := fun i t e => by
    obtain ⟨v, q, z⟩ := h.slot i t e
    exact ⟨v, q, z.mono (vis_sameT (fun b z n => absurd z n) fun b o _ q => s b o q) fun a o _ _ n q => (s a o q).k n⟩
  dist := h.dist
  bor := h.bor
theorem StOk.growF (h : StOk K bs c σ H E) (s : L2.Same H H') : StOk K bs c σ H' E := h.grow (.of s) (h.tabs.ext s)
theorem vis_grow (s : Same H H') : Same (vis c σ E H) (vis c σ E H') := vis_sameT (fun b z n => absurd z n) fun b o _ q => s b o q
theorem vis_new {o : HO} (h : StOk K bs c σ H E) (n : H a = none) : vis c σ E (upd H a o) a = some o := vis_at.mpr ⟨h.new n, upd_same⟩
theorem same_upd0 {H : Hp} {p : Addr} {o : HO} (h : H p = none) : L2.Same H (upd H p o) := fun b x e => by
  rw [upd_ne (ne_of_none e h)]
  exact e
theorem same_upd {H : Hp} {p : Addr} {o : HO} (h : H p = none) : Same H (upd H p o) := .of (same_upd0 h)
theorem StOk.get (h : StOk K bs c σ H E) (e : E[i]? = some (.dat d)) : ∃ v, σ[i]? = some (some v) ∧ Dat K (vis c σ E H) v d := by
  obtain ⟨v, q, x, z, r⟩ := h.slot i _ e
  cases z
  exact ⟨x, q, r⟩
theorem set_get {α : Type} {l : List α} {j : Nat} {x : α} : (l.set i x)[j]? = if i = j ∧ i < l.length then some x else l[j]? := by
  by_cases e : i = j
  · subst e
    by_cases hi : i < l.length
    · rw [List.getElem?_set_self hi, if_pos ⟨rfl, hi⟩]
    · rw [List.getElem?_eq_none (by rw [List.length_set]; omega), if_neg (fun z => hi z.2), List.getElem?_eq_none (by omega)]
  · rw [List.getElem?_set_ne e, if_neg (fun z => e z.1)]
theorem mat_set_ne {s : Sl} {x : Option V} {j : Nat} (hj : j ≠ i) : MAt (σ.set i x) (E.set i s) j a ↔ MAt σ E j a := by
  unfold MAt
  rw [List.getElem?_set_ne (Ne.symm hj), List.getElem?_set_ne (Ne.symm hj)]
theorem mat_of_set {s : Sl} {x : Option V} {j : Nat} (h : MAt (σ.set i x) (E.set i s) j a) (hs : s.isM = false) (hl : σ.length = E.length) : MAt σ E j a := by
  by_cases hj : j = i
  · subst hj
    obtain ⟨t, h1, h2, h3⟩ := h
    rw [set_get] at h1 h3
    by_cases hi : j < E.length
    · rw [if_pos ⟨rfl, hi⟩] at h1
      cases h1
      rw [hs] at h2
      cases h2
    · rw [if_neg (fun z => hi z.2)] at h1
      rw [if_neg (fun z => hi (by omega))] at h3
      exact ⟨t, h1, h2, h3⟩
  · exact (mat_set_ne hj).mp h
/-- a slot takes another value, no own one -/
theorem StOk.set (h : StOk K bs c σ H E) {s : Sl} {x : Option V} (hi : i ∉ bs) (hs : s.isM = false) (q : SlOk K bs c (vis c (σ.set i x) (E.set i s) H) H x s) : StOk K bs c (σ.set i x) H (E.set i s) where
  len := by rw [List.length_set, List.length_set, h.len]
  tabs := h.tabs
  frame := h.frame
  hidP := h.hidP
  disj := fun j a m => h.disj j a (mat_of_set m hs h.len)
  slot := fun j t e => by
    by_cases hj : i = j ∧ i < E.length
    · rw [set_get, if_pos hj] at e
      cases e
      rw [set_get, if_pos ⟨hj.1, by rw [h.len]; exact hj.2⟩]
      exact ⟨_, rfl, q⟩
    · rw [set_get, if_neg hj] at e
      rw [set_get, if_neg (fun z => hj ⟨z.1, by rw [← h.len]; exact z.2⟩)]
      obtain ⟨v, e1, e2⟩ := h.slot j t e
      refine ⟨v, e1, e2.mono (vis_same (fun b z n => ?_) fun b o _ q => q) fun a o _ _ _ q => q⟩
      rcases z with z | ⟨k, z⟩
      · exact absurd (.inl z) n
      · exact absurd (.inr ⟨k, mat_of_set z hs h.len⟩) n
  dist := fun j k a m n => h.dist j k a (mat_of_set m hs h.len) (mat_of_set n hs h.len)
  bor := fun j hj => by
    have e : j ≠ i := fun z => hi (z ▸ hj)
    exact (mat_set_ne e).mpr (h.bor j hj)
theorem vis_set (hl : σ.length = E.length) {s : Sl} {x : Option V} (hs : s.isM = false) : Same (vis c σ E H) (vis c (σ.set i x) (E.set i s) H) :=
  vis_same (fun b z n => by
    rcases z with z | ⟨k, z⟩
    · exact absurd (.inl z) n
    · exact absurd (.inr ⟨k, mat_of_set z hs hl⟩) n) fun b o _ q => q
theorem StOk.set_dat (h : StOk K bs c σ H E) (hi : i ∉ bs) (q : Dat K (vis c σ E H) v d) : StOk K bs c (σ.set i (some v)) H (E.set i (.dat d)) :=
  h.set hi rfl ⟨v, rfl, q.mono (vis_set h.len rfl)⟩
theorem StOk.set_no (h : StOk K bs c σ H E) {x : Option V} (hi : i ∉ bs) : StOk K bs c (σ.set i x) H (E.set i .no) := h.set hi rfl trivial
end

/-- a new list of one's own, hidden for the moment -/
structure OwnL (K : PySem.W.Frag) (bs : List Nat) (c : Ct) (σ : St) (H : Hp) (E : DEnv) (v : V) (ds : List D) (a : Addr) (vs : List V) : Prop where
  ref : v = .ref a
  at_ : H a = some (.lst vs)
  new : c.H0 a = none
  st : StOk K bs (c.hide a) σ H E
  its : Dats K (vis (c.hide a) σ E H) vs ds
structure OwnD (K : PySem.W.Frag) (bs : List Nat) (c : Ct) (σ : St) (H : Hp) (E : DEnv) (v : V) (ds : List (Key × D)) (a : Addr) (vs : List (Key × V)) : Prop where
  ref : v = .ref a
  at_ : H a = some (.dK vs)
  new : c.H0 a = none
  st : StOk K bs (c.hide a) σ H E
  its : DatK K (vis (c.hide a) σ E H) vs ds
section
variable {K : PySem.W.Frag} {bs : List Nat} {c : Ct} {σ σ' : St} {E E' : DEnv} {H H' : Hp} {a b : Addr} {i : Nat} {v : V} {d : D} {ds : List D} {vs : List V}
theorem hid_hide : Hid (c.hide a) σ E b ↔ Hid c σ E b ∨ b = a := by
  unfold Hid Ct.hide
  constructor
  · rintro ((z | z) | z)
    · exact .inl (.inl z)
    · exact .inr z
    · exact .inl (.inr z)
  · rintro ((z | z) | z)
    · exact .inl (.inl z)
    · exact .inr z
    · exact .inl (.inr z)
theorem vis_hide : Same (vis (c.hide a) σ E H) (vis c σ E H) := fun b o q => by
  obtain ⟨q1, q2⟩ := vis_at.mp q
  exact .of (vis_at.mpr ⟨fun z => q1 (hid_hide.mpr (.inl z)), q2⟩)
/-- what was hidden for the moment stands open -/
theorem StOk.unhide (h : StOk K bs (c.hide a) σ H E) : StOk K bs c σ H E where
  len := h.len
  tabs := h.tabs
  frame := h.frame
  hidP := fun b q => h.hidP b (.inl q)
  disj := fun i b m q => h.disj i b m (.inl q)
  slot := fun i s e => by
    obtain ⟨v, e1, e2⟩ := h.slot i s e
    refine ⟨v, e1, ?_⟩
    have q := e2.mono (vis_hide) (H' := H) fun _ _ _ _ _ z => z
    cases s with
    | no => trivial
    | dat d => exact q
    | ml ds => exact q
    | md ds => exact q
  dist := h.dist
  bor := h.bor
theorem not_hid (h : StOk K bs (c.hide a) σ H E) (n : ¬ c.P a) : ¬ Hid c σ E a := fun z => by
  rcases z with z | ⟨i, z⟩
  · exact n z
  · exact h.disj i a z (.inr rfl)
theorem OwnL.dat (o : OwnL K bs c σ H E v ds a vs) (n : ¬ c.P a) : StOk K bs c σ H E ∧ Dat K (vis c σ E H) v (.lst ds) := by
  refine ⟨o.st.unhide, ?_⟩
  rw [o.ref]
  exact .lst (vis_at.mpr ⟨not_hid o.st n, o.at_⟩) (o.its.mono vis_hide)
end
end DL
set_option Elab.async false
set_option linter.all false
set_option autoImplicit false
set_option maxRecDepth 100000
/-! DL3: answers (AV), lifted readings of expressions, tests, arguments, own results. -/
namespace DL
open PySem PySem.Spec L2
open PyProof.Rows hiding St

theorem it1 {A B : Prop} (h : if true = true then A else B) : A := by rwa [if_pos rfl] at h
theorem it0 {A B : Prop} (h : if false = true then A else B) : B := by rwa [if_neg Bool.false_ne_true] at h
/-- what an expression answers: data, or what stands in a slot -/
inductive AV where
  | val (d : D) | slot (i : Nat)
def AvOk (K : PySem.W.Frag) (c : Ct) (σ : St) (E : DEnv) (H : Hp) (v : V) : AV → Prop
  | .val d => Dat K (vis c σ E H) v d
  | .slot i => σ[i]? = some (some v)
def look (E : DEnv) : AV → Option D
  | .val d => some d
  | .slot i => match E[i]? with
    | some (.dat d) => some d
    | some (.ml ds) => some (.lst ds)
    | some (.md kvs) => some (.dct kvs)
    | _ => none
/-- data whose own object stands in H, what is in it in G -/
def Shal (K : PySem.W.Frag) (G H : Hp) (v : V) : D → Prop
  | .lst ds => ∃ a vs, v = .ref a ∧ H a = some (.lst vs) ∧ Dats K G vs ds
  | .dct es => ∃ a ws, v = .ref a ∧ H a = some (.dK ws) ∧ DatK K G ws es
  | d => Dat K G v d
theorem Dat.shal {K : PySem.W.Frag} {G H : Hp} {v : V} {d : D} (h : Dat K G v d) (s : Same G H) : Shal K G H v d := by
  cases h with
  | lst h q => exact ⟨_, _, rfl, (s _ _ h).k nt_lst, q⟩
  | dct h q => exact ⟨_, _, rfl, (s _ _ h).k nt_dK, q⟩
  | non => exact .non
  | bl b => exact .bl b
  | int i => exact .int i
  | str x => exact .str x
  | tup h q => exact .tup h q
  | scr h => exact .scr h
  | raw v => exact .raw v
  | obj h q => exact .obj h q
section
variable {K : PySem.W.Frag} {bs : List Nat} {c : Ct} {σ σ' : St} {E E' : DEnv} {H H' : Hp} {a b : Addr} {i : Nat} {v : V} {d : D} {ds : List D} {av : AV}
/-- what an expression leaves as it was: what is seen, and what is hidden from it -/
structure Step (c c' : Ct) (σ : St) (E : DEnv) (H : Hp) (E' : DEnv) (H' : Hp) : Prop where
  s : Same (vis c σ E H) (vis c' σ E' H')
  p : ∀ b, c.P b → H' b = H b
theorem Step.refl : Step c c σ E H E H := ⟨Same.refl _, fun _ _ => rfl⟩
theorem Step.trans {c' : Ct} {E2 : DEnv} {H2 : Hp} (a : Step c c σ E H E' H') (b : Step c c' σ E' H' E2 H2) : Step c c' σ E H E2 H2 := ⟨a.s.trans b.s, fun x z => (b.p x z).trans (a.p x z)⟩
theorem Step.env {c' : Ct} (s : Same (vis c σ E H) (vis c' σ E' H)) : Step c c' σ E H E' H := ⟨s, fun _ _ => rfl⟩
theorem AvOk.mono (h : AvOk K c σ E H v av) (s : Step c c σ E H E' H') : AvOk K c σ E' H' v av := by
  cases av with
  | val d => exact Dat.mono s.s h
  | slot i => exact h
theorem look_ok (h : StOk K bs c σ H E) (a : AvOk K c σ E H v av) (l : look E av = some d) : Shal K (vis c σ E H) H v d := by
  cases av with
  | val e =>
    cases l
    exact Dat.shal a vis_le
  | slot i =>
    have e : σ[i]? = some (some v) := a
    dsimp only [look] at l
    cases q : E[i]? with
    | none =>
      rw [q] at l
      cases l
    | some s =>
      rw [q] at l
      obtain ⟨w, e1, e2⟩ := h.slot i s q
      rw [e] at e1
      cases e1
      cases s with
      | no => cases l
      | dat x =>
        cases l
        obtain ⟨y, z, r⟩ := e2
        cases z
        exact r.shal vis_le
      | ml x =>
        cases l
        obtain ⟨a, vs, z, r1, r2, _⟩ := e2
        cases z
        exact ⟨_, vs, rfl, r1, r2⟩
      | md x =>
        cases l
        obtain ⟨a, vs, z, r1, r2, _⟩ := e2
        cases z
        exact ⟨_, vs, rfl, r1, r2⟩
/-- data to be kept: an own list is given away -/
def force (bs : List Nat) (E : DEnv) : AV → Option (D × DEnv)
  | .val d => some (d, E)
  | .slot i => match E[i]? with
    | some (.dat d) => some (d, E)
    | some (.ml ds) => if bs.contains i then none else some (.lst ds, E.set i (.dat (.lst ds)))
    | some (.md kvs) => if bs.contains i then none else some (.dct kvs, E.set i (.dat (.dct kvs)))
    | _ => none
theorem set_self {α : Type} {l : List α} {x : α} (h : l[i]? = some x) : l.set i x = l := by
  refine List.ext_getElem? fun j => ?_
  rw [set_get]
  split
  · rename_i e
    rw [← e.1, h]
  · rfl
theorem thaw_hid (h : StOk K bs c σ H E) (m : MAt σ E i a) {e : D} : ¬ Hid c σ (E.set i (.dat e)) a := fun z => by
  rcases z with z | ⟨j, z⟩
  · exact h.disj i a m z
  · by_cases hj : j = i
    · subst hj
      obtain ⟨s, h1, h2, h3⟩ := z
      obtain ⟨s', g1, _, _⟩ := m
      have hl : j < E.length := (List.getElem?_eq_some_iff.mp g1).1
      rw [List.getElem?_set_self hl] at h1
      cases h1
      cases h2
    · obtain ⟨s, h1, h2, h3⟩ := z
      rw [List.getElem?_set_ne (Ne.symm hj)] at h1
      exact hj (h.dist j i a ⟨s, h1, h2, h3⟩ m)
theorem vis_thaw (h : StOk K bs c σ H E) {s : Sl} (hs : s.isM = false) : Same (vis c σ E H) (vis c σ (E.set i s) H) := by
  refine vis_same (fun b z n => ?_) fun b o _ q => q
  rcases z with z | ⟨j, z⟩
  · exact absurd (.inl z) n
  · refine absurd (.inr ⟨j, ?_⟩) n
    obtain ⟨t, h1, h2, h3⟩ := z
    rw [set_get] at h1
    split at h1
    · cases h1
      rw [hs] at h2
      cases h2
    · exact ⟨t, h1, h2, h3⟩
theorem thaw_st (h : StOk K bs c σ H E) {s : Sl} {x : Option V} (hx : σ[i]? = some x) (hi : i ∉ bs) (hs : s.isM = false) (q : SlOk K bs c (vis c σ (E.set i s) H) H x s) : StOk K bs c σ H (E.set i s) := by
  have z := h.set (i := i) (s := s) (x := x) hi hs (by rw [set_self hx]; exact q)
  rw [set_self hx] at z
  exact z
theorem force_ok (h : StOk K bs c σ H E) (a : AvOk K c σ E H v av) (l : force bs E av = some (d, E')) : StOk K bs c σ H E' ∧ Step c c σ E H E' H ∧ Dat K (vis c σ E' H) v d := by
  cases av with
  | val e =>
    cases l
    exact ⟨h, Step.refl, a⟩
  | slot i =>
    have e : σ[i]? = some (some v) := a
    dsimp only [force] at l
    cases q : E[i]? with
    | none =>
      rw [q] at l
      cases l
    | some s =>
      rw [q] at l
      obtain ⟨w, e1, e2⟩ := h.slot i s q
      rw [e] at e1
      cases e1
      cases s with
      | no => cases l
      | dat x =>
        cases l
        obtain ⟨y, z, r⟩ := e2
        cases z
        exact ⟨h, Step.refl, r⟩
      | ml x =>
        have l : (if bs.contains i then none else some (D.lst x, E.set i (.dat (.lst x)))) = some (d, E') := l
        by_cases hb : bs.contains i = true
        · rw [if_pos hb] at l
          cases l
        · rw [if_neg hb] at l
          cases l
          obtain ⟨b, vs, z, r1, r2, _⟩ := e2
          cases z
          have m : MAt σ E i b := ⟨_, q, rfl, e⟩
          have sm := vis_thaw (c := c) h (i := i) (s := .dat (.lst x)) rfl
          have dt : Dat K (vis c σ (E.set i (.dat (.lst x))) H) (.ref b) (.lst x) := .lst (vis_at.mpr ⟨thaw_hid h m, r1⟩) (r2.mono sm)
          exact ⟨thaw_st h e (fun z => hb (by simpa using z)) rfl ⟨_, rfl, dt⟩, .env sm, dt⟩
      | md x =>
        have l : (if bs.contains i then none else some (D.dct x, E.set i (.dat (.dct x)))) = some (d, E') := l
        by_cases hb : bs.contains i = true
        · rw [if_pos hb] at l
          cases l
        · rw [if_neg hb] at l
          cases l
          obtain ⟨b, vs, z, r1, r2, _⟩ := e2
          cases z
          have m : MAt σ E i b := ⟨_, q, rfl, e⟩
          have sm := vis_thaw (c := c) h (i := i) (s := .dat (.dct x)) rfl
          have dt : Dat K (vis c σ (E.set i (.dat (.dct x))) H) (.ref b) (.dct x) := .dct (vis_at.mpr ⟨thaw_hid h m, r1⟩) (r2.mono sm)
          exact ⟨thaw_st h e (fun z => hb (by simpa using z)) rfl ⟨_, rfl, dt⟩, .env sm, dt⟩
end

/-! ### lifted readings -/
abbrev TD := DEnv → (AV → DEnv → Prop) → Prop
abbrev TDB := DEnv → (Bool → DEnv → Prop) → Prop
abbrev TDL := DEnv → (List AV → DEnv → Prop) → Prop
abbrev TDO := DEnv → (List D → DEnv → Prop) → Prop
def lift (K : PySem.W.Frag) (bs : List Nat) (t : TD) : TE := fun σ H Q0 => ∃ (c : Ct) (E : DEnv) (Q : AV → DEnv → Prop), StOk K bs c σ H E ∧ t E Q ∧
  ∀ av E' v H', StOk K bs c σ H' E' → Step c c σ E H E' H' → AvOk K c σ E' H' v av → Q av E' → Q0 v H'
def liftB (K : PySem.W.Frag) (bs : List Nat) (t : TDB) : TT := fun σ H Q0 => ∃ (c : Ct) (E : DEnv) (Q : Bool → DEnv → Prop), StOk K bs c σ H E ∧ t E Q ∧
  ∀ b E' H', StOk K bs c σ H' E' → Step c c σ E H E' H' → Q b E' → Q0 b H'
def liftL (K : PySem.W.Frag) (bs : List Nat) (t : TDL) : TA := fun σ H Q0 => ∃ (c : Ct) (E : DEnv) (Q : List AV → DEnv → Prop), StOk K bs c σ H E ∧ t E Q ∧
  ∀ avs E' vs H', StOk K bs c σ H' E' → Step c c σ E H E' H' → Paired (fun v av => AvOk K c σ E' H' v av) vs avs → Q avs E' → Q0 vs H'
def liftO (K : PySem.W.Frag) (bs : List Nat) (t : TDO) : TE := fun σ H Q0 => ∃ (c : Ct) (E : DEnv) (Q : List D → DEnv → Prop), StOk K bs c σ H E ∧ t E Q ∧
  ∀ ds E' v H' a vs, OwnL K bs c σ H' E' v ds a vs → ¬ c.P a → Step c (c.hide a) σ E H E' H' → Q ds E' → Q0 v H'
theorem _root_.L2.PE.imp {X : Cx} {e : Expr} {t u : TE} (h : PE X e t) (w : ∀ σ H Q, u σ H Q → t σ H Q) : PE X e u := ⟨fun pins s σ H Q I q => h.run pins s σ H Q I (w σ H Q q)⟩
theorem _root_.L2.PT.imp {X : Cx} {e : Expr} {t u : TT} (h : PT X e t) (w : ∀ σ H Q, u σ H Q → t σ H Q) : PT X e u := ⟨fun pins s σ H Q I q => h.run pins s σ H Q I (w σ H Q q)⟩
theorem _root_.L2.PW.imp {X : Cx} {e : Expr} {t u : TT} (h : PW X e t) (w : ∀ σ H Q, u σ H Q → t σ H Q) : PW X e u := ⟨fun wh pins s σ H Q I q => h.run wh pins s σ H Q I (w σ H Q q)⟩
theorem _root_.L2.PA.imp {X : Cx} {e : List Expr} {t u : TA} (h : PA X e t) (w : ∀ σ H Q, u σ H Q → t σ H Q) : PA X e u := ⟨fun p pins s σ H Q I q => h.run p pins s σ H Q I (w σ H Q q)⟩
theorem _root_.L2.PS.imp {X : Cx} {e : Stmt} {t u : TS} (h : PS X e t) (w : ∀ D σ H, u D σ H → t D σ H) : PS X e u := ⟨fun pins s σ H D I q => h.run pins s σ H D I (w D σ H q)⟩
theorem _root_.L2.PSs.imp {X : Cx} {e : List Stmt} {t u : TS} (h : PSs X e t) (w : ∀ D σ H, u D σ H → t D σ H) : PSs X e u := ⟨fun pins s σ H D I q => h.run pins s σ H D I (w D σ H q)⟩
section
variable {X : Cx} {bs : List Nat} {a b e : Expr} {ta tb te : TD} {pos : Pos}
/-- an own list as data -/
def dOwn (t : TDO) : TD := fun E Q => t E fun ds E' => Q (.val (.lst ds)) E'
theorem de_own {t : TDO} (h : PE X e (liftO X.K bs t)) : PE X e (lift X.K bs (dOwn t)) := h.imp fun σ H Q0 ⟨c, E, Q, ok, q, f⟩ =>
  ⟨c, E, _, ok, q, fun ds E' v H' a vs o n s r => by
    obtain ⟨o1, o2⟩ := o.dat n
    exact f (.val (.lst ds)) _ v H' o1 ⟨s.s.trans vis_hide, s.p⟩ o2 r⟩

/-! names, constants -/
def dVar (i : Nat) : TD := fun E Q => (∃ d, look E (.slot i) = some d) ∧ Q (.slot i) E
theorem de_var {i : Nat} {x : Str} (h : PE X (.Name x pos) (tVar i)) : PE X (.Name x pos) (lift X.K bs (dVar i)) := h.imp fun σ H Q0 ⟨c, E, Q, ok, ⟨⟨d, l⟩, q⟩, f⟩ => by
  have z : ∃ s, E[i]? = some s ∧ s ≠ .no := by
    dsimp only [look] at l
    cases r : E[i]? with
    | none =>
      rw [r] at l
      cases l
    | some s =>
      rw [r] at l
      refine ⟨s, rfl, fun z => ?_⟩
      subst z
      cases l
  obtain ⟨s, e, ne⟩ := z
  obtain ⟨v, e1, e2⟩ := ok.slot i s e
  have y : ∃ w, v = some w := by
    cases s with
    | no => exact absurd rfl ne
    | dat d =>
      obtain ⟨x, z, _⟩ := e2
      exact ⟨x, z⟩
    | ml d =>
      obtain ⟨x, _, z, _⟩ := e2
      exact ⟨_, z⟩
    | md d =>
      obtain ⟨x, _, z, _⟩ := e2
      exact ⟨_, z⟩
  obtain ⟨w, rfl⟩ := y
  exact ⟨w, e1, f (.slot i) _ w H ok Step.refl e1 q⟩
def dC (d : D) : TD := fun E Q => Q (.val d) E
theorem de_const {v : V} {d : D} (h : PE X e (tC v)) (hd : ∀ G, Dat X.K G v d) : PE X e (lift X.K bs (dC d)) := h.imp fun σ H Q0 ⟨c, E, Q, ok, q, f⟩ => f (.val d) _ v H ok Step.refl (hd _) q
theorem de_int {i : Int} {j : Nat} : PE X (.Constant (.int i) j pos) (lift X.K bs (dC (.int i))) := de_const (by exact pe_int) fun _ => .int i
theorem de_str {i : Str} {j : Nat} : PE X (.Constant (.str i) j pos) (lift X.K bs (dC (.str i))) := de_const (by exact pe_str) fun _ => .str i
theorem de_bl {i : Bool} {j : Nat} : PE X (.Constant (.bool i) j pos) (lift X.K bs (dC (.bl i))) := de_const (by exact pe_bl) fun _ => .bl i
theorem de_non {j : Nat} : PE X (.Constant .none j pos) (lift X.K bs (dC .non)) := de_const (by exact pe_non) fun _ => .non

/-! two operands -/
abbrev RD2 := D → D → (D → Prop) → Prop
def R2Ok (K : PySem.W.Frag) (r : R2) (rd : RD2) : Prop := ∀ (G H : Hp) (x y : V) (d e : D) (QD : D → Prop) (Q0 : VK), Same G H → Shal K G H x d → Shal K G H y e → rd d e QD → (∀ d' v, Dat K G v d' → QD d' → Q0 v H) → r x y H Q0
def dOp (rd : RD2) (ta tb : TD) : TD := fun E Q => ta E fun x E1 => tb E1 fun y E2 => ∃ d e, look E2 x = some d ∧ look E2 y = some e ∧ rd d e fun r => Q (.val r) E2
theorem op_lift {r : R2} {rd : RD2} (hr : R2Ok X.K r rd) (σ : St) (H : Hp) (Q0 : VK) (h : lift X.K bs (dOp rd ta tb) σ H Q0) : tOp r (lift X.K bs ta) (lift X.K bs tb) σ H Q0 := by
  obtain ⟨c, E, Q, ok, q, f⟩ := h
  refine ⟨c, E, _, ok, q, fun av1 E1 v1 H1 ok1 s1 a1 q1 => ⟨c, E1, _, ok1, q1, fun av2 E2 v2 H2 ok2 s2 a2 q2 => ?_⟩⟩
  obtain ⟨d, e, l1, l2, z⟩ := q2
  exact hr _ H2 v1 v2 d e _ Q0 vis_le (look_ok ok2 (a1.mono s2) l1) (look_ok ok2 a2 l2) z fun d' v hd q => f (.val d') _ v H2 ok2 (s1.trans s2) hd q
theorem de_op {op : Operator} {r : R2} {rd : RD2} (ho : OpR X (binaryOp op) r) (hr : R2Ok X.K r rd) (ha : PE X a (lift X.K bs ta)) (hb : PE X b (lift X.K bs tb)) : PE X (.BinOp a op b pos) (lift X.K bs (dOp rd ta tb)) :=
  (pe_op ho ha hb).imp (op_lift hr)
theorem de_cmp {op : CmpOp} {r : R2} {rd : RD2} (ho : OpR X (compareOp op) r) (hr : R2Ok X.K r rd) (ha : PE X a (lift X.K bs ta)) (hb : PE X b (lift X.K bs tb)) (hm : behindInMarks op b = false) : PE X (.Compare a [op] [b] pos) (lift X.K bs (dOp rd ta tb)) :=
  (pe_cmpR ho ha hb hm).imp (op_lift hr)
theorem de_ix {r : R2} {rd : RD2} (ho : IxR X r) (hr : R2Ok X.K r rd) (ha : PE X a (lift X.K bs ta)) (hb : PE X b (lift X.K bs tb)) (hs : PlainIx b := by exact fun _ _ => rfl) : PE X (.Subscript a b pos) (lift X.K bs (dOp rd ta tb)) :=
  (pe_ix ho ha hb hs).imp (op_lift hr)
def dUn (rd : D → (D → Prop) → Prop) (ta : TD) : TD := fun E Q => ta E fun x E1 => ∃ d, look E1 x = some d ∧ rd d fun r => Q (.val r) E1
def R1Ok (K : PySem.W.Frag) (r : V → Hp → VK → Prop) (rd : D → (D → Prop) → Prop) : Prop := ∀ (G H : Hp) (x : V) (d : D) (QD : D → Prop) (Q0 : VK), Same G H → Shal K G H x d → rd d QD → (∀ d' v, Dat K G v d' → QD d' → Q0 v H) → r x H Q0
theorem de_un {op : UnaryOp} {r : V → Hp → VK → Prop} {rd : D → (D → Prop) → Prop} (ho : UnR X (unaryOp op) r) (hr : R1Ok X.K r rd) (ha : PE X a (lift X.K bs ta)) : PE X (.UnaryOp op a pos) (lift X.K bs (dUn rd ta)) :=
  (pe_un ho ha).imp fun σ H Q0 ⟨c, E, Q, ok, q, f⟩ => ⟨c, E, _, ok, q, fun av E1 v H1 ok1 s1 a1 ⟨d, l, z⟩ => hr _ H1 v d _ Q0 vis_le (look_ok ok1 a1 l) z fun d' w hd q => f (.val d') _ w H1 ok1 s1 hd q⟩

/-! tests -/
def dTest (te : TD) : TDB := fun E Q => te E fun x E1 => ∃ b, look E1 x = some (.bl b) ∧ Q b E1
theorem shal_bl {K : PySem.W.Frag} {G H : Hp} {v : V} {b : Bool} (h : Shal K G H v (.bl b)) : v = .bl b := by
  cases (show Dat K G v (.bl b) from h)
  rfl
theorem shal_int {K : PySem.W.Frag} {G H : Hp} {v : V} {b : Int} (h : Shal K G H v (.int b)) : v = .int b := by
  cases (show Dat K G v (.int b) from h)
  rfl
theorem shal_str {K : PySem.W.Frag} {G H : Hp} {v : V} {b : Str} (h : Shal K G H v (.str b)) : v = .str b := by
  cases (show Dat K G v (.str b) from h)
  rfl
theorem shal_non {K : PySem.W.Frag} {G H : Hp} {v : V} (h : Shal K G H v .non) : v = .non := by
  cases (show Dat K G v .non from h)
  rfl
theorem shal_raw {K : PySem.W.Frag} {G H : Hp} {v w : V} (h : Shal K G H v (.raw w)) : v = w := by
  cases (show Dat K G v (.raw w) from h)
  rfl
theorem dt_val (h : PE X e (lift X.K bs te)) (he : ∀ whole, isTrue e X.env whole = (do let v ← whole; standAt e.pos; holding [v] (truthy v)) := by intro _; rfl) : PT X e (liftB X.K bs (dTest te)) :=
  (pt_val h he).imp fun σ H Q0 ⟨c, E, Q, ok, q, f⟩ => ⟨c, E, _, ok, q, fun av E1 v H1 ok1 s1 a1 ⟨b, l, z⟩ => ⟨b, shal_bl (look_ok ok1 a1 l), f _ _ H1 ok1 s1 z⟩⟩
theorem dt_cmp {op : CmpOp} {r : R2} {rd : RD2} (ho : OpR X (compareOp op) r) (hr : R2Ok X.K r rd) (ha : PE X a (lift X.K bs ta)) (hb : PE X b (lift X.K bs tb)) (hm : behindInMarks op b = false) : PT X (.Compare a [op] [b] pos) (liftB X.K bs (dTest (dOp rd ta tb))) :=
  (pt_cmpR ho ha hb hm).imp fun σ H Q0 ⟨c, E, Q, ok, q, f⟩ => op_lift hr σ H _ ⟨c, E, _, ok, q, fun av E1 v H1 ok1 s1 a1 ⟨b, l, z⟩ => ⟨b, shal_bl (look_ok ok1 a1 l), f _ _ H1 ok1 s1 z⟩⟩
variable {ua ub : TDB} {rest : List Expr}
def dAndB (t u : TDB) : TDB := fun E Q => t E fun b E1 => if b = true then u E1 Q else Q false E1
def dOrB (t u : TDB) : TDB := fun E Q => t E fun b E1 => if b = true then Q true E1 else u E1 Q
def dNotB (t : TDB) : TDB := fun E Q => t E fun b E1 => Q (!b) E1
theorem dt_and (ha : PT X a (liftB X.K bs ua)) (hb : PW X (.BoolOp .And (b :: rest) pos) (liftB X.K bs ub)) : PW X (.BoolOp .And (a :: b :: rest) pos) (liftB X.K bs (dAndB ua ub)) :=
  (pw_and ha hb).imp fun σ H Q0 ⟨c, E, Q, ok, q, f⟩ => ⟨c, E, _, ok, q, fun b E1 H1 ok1 s1 z => by
    cases b with
    | true => exact iteT ⟨c, E1, Q, ok1, it1 z, fun b E2 H2 ok2 s2 z => f b E2 H2 ok2 (s1.trans s2) z⟩
    | false => exact iteF (f false E1 H1 ok1 s1 (it0 z))⟩
theorem dt_or (ha : PT X a (liftB X.K bs ua)) (hb : PW X (.BoolOp .Or (b :: rest) pos) (liftB X.K bs ub)) : PW X (.BoolOp .Or (a :: b :: rest) pos) (liftB X.K bs (dOrB ua ub)) :=
  (pw_or ha hb).imp fun σ H Q0 ⟨c, E, Q, ok, q, f⟩ => ⟨c, E, _, ok, q, fun b E1 H1 ok1 s1 z => by
    cases b with
    | true => exact iteT (f true E1 H1 ok1 s1 (it1 z))
    | false => exact iteF ⟨c, E1, Q, ok1, it0 z, fun b E2 H2 ok2 s2 z => f b E2 H2 ok2 (s1.trans s2) z⟩⟩
theorem dt_not (ha : PT X a (liftB X.K bs ua)) : PT X (.UnaryOp .Not a pos) (liftB X.K bs (dNotB ua)) :=
  (pt_not ha).imp fun σ H Q0 ⟨c, E, Q, ok, q, f⟩ => ⟨c, E, _, ok, q, fun b E1 H1 ok1 s1 z => f _ E1 H1 ok1 s1 z⟩
/-- as values -/
def dAndV (ta tb : TD) : TD := fun E Q => ta E fun x E1 => ∃ b, look E1 x = some (.bl b) ∧ if b = true then tb E1 Q else Q (.val (.bl false)) E1
def dOrV (ta tb : TD) : TD := fun E Q => ta E fun x E1 => ∃ b, look E1 x = some (.bl b) ∧ if b = true then Q (.val (.bl true)) E1 else tb E1 Q
def dNotV (ta : TD) : TD := fun E Q => ta E fun x E1 => ∃ b, look E1 x = some (.bl b) ∧ Q (.val (.bl (!b))) E1
theorem de_and (ha : PE X a (lift X.K bs ta)) (hb : PE X (.BoolOp .And (b :: rest) pos) (lift X.K bs tb)) : PE X (.BoolOp .And (a :: b :: rest) pos) (lift X.K bs (dAndV ta tb)) :=
  (pe_and ha hb).imp fun σ H Q0 ⟨c, E, Q, ok, q, f⟩ => ⟨c, E, _, ok, q, fun av E1 v H1 ok1 s1 a1 ⟨k, l, z⟩ => ⟨k, shal_bl (look_ok ok1 a1 l), by
    cases k with
    | true => exact iteT ⟨c, E1, Q, ok1, it1 z, fun b E2 v2 H2 ok2 s2 z => f b E2 v2 H2 ok2 (s1.trans s2) z⟩
    | false => exact iteF (f (.val (.bl false)) E1 _ H1 ok1 s1 (.bl false) (it0 z))⟩⟩
theorem de_or (ha : PE X a (lift X.K bs ta)) (hb : PE X (.BoolOp .Or (b :: rest) pos) (lift X.K bs tb)) : PE X (.BoolOp .Or (a :: b :: rest) pos) (lift X.K bs (dOrV ta tb)) :=
  (pe_or ha hb).imp fun σ H Q0 ⟨c, E, Q, ok, q, f⟩ => ⟨c, E, _, ok, q, fun av E1 v H1 ok1 s1 a1 ⟨k, l, z⟩ => ⟨k, shal_bl (look_ok ok1 a1 l), by
    cases k with
    | true => exact iteT (f (.val (.bl true)) E1 _ H1 ok1 s1 (.bl true) (it1 z))
    | false => exact iteF ⟨c, E1, Q, ok1, it0 z, fun b E2 v2 H2 ok2 s2 z => f b E2 v2 H2 ok2 (s1.trans s2) z⟩⟩⟩
theorem de_not (ha : PE X a (lift X.K bs ta)) : PE X (.UnaryOp .Not a pos) (lift X.K bs (dNotV ta)) :=
  (pe_not ha).imp fun σ H Q0 ⟨c, E, Q, ok, q, f⟩ => ⟨c, E, _, ok, q, fun av E1 v H1 ok1 s1 a1 ⟨k, l, z⟩ => ⟨k, shal_bl (look_ok ok1 a1 l), f (.val (.bl (!k))) E1 _ H1 ok1 s1 (.bl _) z⟩⟩
def dIf (t : TDB) (ta tb : TD) : TD := fun E Q => t E fun b E1 => if b = true then ta E1 Q else tb E1 Q
theorem de_ifExp {k : Expr} (hc : PT X k (liftB X.K bs ua)) (ha : PE X a (lift X.K bs ta)) (hb : PE X b (lift X.K bs tb)) : PE X (.IfExp k a b pos) (lift X.K bs (dIf ua ta tb)) :=
  (pe_ifExp hc ha hb).imp fun σ H Q0 ⟨c, E, Q, ok, q, f⟩ => ⟨c, E, _, ok, q, fun b E1 H1 ok1 s1 z => by
    cases b with
    | true => exact iteT ⟨c, E1, Q, ok1, it1 z, fun b E2 v2 H2 ok2 s2 z => f b E2 v2 H2 ok2 (s1.trans s2) z⟩
    | false => exact iteF ⟨c, E1, Q, ok1, it0 z, fun b E2 v2 H2 ok2 s2 z => f b E2 v2 H2 ok2 (s1.trans s2) z⟩⟩
/-- a op b op' c -/
def dChain (rd rd' : RD2) (ta tb tc : TD) : TD := fun E Q => ta E fun x E1 => tb E1 fun y E2 => ∃ d e, look E2 x = some d ∧ look E2 y = some e ∧ rd d e fun r => ∃ k, r = .bl k ∧
  if k = true then tc E2 fun z E3 => ∃ e' g, look E3 y = some e' ∧ look E3 z = some g ∧ rd' e' g fun r => Q (.val r) E3 else Q (.val (.bl false)) E2
theorem de_chain {e' : Expr} {tc : TD} {op op' : CmpOp} {r r' : R2} {rd rd' : RD2} (ho : OpR X (compareOp op) r) (hr : R2Ok X.K r rd) (ho' : OpR X (compareOp op') r') (hr' : R2Ok X.K r' rd') (ha : PE X a (lift X.K bs ta)) (hb : PE X b (lift X.K bs tb)) (hc : PE X e' (lift X.K bs tc))
    (hm : lastMarks [op, op'] [b, e'] = false := by with_unfolding_all rfl) : PE X (.Compare a [op, op'] [b, e'] pos) (lift X.K bs (dChain rd rd' ta tb tc)) :=
  (pe_chain ho ho' ha hb hc hm).imp fun σ H Q0 ⟨c, E, Q, ok, q, f⟩ => by
    refine ⟨c, E, _, ok, q, fun av1 E1 v1 H1 ok1 s1 a1 q1 => ⟨c, E1, _, ok1, q1, fun av2 E2 v2 H2 ok2 s2 a2 q2 => ?_⟩⟩
    obtain ⟨d, e, l1, l2, z⟩ := q2
    refine hr _ H2 v1 v2 d e _ _ vis_le (look_ok ok2 (a1.mono s2) l1) (look_ok ok2 a2 l2) z fun d' v hd ⟨k, ek, z⟩ => ?_
    subst ek
    cases hd
    refine ⟨k, rfl, ?_⟩
    cases k with
    | false => exact iteF (f (.val (.bl false)) E2 _ H2 ok2 (s1.trans s2) (.bl false) (it0 z))
    | true =>
      refine iteT ⟨c, E2, _, ok2, it1 z, fun av3 E3 v3 H3 ok3 s3 a3 q3 => ?_⟩
      obtain ⟨e', g, l3, l4, z⟩ := q3
      exact hr' _ H3 v2 v3 e' g _ Q0 vis_le (look_ok ok3 (a2.mono s3) l3) (look_ok ok3 a3 l4) z fun d' v hd q => f (.val d') _ v H3 ok3 ((s1.trans s2).trans s3) hd q

/-! argument lists -/
variable {es : List Expr} {t : TDL}
def dNil : TDL := fun E Q => Q [] E
def dCons (te : TD) (t : TDL) : TDL := fun E Q => te E fun x E1 => t E1 fun xs E2 => Q (x :: xs) E2
theorem da_nil : PA X [] (liftL X.K bs dNil) := pa_nil.imp fun σ H Q0 ⟨c, E, Q, ok, q, f⟩ => f _ E _ H ok Step.refl .nil q
theorem da_cons (ha : PE X e (lift X.K bs te)) (hr : PA X es (liftL X.K bs t)) (hs : starEach (e :: es) X.env = (false, eval e X.env) :: starEach es X.env := by rfl) : PA X (e :: es) (liftL X.K bs (dCons te t)) :=
  (pa_cons ha hr hs).imp fun σ H Q0 ⟨c, E, Q, ok, q, f⟩ => ⟨c, E, _, ok, q, fun av E1 v H1 ok1 s1 a1 q1 => ⟨c, E1, _, ok1, q1, fun avs E2 vs H2 ok2 s2 a2 q2 => f _ E2 _ H2 ok2 (s1.trans s2) (.cons (a1.mono s2) a2) q2⟩⟩
def looks (E : DEnv) : List AV → Option (List D)
  | [] => some []
  | x :: xs => match look E x, looks E xs with
    | some d, some ds => some (d :: ds)
    | _, _ => none
def Shals (K : PySem.W.Frag) (G H : Hp) : List V → List D → Prop := Paired (fun v d => Shal K G H v d)
theorem looks_ok {c : Ct} {σ : St} {E : DEnv} {H : Hp} (h : StOk X.K bs c σ H E) : ∀ {vs : List V} {avs : List AV} {ds : List D}, Paired (fun v av => AvOk X.K c σ E H v av) vs avs → looks E avs = some ds → Shals X.K (vis c σ E H) H vs ds
  | _, _, _, .nil, l => by
    cases l
    exact .nil
  | v :: vs, av :: avs, _, .cons r rr, l => by
    dsimp only [looks] at l
    cases e1 : look E av with
    | none =>
      rw [e1] at l
      cases l
    | some d =>
      cases e2 : looks E avs with
      | none =>
        rw [e1, e2] at l
        cases l
      | some ds =>
        rw [e1, e2] at l
        cases l
        exact .cons (look_ok h r e1) (looks_ok h rr e2)
/-- a builtin called by its name -/
abbrev RDC := List D → (D → Prop) → Prop
def RCOk (K : PySem.W.Frag) (r : List V → Hp → VK → Prop) (rd : RDC) : Prop := ∀ (G H : Hp) (xs : List V) (ds : List D) (QD : D → Prop) (Q0 : VK), Same G H → Shals K G H xs ds → rd ds QD → (∀ d' v, Dat K G v d' → QD d' → Q0 v H) → r xs H Q0
def dCB (rd : RDC) (t : TDL) : TD := fun E Q => t E fun xs E1 => ∃ ds, looks E1 xs = some ds ∧ rd ds fun r => Q (.val r) E1
theorem cb_lift {r : List V → Hp → VK → Prop} {rd : RDC} (hr : RCOk X.K r rd) (σ : St) (H : Hp) (Q0 : VK) (h : lift X.K bs (dCB rd t) σ H Q0) : tCB r (liftL X.K bs t) σ H Q0 := by
  obtain ⟨c, E, Q, ok, q, f⟩ := h
  exact ⟨c, E, _, ok, q, fun avs E1 vs H1 ok1 s1 a1 ⟨ds, l, z⟩ => hr _ H1 vs ds _ Q0 vis_le (looks_ok ok1 a1 l) z fun d' v hd q => f (.val d') _ v H1 ok1 s1 hd q⟩
variable {x : Str} {p : Pos} {id T : String}
theorem de_blt {r : List V → Hp → VK → Prop} {rd : RDC} (hc : CallR X (.builtin id) r) (hr : RCOk X.K r rd) (hg : Gl X x) (hm : X.mg x = none) (hv : bootBuiltins x = some (.builtin id)) (ha : PA X (e :: es) (liftL X.K bs t)) (hn : x ≠ "__name__" := by decide) (hdb : (x == ("__debug__" : Str)) = false := by decide)
    (he : starEach (e :: es) X.env = (false, eval e X.env) :: starEach es X.env := by rfl) (hpl : (backTo pos (starEach es X.env)).any (·.1) = false := by rfl) : PE X (.Call (.Name x p) (e :: es) [] pos) (lift X.K bs (dCB rd t)) :=
  (pe_callB hc hg hm hv ha hn hdb he hpl).imp (cb_lift hr)
theorem de_bty {r : List V → Hp → VK → Prop} {rd : RDC} (hc : CallR X (.type T) r) (hr : RCOk X.K r rd) (hg : Gl X x) (hm : X.mg x = none) (hv : bootBuiltins x = some (.type T)) (ha : PA X (e :: es) (liftL X.K bs t)) (hn : x ≠ "__name__" := by decide) (hdb : (x == ("__debug__" : Str)) = false := by decide)
    (he : starEach (e :: es) X.env = (false, eval e X.env) :: starEach es X.env := by rfl) (hpl : (backTo pos (starEach es X.env)).any (·.1) = false := by rfl) : PE X (.Call (.Name x p) (e :: es) [] pos) (lift X.K bs (dCB rd t)) :=
  (pe_callTy hc hg hm hv ha hn hdb he hpl).imp (cb_lift hr)
end
end DL
set_option Elab.async false
set_option linter.all false
set_option autoImplicit false
set_option maxRecDepth 100000
/-! DL4: statements, targets, loops. -/
namespace DL
open PySem PySem.Spec L2
open PyProof.Rows hiding St

/-- what a def hands back: data, a new list or dict of the asker's own -/
inductive Rt where
  | dat (d : D) | own (ds : List D)
structure DEnds where
  nx : DEnv → Prop
  rt : Rt → DEnv → Prop
  bk : DEnv → Prop := fun _ => False
  ct : DEnv → Prop := fun _ => False
abbrev TSd := DEnds → DEnv → Prop
abbrev TDG := D → DEnv → (DEnv → Prop) → Prop
def RtOk (K : PySem.W.Frag) (bs : List Nat) (c : Ct) (σ : St) (H : Hp) (E : DEnv) (v : V) : Rt → Prop
  | .dat d => StOk K bs c σ H E ∧ Dat K (vis c σ E H) v d
  | .own ds => ∃ a vs, OwnL K bs c σ H E v ds a vs ∧ ¬ c.P a
/-- an end at the state (σ, E, H) leads to another end -/
def NxOk (K : PySem.W.Frag) (bs : List Nat) (c : Ct) (σ : St) (E : DEnv) (H : Hp) (q : DEnv → Prop) (k : St → Hp → Prop) : Prop := ∀ σ' H' E', StOk K bs c σ' H' E' → Same (vis c σ E H) (vis c σ' E' H') → q E' → k σ' H'
structure Go (K : PySem.W.Frag) (bs : List Nat) (c : Ct) (σ : St) (E : DEnv) (H : Hp) (DD : DEnds) (D : Ends) : Prop where
  nx : NxOk K bs c σ E H DD.nx D.nx
  bk : NxOk K bs c σ E H DD.bk D.bk
  ct : NxOk K bs c σ E H DD.ct D.ct
  rt : ∀ σ' H' E' v r, RtOk K bs c σ' H' E' v r → DD.rt r E' → D.rt v H'
def LS (K : PySem.W.Frag) (bs : List Nat) (t : TSd) : TS := fun D σ H => ∃ (c : Ct) (E : DEnv) (DD : DEnds), StOk K bs c σ H E ∧ t DD E ∧ Go K bs c σ E H DD D
theorem NxOk.from {K : PySem.W.Frag} {bs : List Nat} {c : Ct} {σ σ' : St} {E E' : DEnv} {H H' : Hp} {q : DEnv → Prop} {k : St → Hp → Prop} (n : NxOk K bs c σ E H q k) (s : Same (vis c σ E H) (vis c σ' E' H')) : NxOk K bs c σ' E' H' q k := fun σ2 H2 E2 ok s2 z => n σ2 H2 E2 ok (s.trans s2) z
theorem Go.from {K : PySem.W.Frag} {bs : List Nat} {c : Ct} {σ σ' : St} {E E' : DEnv} {H H' : Hp} {DD : DEnds} {D : Ends} (g : Go K bs c σ E H DD D) (s : Same (vis c σ E H) (vis c σ' E' H')) : Go K bs c σ' E' H' DD D := ⟨g.nx.from s, g.bk.from s, g.ct.from s, g.rt⟩
section
variable {X : Cx} {bs : List Nat} {st : Stmt} {sts : List Stmt} {t u : TSd} {e : Expr} {te : TD} {pos : Pos}
def dNext : TSd := fun DD E => DD.nx E
def dSeq (t u : TSd) : TSd := fun DD E => t { DD with nx := u DD } E
theorem dss_nil : PSs X [] (LS X.K bs dNext) := pss_nil.imp fun D σ H ⟨c, E, DD, ok, q, g⟩ => g.nx σ H E ok (Same.refl _) q
theorem dss_one (h : PS X st (LS X.K bs t)) : PSs X [st] (LS X.K bs t) := pss_one h
theorem dss_cons (h : PS X st (LS X.K bs t)) (h2 : PSs X sts (LS X.K bs u)) : PSs X (st :: sts) (LS X.K bs (dSeq t u)) := (pss_cons h h2).imp fun D σ H ⟨c, E, DD, ok, q, g⟩ =>
  ⟨c, E, { DD with nx := u DD }, ok, q, ⟨fun σ' H' E' ok' s z => ⟨c, E', DD, ok', z, g.from s⟩, g.bk, g.ct, g.rt⟩⟩
def dPass : TSd := dNext
theorem ds_pass : PS X (.Pass pos) (LS X.K bs dNext) := ps_pass.imp fun D σ H ⟨c, E, DD, ok, q, g⟩ => g.nx σ H E ok (Same.refl _) q
def dBreak : TSd := fun DD E => DD.bk E
def dCont : TSd := fun DD E => DD.ct E
theorem ds_break : PS X (.Break pos) (LS X.K bs dBreak) := ps_break.imp fun D σ H ⟨c, E, DD, ok, q, g⟩ => g.bk σ H E ok (Same.refl _) q
theorem ds_continue : PS X (.Continue pos) (LS X.K bs dCont) := ps_continue.imp fun D σ H ⟨c, E, DD, ok, q, g⟩ => g.ct σ H E ok (Same.refl _) q
def dNever : TSd := fun _ _ => False
theorem ds_never : PS X st (LS X.K bs dNever) := ps_never.imp fun D σ H ⟨c, E, DD, ok, q, g⟩ => q
theorem dss_never : PSs X sts (LS X.K bs dNever) := pss_never.imp fun D σ H ⟨c, E, DD, ok, q, g⟩ => q
def dIfS (k : TDB) (t u : TSd) : TSd := fun DD E => k E fun b E1 => if b = true then t DD E1 else u DD E1
theorem ds_if {k : Expr} {as os : List Stmt} {tk : TDB} (hk : PT X k (liftB X.K bs tk)) (ha : PSs X as (LS X.K bs t)) (hb : PSs X os (LS X.K bs u)) : PS X (.If k as os pos) (LS X.K bs (dIfS tk t u)) := (ps_if hk ha hb).imp fun D σ H ⟨c, E, DD, ok, q, g⟩ =>
  ⟨c, E, _, ok, q, fun b E1 H1 ok1 s1 z => by
    cases b with
    | true => exact iteT ⟨c, E1, DD, ok1, it1 z, g.from s1.s⟩
    | false => exact iteF ⟨c, E1, DD, ok1, it0 z, g.from s1.s⟩⟩
def dExpr (te : TD) : TSd := fun DD E => te E fun _ E1 => DD.nx E1
theorem ds_expr (he : PE X e (lift X.K bs te)) (hs : swapsWith e none pos.line X.env = pure false := by rfl) : PS X (.Expr e pos) (LS X.K bs (dExpr te)) := (ps_expr he hs).imp fun D σ H ⟨c, E, DD, ok, q, g⟩ =>
  ⟨c, E, _, ok, q, fun av E1 v H1 ok1 s1 a1 z => g.nx σ H1 E1 ok1 s1.s z⟩
theorem ds_doc {x : Str} {j : Nat} {pos' : Pos} : PS X (.Expr (.Constant (.str x) j pos) pos') (LS X.K bs dNext) := ps_doc.imp fun D σ H ⟨c, E, DD, ok, q, g⟩ => g.nx σ H E ok (Same.refl _) q
/-- return of data -/
def dRet (bs : List Nat) (te : TD) : TSd := fun DD E => te E fun av E1 => ∃ d E2, force bs E1 av = some (d, E2) ∧ DD.rt (.dat d) E2
theorem ds_ret (he : PE X e (lift X.K bs te)) : PS X (.Return (some e) pos) (LS X.K bs (dRet bs te)) := (ps_ret he).imp fun D σ H ⟨c, E, DD, ok, q, g⟩ =>
  ⟨c, E, _, ok, q, fun av E1 v H1 ok1 s1 a1 ⟨d, E2, fo, z⟩ => by
    obtain ⟨f1, f2, f3⟩ := force_ok ok1 a1 fo
    exact g.rt σ H1 E2 v (.dat d) ⟨f1, f3⟩ z⟩
/-- return of a new own list -/
def dRetO (t : TDO) : TSd := fun DD E => t E fun ds E1 => DD.rt (.own ds) E1
theorem ds_retO {t : TDO} (he : PE X e (liftO X.K bs t)) : PS X (.Return (some e) pos) (LS X.K bs (dRetO t)) := (ps_ret he).imp fun D σ H ⟨c, E, DD, ok, q, g⟩ =>
  ⟨c, E, _, ok, q, fun ds E1 v H1 a vs o n s1 z => g.rt σ H1 E1 v (.own ds) ⟨a, vs, o, n⟩ z⟩
theorem ds_retN : PS X (.Return none pos) (LS X.K bs (fun DD E => DD.rt (.dat .non) E)) := ps_retN.imp fun D σ H ⟨c, E, DD, ok, q, g⟩ => g.rt σ H E .non (.dat .non) ⟨ok, .non⟩ q
/-- an own list's slot as an own answer: the slot is given up -/
def dTake (bs : List Nat) (i : Nat) : TDO := fun E Q => ∃ ds, E[i]? = some (.ml ds) ∧ bs.contains i = false ∧ Q ds (E.set i .no)
theorem de_take {i : Nat} {x : Str} (h : PE X (.Name x pos) (tVar i)) : PE X (.Name x pos) (liftO X.K bs (dTake bs i)) := h.imp fun σ H Q0 ⟨c, E, Q, ok, ⟨ds, e, hb, q⟩, f⟩ => by
  obtain ⟨v, e1, a, vs, z, e2, e3, e4⟩ := ok.slot i _ e
  subst z
  have m : MAt σ E i a := ⟨_, e, rfl, e1⟩
  have hi : i ∉ bs := fun z => by
    have : bs.contains i = true := by simpa using z
    rw [hb] at this
    cases this
  have nB : ¬ Bo bs c a := fun ⟨j, hj, ej⟩ => by
    have m2 := ok.bor j hj
    rw [ej] at m2
    exact hi (ok.dist _ _ a m m2 ▸ hj)
  have new : c.H0 a = none := e4.resolve_left nB
  -- the state with the slot given up and a hidden
  have hh : ∀ b, Hid (c.hide a) σ (E.set i .no) b ↔ Hid c σ E b := fun b => by
    rw [hid_hide]
    constructor
    · rintro ((z | ⟨j, z⟩) | z)
      · exact .inl z
      · refine .inr ⟨j, ?_⟩
        obtain ⟨t, h1, h2, h3⟩ := z
        rw [set_get] at h1
        split at h1
        · cases h1
          cases h2
        · exact ⟨t, h1, h2, h3⟩
      · rw [z]
        exact .inr ⟨i, m⟩
    · rintro (z | ⟨j, z⟩)
      · exact .inl (.inl z)
      · by_cases hj : j = i
        · subst hj
          obtain ⟨t, h1, h2, h3⟩ := z
          rw [e1] at h3
          cases h3
          exact .inr rfl
        · refine .inl (.inr ⟨j, ?_⟩)
          obtain ⟨t, h1, h2, h3⟩ := z
          exact ⟨t, by rw [List.getElem?_set_ne (Ne.symm hj)]; exact h1, h2, h3⟩
  have hv : vis (c.hide a) σ (E.set i .no) H = vis c σ E H := by
    funext b
    unfold vis
    by_cases z : Hid c σ E b
    · rw [if_pos z, if_pos ((hh b).mpr z)]
    · rw [if_neg z, if_neg (fun y => z ((hh b).mp y))]
  have mm : ∀ j b, MAt σ (E.set i .no) j b → MAt σ E j b ∧ j ≠ i := fun j b ⟨t, h1, h2, h3⟩ => by
    rw [set_get] at h1
    split at h1
    · cases h1
      cases h2
    · rename_i hj
      refine ⟨⟨t, h1, h2, h3⟩, fun z => hj ⟨z.symm, ?_⟩⟩
      exact (List.getElem?_eq_some_iff.mp e).1
  have st : StOk X.K bs (c.hide a) σ H (E.set i .no) := {
    len := by rw [List.length_set]; exact ok.len
    tabs := ok.tabs
    frame := ok.frame
    hidP := fun b z => by
      rcases z with z | z
      · exact ok.hidP b z
      · rw [z]
        exact ⟨_, e2, nt_lst⟩
    disj := fun j b m2 z => by
      obtain ⟨m3, ne⟩ := mm j b m2
      rcases z with z | z
      · exact ok.disj j b m3 z
      · rw [z] at m3
        exact ne (ok.dist _ _ a m3 m)
    slot := fun j t h1 => by
      rw [set_get] at h1
      rw [hv]
      split at h1
      · rename_i hj
        cases h1
        rw [← hj.1]
        exact ⟨_, e1, trivial⟩
      · obtain ⟨w, g1, g2⟩ := ok.slot j t h1
        refine ⟨w, g1, ?_⟩
        cases t with
        | no => trivial
        | dat d => exact g2
        | ml d => exact g2
        | md d => exact g2
    dist := fun j k b m2 m3 => ok.dist j k b (mm j b m2).1 (mm k b m3).1
    bor := fun j hj => by
      obtain ⟨t, h1, h2, h3⟩ := ok.bor j hj
      exact ⟨t, by rw [List.getElem?_set_ne (fun (z : i = j) => hi (z ▸ hj))]; exact h1, h2, h3⟩ }
  refine ⟨.ref a, e1, f ds _ (.ref a) H a vs ⟨rfl, e2, new, st, by rw [hv]; exact e3⟩ (ok.disj i a m) (.env (by rw [hv]; exact Same.refl _)) q⟩

/-! ### assignments to a name -/
def dSet (bs : List Nat) (i : Nat) (te : TD) : TSd := fun DD E => te E fun av E1 => ∃ d E2, force bs E1 av = some (d, E2) ∧ DD.nx (E2.set i (.dat d))
theorem ds_set {i : Nat} (h : PS X st (tAsg (lift X.K bs te) (gName i))) (hi : bs.contains i = false := by rfl) : PS X st (LS X.K bs (dSet bs i te)) := h.imp fun D σ H ⟨c, E, DD, ok, q, g⟩ =>
  ⟨c, E, _, ok, q, fun av E1 v H1 ok1 s1 a1 ⟨d, E2, fo, z⟩ => by
    have hi' : i ∉ bs := fun z => by
      have : bs.contains i = true := by simpa using z
      rw [hi] at this
      cases this
    obtain ⟨f1, f2, f3⟩ := force_ok ok1 a1 fo
    exact g.nx _ H1 _ (f1.set_dat hi' f3) ((s1.trans f2).s.trans (vis_set f1.len rfl)) z⟩
theorem mat_own {σ : St} {E : DEnv} {i j : Nat} {a b : Addr} {s : Sl} (hs : s.isM = true) (hl : σ.length = E.length) (m : MAt (σ.set i (some (.ref a))) (E.set i s) j b) : (j = i ∧ b = a) ∨ (j ≠ i ∧ MAt σ E j b) ∨ (E.length ≤ j) := by
  by_cases hj : j = i
  · subst hj
    obtain ⟨t, h1, h2, h3⟩ := m
    by_cases hi : j < E.length
    · rw [List.getElem?_set_self (by rw [hl]; exact hi)] at h3
      cases h3
      exact .inl ⟨rfl, rfl⟩
    · exact .inr (.inr (by omega))
  · exact .inr (.inl ⟨hj, (mat_set_ne hj).mp m⟩)
theorem OwnL.set {K : PySem.W.Frag} {bs : List Nat} {c : Ct} {σ : St} {H : Hp} {E : DEnv} {v : V} {ds : List D} {a : Addr} {vs : List V} {i : Nat} (o : OwnL K bs c σ H E v ds a vs) (n : ¬ c.P a) (hi : i ∉ bs) (hl : i < E.length) :
    StOk K bs c (σ.set i (some v)) H (E.set i (.ml ds)) ∧ Same (vis (c.hide a) σ E H) (vis c (σ.set i (some v)) (E.set i (.ml ds)) H) := by
  obtain ⟨rfl, at_, new, st, its⟩ := o
  have far : ∀ {j b}, MAt (σ.set i (some (.ref a))) (E.set i (.ml ds)) j b → (j = i ∧ b = a) ∨ (j ≠ i ∧ MAt σ E j b) := fun {j b} m => by
    rcases mat_own rfl st.len m with z | z | z
    · exact .inl z
    · exact .inr z
    · obtain ⟨t, h1, _, _⟩ := m
      have := (List.getElem?_eq_some_iff.mp h1).1
      rw [List.length_set] at this
      omega
  have sm : Same (vis (c.hide a) σ E H) (vis c (σ.set i (some (.ref a))) (E.set i (.ml ds)) H) := vis_same (fun b z nz => by
    rcases z with z | ⟨j, z⟩
    · exact absurd (hid_hide.mpr (.inl (.inl z))) nz
    · rcases far z with ⟨_, e⟩ | ⟨_, z⟩
      · exact absurd (hid_hide.mpr (.inr e)) nz
      · exact absurd (hid_hide.mpr (.inl (.inr ⟨j, z⟩))) nz) fun b o _ q => q
  refine ⟨{
    len := by rw [List.length_set, List.length_set, st.len]
    tabs := st.tabs
    frame := st.frame
    hidP := fun b z => st.hidP b (.inl z)
    disj := fun j b m z => by
      rcases far m with ⟨_, e⟩ | ⟨_, m⟩
      · exact n (e ▸ z)
      · exact st.disj j b m (.inl z)
    slot := fun j t e => by
      rw [set_get] at e
      by_cases hj : i = j ∧ i < E.length
      · rw [if_pos hj] at e
        cases e
        rw [set_get, if_pos ⟨hj.1, by rw [st.len]; exact hj.2⟩]
        exact ⟨_, rfl, a, vs, rfl, at_, its.mono sm, .inr new⟩
      · rw [if_neg hj] at e
        rw [set_get, if_neg (fun z => hj ⟨z.1, by rw [← st.len]; exact z.2⟩)]
        obtain ⟨w, e1, e2⟩ := st.slot j t e
        refine ⟨w, e1, ?_⟩
        have z := e2.mono sm (H' := H) fun _ _ _ _ _ q => q
        cases t with
        | no => trivial
        | dat d => exact z
        | ml d => exact z
        | md d => exact z
    dist := fun j k b m1 m2 => by
      rcases far m1 with ⟨e1, e2⟩ | ⟨e1, m1⟩
      · rcases far m2 with ⟨e3, _⟩ | ⟨_, m2⟩
        · rw [e1, e3]
        · rw [e2] at m2
          exact absurd (.inr rfl) (st.disj k a m2)
      · rcases far m2 with ⟨e3, e4⟩ | ⟨_, m2⟩
        · rw [e4] at m1
          exact absurd (.inr rfl) (st.disj j a m1)
        · exact st.dist j k b m1 m2
    bor := fun j hj => (mat_set_ne (fun (z : j = i) => hi (z ▸ hj))).mpr (st.bor j hj) }, sm⟩
/-- a name takes a new own list -/
def dSetO (i : Nat) (t : TDO) : TSd := fun DD E => t E fun ds E1 => i < E1.length ∧ DD.nx (E1.set i (.ml ds))
theorem ds_setO {i : Nat} {t : TDO} (h : PS X st (tAsg (liftO X.K bs t) (gName i))) (hi : bs.contains i = false := by rfl) : PS X st (LS X.K bs (dSetO i t)) := h.imp fun D σ H ⟨c, E, DD, ok, q, g⟩ =>
  ⟨c, E, _, ok, q, fun ds E1 v H1 a vs o n s1 ⟨hl, z⟩ => by
    have hi' : i ∉ bs := fun z => by
      have : bs.contains i = true := by simpa using z
      rw [hi] at this
      cases this
    obtain ⟨g1, g2⟩ := o.set n hi' hl
    exact g.nx _ H1 _ g1 (s1.s.trans g2) z⟩

/-! ### targets -/
def liftG (K : PySem.W.Frag) (bs : List Nat) (own : List Nat) (g : TDG) : TG := fun v σ H Q0 => ∃ (c : Ct) (E : DEnv) (d : D) (Q : DEnv → Prop), StOk K bs c σ H E ∧ Dat K (vis c σ E H) v d ∧ g d E Q ∧
  ∀ σ' E', StOk K bs c σ' H E' → Same (vis c σ E H) (vis c σ' E' H) → σ'.length = σ.length → (∀ j, j ∉ own → σ'[j]? = σ[j]? ∧ E'[j]? = E[j]?) → Q E' → Q0 σ' H
theorem _root_.L2.PG.imp {X : Cx} {e : Expr} {t u : TG} (h : PG X e t) (w : ∀ v σ H Q, u v σ H Q → t v σ H Q) : PG X e u := ⟨fun pins s σ H v x Q I r q => h.run pins s σ H v x Q I r (w v σ H Q q)⟩
def dgName (i : Nat) : TDG := fun d E Q => Q (E.set i (.dat d))
theorem dg_name {i : Nat} {own : List Nat} {x : Str} (h : PG X (.Name x pos) (gName i)) (ho : own.contains i = true := by rfl) (hi : bs.contains i = false := by rfl) : PG X (.Name x pos) (liftG X.K bs own (dgName i)) := h.imp fun v σ H Q0 ⟨c, E, d, Q, ok, dv, q, f⟩ => by
  have hi' : i ∉ bs := fun z => by
    have : bs.contains i = true := by simpa using z
    rw [hi] at this
    cases this
  refine f _ _ (ok.set_dat hi' dv) (vis_set ok.len rfl) List.length_set (fun j hj => ?_) q
  have ne : i ≠ j := fun z => hj (by rw [← z]; simpa using ho)
  exact ⟨List.getElem?_set_ne ne, List.getElem?_set_ne ne⟩
abbrev TDGs := List D → DEnv → (DEnv → Prop) → Prop
def liftGs (K : PySem.W.Frag) (bs : List Nat) (own : List Nat) (g : TDGs) : TGs := fun vs σ H Q0 => ∃ (c : Ct) (E : DEnv) (ds : List D) (Q : DEnv → Prop), StOk K bs c σ H E ∧ Dats K (vis c σ E H) vs ds ∧ g ds E Q ∧
  ∀ σ' E', StOk K bs c σ' H E' → Same (vis c σ E H) (vis c σ' E' H) → σ'.length = σ.length → (∀ j, j ∉ own → σ'[j]? = σ[j]? ∧ E'[j]? = E[j]?) → Q E' → Q0 σ' H
theorem _root_.L2.PGs.imp {X : Cx} {e : List Expr} {t u : TGs} (h : PGs X e t) (w : ∀ v σ H Q, u v σ H Q → t v σ H Q) : PGs X e u := ⟨fun pins s σ H v x Q I r q => h.run pins s σ H v x Q I r (w v σ H Q q)⟩
def dgNil : TDGs := fun ds E Q => ds = [] ∧ Q E
def dgCons (g : TDG) (u : TDGs) : TDGs := fun ds E Q => ∃ d r, ds = d :: r ∧ g d E fun E1 => u r E1 Q
variable {own : List Nat} {g : TDG} {gs : TDGs} {es : List Expr}
theorem dgs_nil : PGs X [] (liftGs X.K bs own dgNil) := pgs_nil.imp fun vs σ H Q0 ⟨c, E, ds, Q, ok, dv, ⟨e, q⟩, f⟩ => by
  subst e
  cases dv
  exact ⟨rfl, f σ E ok (Same.refl _) rfl (fun _ _ => ⟨rfl, rfl⟩) q⟩
theorem dgs_cons (h1 : PG X e (liftG X.K bs own g)) (h2 : PGs X es (liftGs X.K bs own gs)) (hs : (assignEach (e :: es) X.env).map (·.2) = assign e X.env :: (assignEach es X.env).map (·.2) := by rfl) : PGs X (e :: es) (liftGs X.K bs own (dgCons g gs)) :=
  (pgs_cons h1 h2 hs).imp fun vs σ H Q0 ⟨c, E, ds, Q, ok, dv, ⟨d, r, e, q⟩, f⟩ => by
    subst e
    cases dv with
    | cons d1 d2 =>
      refine ⟨_, _, rfl, c, E, d, _, ok, d1, q, fun σ1 E1 ok1 s1 l1 k1 q1 => ⟨c, E1, r, Q, ok1, d2.mono s1, q1, fun σ2 E2 ok2 s2 l2 k2 q2 => f σ2 E2 ok2 (s1.trans s2) (l2.trans l1) (fun j hj => ?_) q2⟩⟩
      exact ⟨(k2 j hj).1.trans (k1 j hj).1, (k2 j hj).2.trans (k1 j hj).2⟩
def dgTup (n : Nat) (gs : TDGs) : TDG := fun d E Q => ∃ ds, d = .tup ds ∧ ds.length = n ∧ gs ds E Q
theorem Dats.length {K : PySem.W.Frag} {G : Hp} : ∀ {vs : List V} {ds : List D}, Dats K G vs ds → vs.length = ds.length
  | _, _, .nil => rfl
  | _, _, .cons _ q => congrArg (· + 1) (Dats.length q)
theorem dg_tup {kk n : Nat} (hc : X.calm = true) (h : PGs X es (liftGs X.K bs own gs)) (hn : (assignEach es X.env).length = n := by rfl) (hst : (assignEach es X.env).findIdx? (·.1) = none := by rfl) : PG X (.Tuple es kk pos) (liftG X.K bs own (dgTup n gs)) :=
  (pg_tup hc h hn hst).imp fun v σ H Q0 ⟨c, E, d, Q, ok, dv, ⟨ds, e, l, q⟩, f⟩ => by
    subst e
    cases dv with
    | tup h1 h2 => exact ⟨_, _, rfl, SqT.of ((vis_le _ _ h1).k nt_tup), by rw [h2.length]; exact l, c, E, ds, Q, ok, h2, q, f⟩
end
end DL
set_option Elab.async false
set_option linter.all false
set_option autoImplicit false
set_option maxRecDepth 100000
/-! DL5: what is walked, for, while, list comprehensions. -/
namespace DL
open PySem PySem.Spec L2
open PyProof.Rows hiding St

/-- the walk J gives just these data, as long as G stands -/
def ItOk (K : PySem.W.Frag) (G : Hp) (J : It) (ds : List D) : Prop := ∀ (bs : List Nat) (c : Ct) (σ : St) (E : DEnv) (H : Hp), StOk K bs c σ H E → Same G (vis c σ E H) → ∀ k : Nat,
  (∀ d, ds[k]? = some d → J.go k H ∧ ∀ x H', J.yld k H x H' → L2.Same H H' ∧ Dat K (vis c σ E H') x d) ∧ (k = ds.length → J.stop k H)
abbrev TDI := DEnv → (List D → DEnv → Prop) → Prop
def liftI (K : PySem.W.Frag) (bs : List Nat) (t : TDI) : TI := fun σ H R => ∃ (c : Ct) (E : DEnv) (Q : List D → DEnv → Prop), StOk K bs c σ H E ∧ t E Q ∧
  ∀ ds E1 J H1, StOk K bs c σ H1 E1 → Step c c σ E H E1 H1 → ItOk K (vis c σ E1 H1) J ds → Q ds E1 → R J H1
theorem _root_.L2.PI.imp {X : Cx} {tg e : Expr} {t u : TI} (h : PI X tg e t) (w : ∀ σ H Q, u σ H Q → t σ H Q) : PI X tg e u := ⟨fun pins s σ H Q I q => h.run pins s σ H Q I (w σ H Q q)⟩
theorem Dats.get {K : PySem.W.Frag} {G : Hp} : ∀ {vs : List V} {ds : List D} {k : Nat} {d : D}, Dats K G vs ds → ds[k]? = some d → ∃ v, vs[k]? = some v ∧ Dat K G v d
  | _, _, k, _, .nil, e => by simp at e
  | _, _, 0, _, .cons h q, e => by
    cases e
    exact ⟨_, rfl, h⟩
  | _, _, k + 1, d, .cons h q, e => Dats.get (k := k) q e
theorem Dats.ints {K : PySem.W.Frag} {G : Hp} : ∀ ns : List Int, Dats K G (ns.map V.int) (ns.map D.int)
  | [] => .nil
  | n :: r => .cons (.int n) (Dats.ints r)
theorem Dats.of_ints {K : PySem.W.Frag} {G : Hp} : ∀ {ns : List Int} {vs : List V}, Dats K G vs (ns.map D.int) → vs = ns.map V.int
  | [], _, .nil => rfl
  | n :: r, _, .cons h q => by
    cases h
    rw [Dats.of_ints q]
    rfl
theorem Dats.append {K : PySem.W.Frag} {G : Hp} : ∀ {vs ws : List V} {ds es : List D}, Dats K G vs ds → Dats K G ws es → Dats K G (vs ++ ws) (ds ++ es)
  | _, _, _, _, .nil, q => q
  | _, _, _, _, .cons h r, q => .cons h (Dats.append r q)
theorem Dats.drop {K : PySem.W.Frag} {G : Hp} : ∀ {vs : List V} {ds : List D} (n : Nat), Dats K G vs ds → Dats K G (vs.drop n) (ds.drop n)
  | _, _, 0, q => q
  | _, _, n + 1, .nil => .nil
  | _, _, n + 1, .cons h r => Dats.drop n r
theorem Dats.take {K : PySem.W.Frag} {G : Hp} : ∀ {vs : List V} {ds : List D} (n : Nat), Dats K G vs ds → Dats K G (vs.take n) (ds.take n)
  | _, _, 0, q => .nil
  | _, _, n + 1, .nil => .nil
  | _, _, n + 1, .cons h r => .cons h (Dats.take n r)
theorem Dats.set {K : PySem.W.Frag} {G : Hp} {v : V} {d : D} (hd : Dat K G v d) : ∀ {vs : List V} {ds : List D} (n : Nat), Dats K G vs ds → Dats K G (vs.set n v) (ds.set n d)
  | _, _, _, .nil => .nil
  | _, _, 0, .cons h r => .cons hd r
  | _, _, n + 1, .cons h r => .cons h (Dats.set hd n r)
theorem Dats.rev {K : PySem.W.Frag} {G : Hp} : ∀ {vs : List V} {ds : List D}, Dats K G vs ds → Dats K G vs.reverse ds.reverse
  | _, _, .nil => .nil
  | _, _, .cons h r => by
    rw [List.reverse_cons, List.reverse_cons]
    exact (Dats.rev r).append (.cons h .nil)
/-- the items of data that a for walks as a list -/
def itemsOf : D → Option (List D)
  | .lst ds => some ds
  | .scr ns => some (ns.map D.int)
  | _ => none
theorem items_ok {K : PySem.W.Frag} {G : Hp} {v : V} {d : D} {ds : List D} (h : Dat K G v d) (e : itemsOf d = some ds) : ∃ a vs, v = .ref a ∧ SqL K G a vs ∧ Dats K G vs ds := by
  cases h with
  | lst h q =>
    cases e
    exact ⟨_, _, rfl, SqL.of h, q⟩
  | scr h =>
    cases e
    exact ⟨_, _, rfl, h, Dats.ints _⟩
  | _ => cases e
section
variable {X : Cx} {bs : List Nat} {e a b tg iter : Expr} {te ta tb : TD} {pos p : Pos} {t : TDL}
theorem it_list {K : PySem.W.Frag} {G : Hp} {a : Addr} {vs : List V} {ds : List D} (h : SqL K G a vs) (q : Dats K G vs ds) : ItOk K G (Itl K a) ds := fun bs c σ E H ok s k => by
  have g : SqL K H a vs := (s.trans vis_le).seq h
  refine ⟨fun d e => ?_, fun e => ⟨vs, g, by rw [q.length, e]; exact Nat.le_refl _⟩⟩
  obtain ⟨v, e1, e2⟩ := q.get e
  refine ⟨⟨vs, v, g, e1⟩, fun x H' ⟨y1, y2⟩ => ?_⟩
  subst y1
  have z := y2 vs g
  rw [e1] at z
  cases z
  exact ⟨L2.Same.refl _, e2.mono s⟩
def diList (bs : List Nat) (te : TD) : TDI := fun E Q => te E fun av E1 => ∃ d E2, force bs E1 av = some (d, E2) ∧ ∃ ds, itemsOf d = some ds ∧ Q ds E2
theorem di_list (h : PE X e (lift X.K bs te)) : PI X tg e (liftI X.K bs (diList bs te)) := (pi_list h).imp fun σ H R ⟨c, E, Q, ok, q, f⟩ =>
  ⟨c, E, _, ok, q, fun av E1 v H1 ok1 s1 a1 ⟨d, E2, fo, ds, it, z⟩ => by
    obtain ⟨f1, f2, f3⟩ := force_ok ok1 a1 fo
    obtain ⟨a, vs, e1, e2, e3⟩ := items_ok f3 it
    exact ⟨a, e1, ⟨vs, vis_le.seq e2⟩, f ds E2 _ H1 f1 (s1.trans f2) (it_list e2 e3) z⟩⟩
def diTup (bs : List Nat) (te : TD) : TDI := fun E Q => te E fun av E1 => ∃ ds E2, force bs E1 av = some (.tup ds, E2) ∧ Q ds E2
theorem di_tup (h : PE X e (lift X.K bs te)) : PI X tg e (liftI X.K bs (diTup bs te)) := (pi_tup h).imp fun σ H R ⟨c, E, Q, ok, q, f⟩ =>
  ⟨c, E, _, ok, q, fun av E1 v H1 ok1 s1 a1 ⟨ds, E2, fo, z⟩ => by
    obtain ⟨f1, f2, f3⟩ := force_ok ok1 a1 fo
    cases f3 with
    | tup h1 h2 =>
      refine ⟨_, rfl, ⟨_, SqT.of ((vis_le _ _ h1).k nt_tup)⟩, f ds E2 _ H1 f1 (s1.trans f2) (fun bs' c' σ' E' H' ok' s k => ?_) z⟩
      have g := SqT.of (K := X.K) ((vis_le _ _ ((s _ _ h1).k nt_tup)).k nt_tup)
      refine ⟨fun d e => ?_, fun e => ⟨_, g, by rw [h2.length, e]; exact Nat.le_refl _⟩⟩
      obtain ⟨v, e1, e2⟩ := h2.get e
      refine ⟨⟨_, v, g, e1⟩, fun x H' ⟨y1, y2⟩ => ?_⟩
      subst y1
      have y := y2 _ g
      rw [e1] at y
      cases y
      exact ⟨L2.Same.refl _, e2.mono s⟩⟩
def rangeD (lo : Int) (n : Nat) : List D := (List.range n).map fun i => D.int (lo + (i : Nat))
theorem range_get {lo : Int} {n k : Nat} {d : D} (h : (rangeD lo n)[k]? = some d) : k < n ∧ d = .int (lo + (k : Nat)) := by
  unfold rangeD at h
  rw [List.getElem?_map] at h
  by_cases hk : k < n
  · rw [List.getElem?_range hk] at h
    cases h
    exact ⟨hk, rfl⟩
  · rw [List.getElem?_eq_none (by simpa using hk)] at h
    cases h
theorem it_range {K : PySem.W.Frag} {G : Hp} {lo : Int} {n : Nat} : ItOk K G (Itr lo n) (rangeD lo n) := fun bs c σ E H ok s k => by
  refine ⟨fun d e => ?_, fun e => ?_⟩
  · obtain ⟨h1, h2⟩ := range_get e
    refine ⟨h1, fun x H' ⟨y1, y2⟩ => ?_⟩
    subst y1 y2 h2
    exact ⟨L2.Same.refl _, .int _⟩
  · show n ≤ k
    rw [e]
    unfold rangeD
    rw [List.length_map, List.length_range]
    exact Nat.le_refl _
def diRange1 (t : TDL) : TDI := fun E Q => t E fun avs E1 => ∃ j : Int, looks E1 avs = some [.int j] ∧ -(2 ^ 62) ≤ j ∧ j < 2 ^ 62 ∧ Q (rangeD 0 j.toNat) E1
def diRange2 (t : TDL) : TDI := fun E Q => t E fun avs E1 => ∃ i j : Int, looks E1 avs = some [.int i, .int j] ∧ (-(2 ^ 62) ≤ i ∧ i < 2 ^ 62 ∧ -(2 ^ 62) ≤ j ∧ j < 2 ^ 62) ∧ Q (rangeD i (j - i).toNat) E1
theorem shals1 {K : PySem.W.Frag} {G H : Hp} {vs : List V} {i : Int} (h : Shals K G H vs [.int i]) : vs = [.int i] := by
  cases h with
  | cons h q =>
    cases q
    rw [shal_int h]
theorem shals2 {K : PySem.W.Frag} {G H : Hp} {vs : List V} {i j : Int} (h : Shals K G H vs [.int i, .int j]) : vs = [.int i, .int j] := by
  cases h with
  | cons h q =>
    cases q with
    | cons h2 q =>
      cases q
      rw [shal_int h, shal_int h2]
theorem di_range1 (hg : Gl X "range") (hm : X.mg "range" = none) (ha : PA X [a] (liftL X.K bs t)) (hs : starEach [a] X.env = [(false, eval a X.env)] := by rfl) : PI X tg (.Call (.Name "range" p) [a] [] pos) (liftI X.K bs (diRange1 t)) :=
  (pi_range1 hg hm ha hs).imp fun σ H R ⟨c, E, Q, ok, q, f⟩ => ⟨c, E, _, ok, q, fun avs E1 vs H1 ok1 s1 a1 ⟨j, l, h1, h2, z⟩ =>
    ⟨j, shals1 (looks_ok ok1 a1 l), h1, h2, f _ E1 _ H1 ok1 s1 it_range z⟩⟩
theorem di_range2 (hg : Gl X "range") (hm : X.mg "range" = none) (ha : PA X [a, b] (liftL X.K bs t)) (hs : starEach [a, b] X.env = [(false, eval a X.env), (false, eval b X.env)] := by rfl) (hs2 : starEach [b] X.env = [(false, eval b X.env)] := by rfl) : PI X tg (.Call (.Name "range" p) [a, b] [] pos) (liftI X.K bs (diRange2 t)) :=
  (pi_range2 hg hm ha hs hs2).imp fun σ H R ⟨c, E, Q, ok, q, f⟩ => ⟨c, E, _, ok, q, fun avs E1 vs H1 ok1 s1 a1 ⟨i, j, l, h1, z⟩ =>
    ⟨i, j, shals2 (looks_ok ok1 a1 l), h1, f _ E1 _ H1 ok1 s1 it_range z⟩⟩
/-- the signs of a text -/
def signsD (x : Str) : List D := x.cps.toList.map fun n => D.str ⟨#[n]⟩
def diStr (te : TD) : TDI := fun E Q => te E fun av E1 => ∃ x, look E1 av = some (.str x) ∧ Q (signsD x) E1
theorem di_str (h : PE X e (lift X.K bs te)) : PI X tg e (liftI X.K bs (diStr te)) := (pi_str h).imp fun σ H R ⟨c, E, Q, ok, q, f⟩ =>
  ⟨c, E, _, ok, q, fun av E1 v H1 ok1 s1 a1 ⟨x, l, z⟩ => ⟨x, shal_str (look_ok ok1 a1 l), f _ E1 _ H1 ok1 s1 (fun bs' c' σ' E' H' ok' s k => by
    refine ⟨fun d e => ?_, fun e => ?_⟩
    · unfold signsD at e
      rw [List.getElem?_map, Array.getElem?_toList] at e
      cases hq : x.cps[k]? with
      | none =>
        rw [hq] at e
        cases e
      | some n =>
        rw [hq] at e
        cases e
        refine ⟨(Array.getElem?_eq_some_iff.mp hq).1, fun y H'' ⟨y1, n', y2, y3⟩ => ?_⟩
        subst y1
        rw [hq] at y2
        cases y2
        subst y3
        exact ⟨L2.Same.refl _, .str _⟩
    · show x.cps.size ≤ k
      rw [e]
      unfold signsD
      rw [List.length_map, Array.length_toList]
      exact Nat.le_refl _) z⟩⟩
def enumD (n : Nat) : List D → List D
  | [] => []
  | d :: r => .tup [.int (n : Nat), d] :: enumD (n + 1) r
theorem enumD_get : ∀ {ds : List D} {n k : Nat} {d : D}, (enumD n ds)[k]? = some d → ∃ e, ds[k]? = some e ∧ d = .tup [.int ((n + k : Nat) : Int), e]
  | [], n, k, d, h => by simp [enumD] at h
  | e :: r, n, 0, d, h => by
    cases h
    exact ⟨e, rfl, rfl⟩
  | e :: r, n, k + 1, d, h => by
    obtain ⟨e', h1, h2⟩ := enumD_get (ds := r) (n := n + 1) (k := k) h
    refine ⟨e', h1, ?_⟩
    rw [h2, show n + 1 + k = n + (k + 1) by omega]
theorem enumD_length : ∀ {ds : List D} {n : Nat}, (enumD n ds).length = ds.length
  | [], n => rfl
  | e :: r, n => congrArg (· + 1) (enumD_length (ds := r) (n := n + 1))
def diEnum (bs : List Nat) (te : TD) : TDI := fun E Q => te E fun av E1 => ∃ d E2, force bs E1 av = some (d, E2) ∧ ∃ ds, itemsOf d = some ds ∧ Q (enumD 0 ds) E2
theorem tup_new {K : PySem.W.Frag} {bs : List Nat} {c : Ct} {σ : St} {E : DEnv} {H : Hp} {T : Addr} {vs : List V} {ds : List D} (ok : StOk K bs c σ H E) (n : H T = none) (q : Dats K (vis c σ E H) vs ds) : Dat K (vis c σ E (upd H T (.tup vs))) (.ref T) (.tup ds) :=
  .tup (vis_new ok n) (q.mono (vis_grow (same_upd n)))
variable {elts : List Expr} {kk : Nat} {tpos : Pos}
theorem di_enum (hg : Gl X "enumerate") (hm : X.mg "enumerate" = none) (ha : PE X e (lift X.K bs te)) (hse : starEach (e :: []) X.env = (false, eval e X.env) :: starEach [] X.env := by rfl) (hs : starEach [e] X.env = [(false, eval e X.env)] := by rfl) :
    PI X (.Tuple elts kk tpos) (.Call (.Name "enumerate" p) [e] [] pos) (liftI X.K bs (diEnum bs te)) :=
  (pi_enum hg hm (pa_cons ha pa_nil hse) hs).imp fun σ H R ⟨c, E, Q, ok, q, f⟩ => ⟨c, E, _, ok, q, fun av E1 v H1 ok1 s1 a1 ⟨d, E2, fo, ds, it, z⟩ => by
    obtain ⟨f1, f2, f3⟩ := force_ok ok1 a1 fo
    obtain ⟨a, vs, e1, e2, e3⟩ := items_ok f3 it
    refine ⟨a, vs, by rw [e1], vis_le.seq e2, f _ E2 _ H1 f1 (s1.trans f2) (fun bs' c' σ' E' H' ok' s k => ?_) z⟩
    have g : SqL X.K H' a vs := (s.trans vis_le).seq e2
    refine ⟨fun d e => ?_, fun e => ⟨vs, g, by rw [e3.length, e, enumD_length]; exact Nat.le_refl _⟩⟩
    obtain ⟨y, y1, y2⟩ := enumD_get e
    obtain ⟨w, w1, w2⟩ := e3.get y1
    refine ⟨⟨vs, w, g, w1⟩, fun x H'' ⟨T, u, x1, x2, x3, x4⟩ => ?_⟩
    subst x1 x3 y2
    have x4 := x4 vs g
    rw [w1] at x4
    cases x4
    rw [Nat.zero_add]
    exact ⟨same_upd0 x2, tup_new ok' x2 (.cons (.int _) (.cons (w2.mono s) .nil))⟩⟩
def diZip (bs : List Nat) (t : TDL) : TDI := fun E Q => t E fun avs E1 => ∃ x y d e E2 E3, avs = [x, y] ∧ force bs E1 x = some (d, E2) ∧ force bs E2 y = some (e, E3) ∧ ∃ ds es, itemsOf d = some ds ∧ itemsOf e = some es ∧ Q (List.zipWith (fun u v => D.tup [u, v]) ds es) E3
theorem di_zip {e2 : Expr} (hg : Gl X "zip") (hm : X.mg "zip" = none) (ha : PA X [e, e2] (liftL X.K bs t)) (hs : starEach [e, e2] X.env = (false, eval e X.env) :: starEach [e2] X.env := by rfl) (hpl : (backTo pos (starEach [e2] X.env)).any (·.1) = false := by rfl) :
    PI X (.Tuple elts kk tpos) (.Call (.Name "zip" p) [e, e2] [] pos) (liftI X.K bs (diZip bs t)) :=
  (pi_zip hg hm ha hs hpl).imp fun σ H R ⟨c, E, Q, ok, q, f⟩ => ⟨c, E, _, ok, q, fun avs E1 vs H1 ok1 s1 a1 ⟨x, y, d, e, E2, E3, ea, fo1, fo2, ds, es, i1, i2, z⟩ => by
    subst ea
    cases a1 with
    | cons b1 b2 =>
    cases b2 with
    | cons b2 b3 =>
    cases b3
    obtain ⟨f1, f2, f3⟩ := force_ok ok1 b1 fo1
    obtain ⟨g1, g2, g3⟩ := force_ok f1 (b2.mono f2) fo2
    obtain ⟨a, us, r1, r2, r3⟩ := items_ok (f3.mono g2.s) i1
    obtain ⟨b, ws, r4, r5, r6⟩ := items_ok g3 i2
    refine ⟨a, b, us, ws, by rw [r1, r4], vis_le.seq r2, vis_le.seq r5, f _ E3 _ H1 g1 ((s1.trans f2).trans g2) (fun bs' c' σ' E' H' ok' s k => ?_) z⟩
    have ga : SqL X.K H' a us := (s.trans vis_le).seq r2
    have gb : SqL X.K H' b ws := (s.trans vis_le).seq r5
    refine ⟨fun d e => ?_, fun e => ⟨us, ws, ga, gb, ?_⟩⟩
    · rw [List.getElem?_zipWith] at e
      cases hu : ds[k]? with
      | none =>
        rw [hu] at e
        cases e
      | some u =>
        cases hw : es[k]? with
        | none =>
          rw [hu, hw] at e
          cases e
        | some w =>
          rw [hu, hw] at e
          cases e
          obtain ⟨v1, v2, v3⟩ := r3.get hu
          obtain ⟨w1, w2, w3⟩ := r6.get hw
          refine ⟨⟨us, ws, v1, w1, ga, gb, v2, w2⟩, fun x H'' ⟨T, x0, y0, x1, x2, x3, x4, x5⟩ => ?_⟩
          subst x1 x3
          have x4 := x4 us ga
          have x5 := x5 ws gb
          rw [v2] at x4
          rw [w2] at x5
          cases x4
          cases x5
          exact ⟨same_upd0 x2, tup_new ok' x2 (.cons (v3.mono s) (.cons (w3.mono s) .nil))⟩
    · rw [e, List.length_zipWith, r3.length, r6.length]
      omega⟩
def diRev (bs : List Nat) (te : TD) : TDI := fun E Q => te E fun av E1 => ∃ d E2, force bs E1 av = some (d, E2) ∧ ∃ ds, itemsOf d = some ds ∧ Q ds.reverse E2
theorem di_rev (hg : Gl X "reversed") (hm : X.mg "reversed" = none) (ha : PE X e (lift X.K bs te)) (hse : starEach (e :: []) X.env = (false, eval e X.env) :: starEach [] X.env := by rfl) (hs : starEach [e] X.env = [(false, eval e X.env)] := by rfl) :
    PI X tg (.Call (.Name "reversed" p) [e] [] pos) (liftI X.K bs (diRev bs te)) :=
  (pi_reversed hg hm (pa_cons ha pa_nil hse) hs).imp fun σ H R ⟨c, E, Q, ok, q, f⟩ => ⟨c, E, _, ok, q, fun av E1 v H1 ok1 s1 a1 ⟨d, E2, fo, ds, it, z⟩ => by
    obtain ⟨f1, f2, f3⟩ := force_ok ok1 a1 fo
    obtain ⟨a, vs, e1, e2, e3⟩ := items_ok f3 it
    refine ⟨a, vs, by rw [e1], vis_le.seq e2, f _ E2 _ H1 f1 (s1.trans f2) (fun bs' c' σ' E' H' ok' s k => ?_) z⟩
    have g : SqL X.K H' a vs := (s.trans vis_le).seq e2
    have hl := e3.length
    refine ⟨fun d e => ?_, fun e => ?_⟩
    · have hk : k < ds.length := by
        have := (List.getElem?_eq_some_iff.mp e).1
        rwa [List.length_reverse] at this
      rw [List.getElem?_reverse hk] at e
      obtain ⟨w, w1, w2⟩ := e3.get e
      have w1' : vs[vs.length - 1 - k]? = some w := by rw [hl]; exact w1
      refine ⟨⟨by rw [hl]; exact hk, vs, w, g, w1'⟩, fun x H'' ⟨y1, y2⟩ => ?_⟩
      subst y1
      have y := y2 vs g
      rw [w1'] at y
      cases y
      exact ⟨L2.Same.refl _, w2.mono s⟩
    · show vs.length ≤ k
      rw [e, List.length_reverse, hl]
      exact Nat.le_refl _⟩

/-! ### for -/
variable {g : TDG} {tbd : TSd} {ti : TDI} {own : List Nat} {body : List Stmt}
def dFor (ti : TDI) (g : TDG) (tb : TSd) : TSd := fun DD E => ti E fun ds E1 => ∃ I : Nat → DEnv → Prop, I 0 E1 ∧
  (∀ k d E', ds[k]? = some d → I k E' → g d E' fun E2 => tb { DD with nx := I (k + 1), ct := I (k + 1), bk := DD.nx } E2) ∧ ∀ E', I ds.length E' → DD.nx E'
theorem ds_for (hp : PassesOwn (model X.prog X.w) X.A X.env X.xe) (hc : X.calm = true) (hi : PI X tg iter (liftI X.K bs ti)) (hg : PG X tg (liftG X.K bs own g)) (hb : PSs X body (LS X.K bs tbd))
    (hs : ∀ x, foldedSetIterable iter X.env x = pure x := by intro _; rfl) : PS X (.For tg iter body [] pos) (LS X.K bs (dFor ti g tbd)) := (ps_for hp hc hi hg hb hs).imp fun D σ H ⟨c, E, DD, ok, q, go⟩ => by
  refine ⟨c, E, _, ok, q, fun ds E1 J H1 ok1 s1 it ⟨I, i0, step, fin⟩ => ?_⟩
  refine ⟨fun i m σ' H' => m = ds.length - i ∧ i ≤ ds.length ∧ ∃ E', StOk X.K bs c σ' H' E' ∧ Same (vis c σ E1 H1) (vis c σ' E' H') ∧ I i E', ⟨_, rfl, Nat.zero_le _, E1, ok1, Same.refl _, i0⟩, ?_⟩
  rintro i m σ' H' ⟨rfl, hi, E', ok', s', hI⟩
  obtain ⟨z1, z2⟩ := it bs c σ' E' H' ok' s' i
  by_cases hlt : i < ds.length
  · have e := List.getElem?_eq_getElem hlt
    obtain ⟨g1, g2⟩ := z1 _ e
    refine .inr ⟨g1, fun σ2 H2 => ∃ E2, StOk X.K bs c σ2 H2 E2 ∧ Same (vis c σ E1 H1) (vis c σ2 E2 H2) ∧ I (i + 1) E2, fun σ2 H2 hN => ⟨_, by omega, rfl, hlt, hN⟩, fun x H2 y => ?_⟩
    obtain ⟨y1, y2⟩ := g2 x H2 y
    refine ⟨c, E', _, _, ok'.growF y1, y2, step i _ E' e hI, fun σ2 E2 ok2 s2 _ _ z => ?_⟩
    have sm := (s'.trans (vis_grow (.of y1))).trans s2
    exact ⟨c, E2, _, ok2, z, ⟨fun σ3 H3 E3 ok3 s3 w => ⟨E3, ok3, sm.trans s3, w⟩, (go.nx.from (s1.s.trans sm)), fun σ3 H3 E3 ok3 s3 w => ⟨E3, ok3, sm.trans s3, w⟩, go.rt⟩⟩
  · have e : i = ds.length := by omega
    subst e
    exact .inl ⟨z2 rfl, go.nx _ _ E' ok' (s1.s.trans s') (fin E' hI)⟩
def dWhile (tk : TDB) (tb : TSd) : TSd := fun DD E => ∃ (I : DEnv → Prop) (μ : DEnv → Nat), I E ∧ ∀ E', I E' → tk E' fun b E1 => if b = true then tb { DD with nx := fun E2 => I E2 ∧ μ E2 < μ E', ct := fun E2 => I E2 ∧ μ E2 < μ E', bk := DD.nx } E1 else DD.nx E1
theorem ds_while {k : Expr} {tk : TDB} (hp : PassesOwn (model X.prog X.w) X.A X.env X.xe) (hk : PT X k (liftB X.K bs tk)) (hb : PSs X body (LS X.K bs tbd)) : PS X (.While k body [] pos) (LS X.K bs (dWhile tk tbd)) := (ps_while hp hk hb).imp fun D σ H ⟨c, E, DD, ok, ⟨I, μ, i0, step⟩, go⟩ => by
  refine ⟨fun m σ' H' => ∃ E', m = μ E' ∧ StOk X.K bs c σ' H' E' ∧ Same (vis c σ E H) (vis c σ' E' H') ∧ I E', ⟨_, E, rfl, ok, Same.refl _, i0⟩, ?_⟩
  rintro m σ' H' ⟨E', rfl, ok', s', hI⟩
  refine ⟨c, E', _, ok', step E' hI, fun b E1 H1 ok1 s1 z => ?_⟩
  have sm := s'.trans s1.s
  cases b with
  | true =>
    refine iteT ⟨_, fun σ2 H2 hN => hN, c, E1, _, ok1, it1 z, ⟨fun σ3 H3 E3 ok3 s3 w => ⟨μ E3, w.2, E3, rfl, ok3, sm.trans s3, w.1⟩, go.nx.from sm, fun σ3 H3 E3 ok3 s3 w => ⟨μ E3, w.2, E3, rfl, ok3, sm.trans s3, w.1⟩, go.rt⟩⟩
  | false => exact iteF (go.nx _ _ E1 ok1 sm (it0 z))
end
end DL
set_option Elab.async false
set_option linter.all false
set_option autoImplicit false
set_option maxRecDepth 100000
/-! DL6: list comprehensions. -/
namespace DL
open PySem PySem.Spec L2
open PyProof.Rows hiding St

theorem wipe_get {σ : St} {j : Nat} : ∀ vs : List Nat, (wipe σ vs)[j]? = if j ∈ vs ∧ j < σ.length then some none else σ[j]?
  | [] => by
    rw [if_neg (fun z => by simp at z)]
    rfl
  | v :: vs => by
    show ((wipe σ vs).set v none)[j]? = _
    rw [set_get, wipe_length, wipe_get vs]
    by_cases h1 : v = j ∧ v < σ.length
    · rw [if_pos h1, if_pos ⟨by simp [h1.1], by omega⟩]
    · rw [if_neg h1]
      by_cases h2 : j ∈ vs ∧ j < σ.length
      · rw [if_pos h2, if_pos ⟨List.mem_cons_of_mem _ h2.1, h2.2⟩]
      · rw [if_neg h2, if_neg]
        rintro ⟨z1, z2⟩
        rcases List.mem_cons.mp z1 with z1 | z1
        · exact h1 ⟨z1.symm, by omega⟩
        · exact h2 ⟨z1, z2⟩
def wipeE (E : DEnv) : List Nat → DEnv
  | [] => E
  | v :: vs => (wipeE E vs).set v .no
theorem wipeE_length (E : DEnv) : ∀ vs : List Nat, (wipeE E vs).length = E.length
  | [] => rfl
  | v :: vs => by
    show ((wipeE E vs).set v .no).length = _
    rw [List.length_set, wipeE_length E vs]
theorem wipeE_get {E : DEnv} {j : Nat} : ∀ vs : List Nat, (wipeE E vs)[j]? = if j ∈ vs ∧ j < E.length then some .no else E[j]?
  | [] => by
    rw [if_neg (fun z => by simp at z)]
    rfl
  | v :: vs => by
    show ((wipeE E vs).set v .no)[j]? = _
    rw [set_get, wipeE_length, wipeE_get vs]
    by_cases h1 : v = j ∧ v < E.length
    · rw [if_pos h1, if_pos ⟨by simp [h1.1], by omega⟩]
    · rw [if_neg h1]
      by_cases h2 : j ∈ vs ∧ j < E.length
      · rw [if_pos h2, if_pos ⟨List.mem_cons_of_mem _ h2.1, h2.2⟩]
      · rw [if_neg h2, if_neg]
        rintro ⟨z1, z2⟩
        rcases List.mem_cons.mp z1 with z1 | z1
        · exact h1 ⟨z1.symm, by omega⟩
        · exact h2 ⟨z1, z2⟩
theorem wipe_eq {σ τ : St} {vs : List Nat} (hl : τ.length = σ.length) (h : ∀ j, j ∉ vs → τ[j]? = (wipe σ vs)[j]?) : wipe τ vs = wipe σ vs := by
  refine List.ext_getElem? fun j => ?_
  rw [wipe_get]
  by_cases hj : j ∈ vs
  · by_cases h2 : j < τ.length
    · rw [if_pos ⟨hj, h2⟩, wipe_get, if_pos ⟨hj, by omega⟩]
    · rw [if_neg (fun z => h2 z.2), List.getElem?_eq_none (by omega), List.getElem?_eq_none (by rw [wipe_length]; omega)]
  · rw [if_neg (fun z => hj z.1), h j hj]
section
variable {K : PySem.W.Frag} {bs : List Nat} {c : Ct} {σ σ' : St} {E E' : DEnv} {H H' : Hp} {a b D0 : Addr} {i : Nat} {v : V} {d : D} {ds : List D}
theorem StOk.wipes (h : StOk K bs c σ H E) : ∀ vs : List Nat, (∀ v ∈ vs, v ∉ bs) → StOk K bs c (wipe σ vs) H (wipeE E vs) ∧ Same (vis c σ E H) (vis c (wipe σ vs) (wipeE E vs) H)
  | [], _ => ⟨h, Same.refl _⟩
  | v :: vs, k => by
    obtain ⟨h1, h2⟩ := h.wipes vs fun w hw => k w (List.mem_cons_of_mem _ hw)
    exact ⟨h1.set_no (k v List.mem_cons_self), h2.trans (vis_set h1.len rfl)⟩
/-- a hidden object is changed -/
theorem StOk.updP {vs vs' : List V} (h : StOk K bs c σ H E) (hp : c.P D0) (h0 : c.H0 D0 = none) (hl : H D0 = some (.lst vs')) : StOk K bs c σ (upd H D0 (.lst vs)) E ∧ vis c σ E (upd H D0 (.lst vs)) = vis c σ E H := by
  have hv : vis c σ E (upd H D0 (.lst vs)) = vis c σ E H := by
    funext b
    unfold vis
    by_cases z : Hid c σ E b
    · rw [if_pos z, if_pos z]
    · rw [if_neg z, if_neg z, upd_ne (fun y => z (by rw [y]; exact .inl hp))]
  refine ⟨{
    len := h.len
    tabs := h.tabs.put (.inr ⟨_, hl, nt_lst, code_lst⟩) fun b x ne e => by
      rw [upd_ne ne]
      exact e
    frame := fun b o e n => by
      rw [upd_ne (ne_of_none e h0)]
      exact h.frame b o e n
    hidP := fun b e => by
      by_cases z : b = D0
      · rw [z, upd_same]
        exact ⟨_, rfl, nt_lst⟩
      · rw [upd_ne z]
        exact h.hidP b e
    disj := h.disj
    slot := fun i s e => by
      obtain ⟨w, e1, e2⟩ := h.slot i s e
      refine ⟨w, e1, ?_⟩
      rw [hv]
      refine e2.mono (Same.refl _) fun a o ew hs _ q => ?_
      have m : MAt σ E i a := ⟨s, e, hs, by rw [e1, ew]⟩
      rw [upd_ne (fun z => h.disj i a m (by rw [z]; exact hp))]
      exact q
    dist := h.dist
    bor := h.bor }, hv⟩
theorem StOk.fresh0 (h : StOk K bs c σ H E) (n : H a = none) : c.H0 a = none := by
  cases e : c.H0 a with
  | none => rfl
  | some o =>
    by_cases hb : Bo bs c a
    · obtain ⟨i, hi, ea⟩ := hb
      obtain ⟨o', e', _⟩ := h.mat (h.bor i hi)
      rw [ea, n] at e'
      cases e'
    · obtain ⟨o', z⟩ := (h.frame a o e hb).ex
      rw [n] at z
      cases z
/-- a new object, hidden for the moment -/
theorem StOk.lay {o : HO} (h : StOk K bs c σ H E) (n : H a = none) (no : NT o := by exact fun _ z => by cases z) : StOk K bs (c.hide a) σ (upd H a o) E ∧ Same (vis c σ E H) (vis (c.hide a) σ E (upd H a o)) := by
  have sm : Same (vis c σ E H) (vis (c.hide a) σ E (upd H a o)) := fun b x q => by
    obtain ⟨q1, q2⟩ := vis_at.mp q
    have ne := ne_of_none q2 n
    refine .of (vis_at.mpr ⟨fun z => ?_, by rw [upd_ne ne]; exact q2⟩)
    rcases hid_hide.mp z with z | z
    · exact q1 z
    · exact ne z
  have s := same_upd (o := o) n
  refine ⟨{
    len := h.len
    tabs := h.tabs.new n
    frame := fun b x e nb => (h.frame b x e nb).trans (s b)
    hidP := fun b e => by
      rcases e with e | e
      · obtain ⟨x, q, n⟩ := h.hidP b e
        exact ⟨x, (s _ _ q).k n, n⟩
      · rw [e]
        exact ⟨_, upd_same, no⟩
    disj := fun i b m z => by
      rcases z with z | z
      · exact h.disj i b m z
      · obtain ⟨x, q, _⟩ := h.mat m
        rw [z, n] at q
        cases q
    slot := fun i t e => by
      obtain ⟨w, e1, e2⟩ := h.slot i t e
      refine ⟨w, e1, ?_⟩
      have z := e2.mono sm (H' := upd H a o) fun _ _ _ _ n q => (s _ _ q).k n
      cases t with
      | no => trivial
      | dat d => exact z
      | ml d => exact z
      | md d => exact z
    dist := h.dist
    bor := h.bor }, sm⟩
theorem mk_own {vs : List V} (h : StOk K bs c σ H E) (n : H a = none) (q : Dats K (vis c σ E H) vs ds) : OwnL K bs c σ (upd H a (.lst vs)) E (.ref a) ds a vs ∧ ¬ c.P a ∧ Same (vis c σ E H) (vis (c.hide a) σ E (upd H a (.lst vs))) := by
  obtain ⟨h1, h2⟩ := h.lay (o := .lst vs) n
  refine ⟨⟨rfl, upd_same, h.fresh0 n, h1, q.mono h2⟩, fun z => ?_, h2⟩
  obtain ⟨o, e, _⟩ := h.hidP a z
  rw [n] at e
  cases e
/-- the wiped slots as they were: nothing is known of them -/
theorem StOk.unwipe {vs : List Nat} (h : StOk K bs c (wipe σ vs) H E) (hn : ∀ j s, j ∈ vs → E[j]? = some s → s = .no) : StOk K bs c σ H E ∧ vis c σ E H = vis c (wipe σ vs) E H := by
  have hl : σ.length = E.length := by rw [← h.len, wipe_length]
  have out : ∀ {j}, j ∉ vs → (wipe σ vs)[j]? = σ[j]? := fun {j} hj => by rw [wipe_get, if_neg (fun z => hj z.1)]
  have mm : ∀ j b, MAt σ E j b ↔ MAt (wipe σ vs) E j b := fun j b => by
    unfold MAt
    by_cases hj : j ∈ vs
    · constructor
      · rintro ⟨s, h1, h2, _⟩
        rw [hn j s hj h1] at h2
        cases h2
      · rintro ⟨s, h1, h2, _⟩
        rw [hn j s hj h1] at h2
        cases h2
    · rw [out hj]
  have hv : vis c σ E H = vis c (wipe σ vs) E H := by
    funext b
    unfold vis
    have : Hid c σ E b ↔ Hid c (wipe σ vs) E b := by
      unfold Hid
      constructor
      · rintro (z | ⟨j, z⟩)
        · exact .inl z
        · exact .inr ⟨j, (mm j b).mp z⟩
      · rintro (z | ⟨j, z⟩)
        · exact .inl z
        · exact .inr ⟨j, (mm j b).mpr z⟩
    by_cases z : Hid c σ E b
    · rw [if_pos z, if_pos (this.mp z)]
    · rw [if_neg z, if_neg (fun y => z (this.mpr y))]
  refine ⟨{
    len := hl
    tabs := h.tabs
    frame := h.frame
    hidP := h.hidP
    disj := fun i a m => h.disj i a ((mm i a).mp m)
    slot := fun j s e => by
      rw [hv]
      by_cases hj : j ∈ vs
      · have := hn j s hj e
        subst this
        have hlt : j < σ.length := by rw [hl]; exact (List.getElem?_eq_some_iff.mp e).1
        exact ⟨_, List.getElem?_eq_getElem hlt, trivial⟩
      · obtain ⟨w, e1, e2⟩ := h.slot j s e
        rw [out hj] at e1
        exact ⟨w, e1, e2⟩
    dist := fun i j a m m' => h.dist i j a ((mm i a).mp m) ((mm j a).mp m')
    bor := fun i hi => (mm i _).mpr (h.bor i hi) }, hv⟩
theorem wipeE_no {vs : List Nat} {j : Nat} {s : Sl} (hj : j ∈ vs) (e : (wipeE E vs)[j]? = some s) : s = .no := by
  rw [wipeE_get] at e
  by_cases hl : j < E.length
  · rw [if_pos ⟨hj, hl⟩] at e
    cases e
    rfl
  · rw [if_neg (fun z => hl z.2), List.getElem?_eq_none (by omega)] at e
    cases e
end
theorem _root_.L2.PTs.imp {X : Cx} {e : List Expr} {t u : TT} (h : PTs X e t) (w : ∀ σ H Q, u σ H Q → t σ H Q) : PTs X e u := ⟨fun pins s σ H Q I q => h.run pins s σ H Q I (w σ H Q q)⟩
def dYes : TDB := fun E Q => Q true E
section
variable {X : Cx} {bs : List Nat} {e : Expr} {tk : TDB}
theorem dts_nil : PTs X [] (liftB X.K bs dYes) := pts_nil.imp fun σ H Q0 ⟨c, E, Q, ok, q, f⟩ => f true E H ok Step.refl q
theorem dts_one (h : PT X e (liftB X.K bs tk)) : PTs X [e] (liftB X.K bs tk) := pts_one h
/-- [elt for target in iter if ..] -/
def dLc (bs vs : List Nat) (ti : TDI) (g : TDG) (tk : TDB) (te : TD) : TDO := fun E Q => ti E fun ds E1 => ds.length ≤ sizeLine ∧ (vs.all fun i => !bs.contains i) = true ∧ ∃ I : Nat → List D → DEnv → Prop, I 0 [] (wipeE E1 vs) ∧
  (∀ k acc d E', ds[k]? = some d → I k acc E' → g d E' fun E2 => tk E2 fun b E3 => if b = true then te E3 fun av E4 => ∃ y E5, force bs E4 av = some (y, E5) ∧ I (k + 1) (acc ++ [y]) (wipeE E5 vs) else I (k + 1) acc (wipeE E3 vs)) ∧
  ∀ acc E', I ds.length acc E' → Q acc E'
variable {ti : TDI} {g : TDG} {te : TD}
theorem lc_lift {vs : List Nat} (σ : St) (H : Hp) (Q0 : VK) (h : liftO X.K bs (dLc bs vs ti g tk te) σ H Q0) : tLc (liftI X.K bs ti) (liftG X.K bs vs g) (liftB X.K bs tk) (lift X.K bs te) vs σ H Q0 := by
  obtain ⟨c, E, Q, ok, q, f⟩ := h
  refine ⟨c, E, _, ok, q, fun ds E1 J H1 ok1 s1 it ⟨hz, hvb, I, i0, step, fin⟩ D hD => ?_⟩
  have hvs : ∀ v ∈ vs, v ∉ bs := fun v hv z => by
    have := List.all_eq_true.mp hvb v hv
    have z' : bs.contains v = true := by simpa using z
    rw [z'] at this
    cases this
  have h0 : c.H0 D = none := ok1.fresh0 hD
  have nP : ¬ c.P D := fun z => by
    obtain ⟨o, e, _⟩ := ok1.hidP D z
    rw [hD] at e
    cases e
  obtain ⟨l1, l2⟩ := ok1.lay (o := .lst []) hD
  obtain ⟨w1, w2⟩ := l1.wipes vs hvs
  refine ⟨fun i m H' => m = ds.length - i ∧ i ≤ ds.length ∧ ∃ acc accV E', StOk X.K bs (c.hide D) (wipe σ vs) H' E' ∧ Same (vis c σ E1 H1) (vis (c.hide D) (wipe σ vs) E' H') ∧ H' D = some (.lst accV) ∧ Dats X.K (vis (c.hide D) (wipe σ vs) E' H') accV acc ∧ acc.length ≤ i ∧ (∀ j s, j ∈ vs → E'[j]? = some s → s = .no) ∧ (∀ b, c.P b → H' b = H1 b) ∧ I i acc E',
    ⟨_, rfl, Nat.zero_le _, [], [], _, w1, l2.trans w2, upd_same, .nil, Nat.le_refl _, fun j s hj e => wipeE_no hj e, fun b z => upd_ne (fun (y : b = D) => nP (y ▸ z)), i0⟩, ?_⟩
  rintro i m H' ⟨rfl, hi, acc, accV, E', ok', s', eD, dA, la, hno, pk, hI⟩
  obtain ⟨z1, z2⟩ := it bs (c.hide D) (wipe σ vs) E' H' ok' s' i
  by_cases hlt : i < ds.length
  · have e := List.getElem?_eq_getElem hlt
    obtain ⟨g1, g2⟩ := z1 _ e
    refine .inr ⟨g1, fun H2 => ∃ acc accV E', StOk X.K bs (c.hide D) (wipe σ vs) H2 E' ∧ Same (vis c σ E1 H1) (vis (c.hide D) (wipe σ vs) E' H2) ∧ H2 D = some (.lst accV) ∧ Dats X.K (vis (c.hide D) (wipe σ vs) E' H2) accV acc ∧ acc.length ≤ i + 1 ∧ (∀ j s, j ∈ vs → E'[j]? = some s → s = .no) ∧ (∀ b, c.P b → H2 b = H1 b) ∧ I (i + 1) acc E', fun H2 hN => ⟨_, by omega, rfl, hlt, hN⟩, fun x H2 y => ?_⟩
    obtain ⟨y1, y2⟩ := g2 x H2 y
    refine ⟨c.hide D, E', _, _, ok'.growF y1, y2, step i acc _ E' e hI, fun σ2 E2 ok2 s2 l2 k2 z => ?_⟩
    have ew : wipe σ2 vs = wipe σ vs := wipe_eq (by rw [l2, wipe_length]) fun j hj => (k2 j hj).1
    have out : ∀ (E6 : DEnv) (H6 : Hp), StOk X.K bs (c.hide D) σ2 H6 E6 → StOk X.K bs (c.hide D) (wipe σ vs) H6 (wipeE E6 vs) ∧ Same (vis (c.hide D) σ2 E6 H6) (vis (c.hide D) (wipe σ vs) (wipeE E6 vs) H6) := fun E6 H6 ok6 => by
      have q := ok6.wipes vs hvs
      rw [ew] at q
      exact q
    refine ⟨ew, c.hide D, E2, _, ok2, z, fun b E3 H3 ok3 s3 z => ?_⟩
    have sm3 := (vis_grow (c := c.hide D) (σ := wipe σ vs) (E := E') (.of y1)).trans (s2.trans s3.s)
    have e3 : H3 D = some (.lst accV) := by
      rw [s3.p D (.inr rfl)]
      exact y1 _ _ eD
    have pk3 : ∀ b, c.P b → H3 b = H1 b := fun b z => by
      rw [s3.p b (.inl z), ← pk b z]
      obtain ⟨o, eo, no⟩ := ok'.hidP b (.inl z)
      rw [eo, y1 _ _ eo]
    cases b with
    | true =>
      refine iteT ⟨c.hide D, E3, _, ok3, it1 z, fun av E4 v H4 ok4 s4 a4 ⟨y, E5, fo, hI'⟩ => ?_⟩
      obtain ⟨f1, f2, f3⟩ := force_ok ok4 a4 fo
      have e4 : H4 D = some (.lst accV) := by
        rw [s4.p D (.inr rfl)]
        exact e3
      have hlen : accV.length < sizeLine := by
        rw [dA.length]
        omega
      obtain ⟨p1, p2⟩ := f1.updP (vs := accV ++ [v]) (D0 := D) (.inr rfl) h0 e4
      obtain ⟨o1, o2⟩ := out _ _ p1
      have sm5 := (sm3.trans (s4.trans f2).s)
      have sm6 : Same (vis (c.hide D) (wipe σ vs) E' H') (vis (c.hide D) (wipe σ vs) (wipeE E5 vs) (upd H4 D (.lst (accV ++ [v])))) := by
        refine sm5.trans ?_
        rw [← p2]
        exact o2
      refine ⟨accV, e4, hlen, acc ++ [y], accV ++ [v], wipeE E5 vs, o1, s'.trans sm6, upd_same, (dA.mono sm6).append (.cons ?_ .nil), by rw [List.length_append]; exact Nat.succ_le_succ la, fun j s hj e => wipeE_no hj e, fun b z => ?_, hI'⟩
      · rw [← p2] at f3
        exact f3.mono o2
      · rw [upd_ne (fun (y : b = D) => nP (y ▸ z)), s4.p b (.inl z)]
        exact pk3 b z
    | false =>
      obtain ⟨o1, o2⟩ := out _ _ ok3
      have sm6 := sm3.trans o2
      exact iteF ⟨acc, accV, wipeE E3 vs, o1, s'.trans sm6, e3, dA.mono sm6, Nat.le_succ_of_le la, fun j s hj e => wipeE_no hj e, pk3, it0 z⟩
  · have ei : i = ds.length := by omega
    subst ei
    refine .inl ⟨z2 rfl, ?_⟩
    obtain ⟨u1, u2⟩ := ok'.unwipe hno
    refine f acc E' (.ref D) H' D accV ⟨rfl, eD, h0, u1, by rw [u2]; exact dA⟩ nP (s1.trans ⟨?_, pk⟩) (fin acc E' hI)
    rw [u2]
    exact s'
end
end DL
set_option Elab.async false
set_option linter.all false
set_option autoImplicit false
set_option maxRecDepth 100000
/-! DL7: comprehensions as rules, defs and their calls. -/
namespace DL
open PySem PySem.Spec L2
open PyProof.Rows hiding St
section
variable {X : Cx} {bs : List Nat} {elt tg iter : Expr} {ifs : List Expr} {scope : Scope} {own : List (Str × Nat)} {pos spos py : Pos} {ti : TDI} {g : TDG} {tk : TDB} {te : TD}
theorem de_lc (hc : X.calm = true) (hN : X.N.Nodup) (hi : PI X tg iter (liftI X.K bs ti)) (ok : BlkOk X.N X.env.scope scope own)
    (hg : ∀ (s : Shared) (H : Hp) (C : Addr) (cl : List (Str × Addr)) (fp : List Addr), PG (X.blk s H scope (compEnvC scope cl C X.env) fp) tg (liftG X.K bs (own.map (·.2)) g)) (ht : ∀ (s : Shared) (H : Hp) (C : Addr) (cl : List (Str × Addr)) (fp : List Addr), PTs (X.blk s H scope (compEnvC scope cl C X.env) fp) ifs (liftB X.K bs tk))
    (he : ∀ (s : Shared) (H : Hp) (C : Addr) (cl : List (Str × Addr)) (fp : List Addr), PE (X.blk s H scope (compEnvC scope cl C X.env) fp) elt (lift X.K bs te)) (hs : ∀ x, foldedSetIterable iter X.env x = pure x := by intro _; rfl) :
    PE X (.ListComp elt [⟨tg, iter, ifs, 0⟩] scope pos) (liftO X.K bs (dLc bs (own.map (·.2)) ti g tk te)) := (pe_lc hc hN hi ok hg ht he hs).imp lc_lift
theorem ds_lc {i : Nat} {y : Str} (hc : X.calm = true) (hN : X.N.Nodup) (hy : X.N[i]? = some y) (hyl : X.env.scope.names.lookup y = some .local)
    (hsw : swapsWith (.ListComp elt [⟨tg, iter, ifs, 0⟩] scope pos) (some (.Name y py)) spos.line X.env = pure true) (hi : PI X tg iter (liftI X.K bs ti)) (ok : BlkOk X.N X.env.scope scope own)
    (hg : ∀ (s : Shared) (H : Hp) (C : Addr) (cl : List (Str × Addr)) (fp : List Addr), PG (X.blk s H scope (compEnvC scope cl C X.env) fp) tg (liftG X.K bs (own.map (·.2)) g)) (ht : ∀ (s : Shared) (H : Hp) (C : Addr) (cl : List (Str × Addr)) (fp : List Addr), PTs (X.blk s H scope (compEnvC scope cl C X.env) fp) ifs (liftB X.K bs tk))
    (he : ∀ (s : Shared) (H : Hp) (C : Addr) (cl : List (Str × Addr)) (fp : List Addr), PE (X.blk s H scope (compEnvC scope cl C X.env) fp) elt (lift X.K bs te)) (hs : ∀ x, foldedSetIterable iter X.env x = pure x := by intro _; rfl) (hb : bs.contains i = false := by rfl) :
    PS X (.Assign [.Name y py] (.ListComp elt [⟨tg, iter, ifs, 0⟩] scope pos) spos) (LS X.K bs (dSetO i (dLc bs (own.map (·.2)) ti g tk te))) :=
  ds_setO (X := X) (bs := bs) ((ps_setLc hc hN hy hyl hsw hi ok hg ht he hs).imp fun D σ H q => lc_lift σ H _ q) hb
end

/-! ### defs -/
def mask (bs : List Nat) (n : Nat) (E : DEnv) : DEnv := (List.range n).map fun i => if bs.contains i then E.getD i .no else .no
abbrev FT := List Sl → (Rt → List Sl → Prop) → Prop
def FnSp (K : PySem.W.Frag) (bs : List Nat) (T : FT) : Sp := fun vs H Q _ => ∃ (P : Addr → Prop) (ad : Nat → Addr) (args : List Sl) (QD : Rt → List Sl → Prop), StOk K bs ⟨H, P, ad⟩ (vs.map some) H args ∧ T args QD ∧
  ∀ v H' r E', RtOk K bs ⟨H, P, ad⟩ (vs.map some) H' E' v r → QD r E' → Q v H'
section
variable {K : PySem.W.Frag} {bs : List Nat} {c : Ct} {σ σ' : St} {E E' : DEnv} {H H' : Hp} {a b : Addr} {i : Nat} {v : V} {d : D} {ds : List D}
theorem mask_get {n : Nat} : (mask bs n E)[i]? = if i < n then some (if bs.contains i then E.getD i .no else .no) else none := by
  unfold mask
  rw [List.getElem?_map]
  by_cases h : i < n
  · rw [List.getElem?_range h, if_pos h]
    rfl
  · rw [List.getElem?_eq_none (by simpa using h), if_neg h]
    rfl
theorem StOk.start {N : List Str} {vs : List V} {args : List Sl} (h : StOk K bs c (vs.map some) H args) : StOk K bs c (start N vs) H (args ++ List.replicate (N.length - args.length) .no) := by
  have hl : vs.length = args.length := by have := h.len; rwa [List.length_map] at this
  have eE : ∀ {i s}, (args ++ List.replicate (N.length - args.length) Sl.no)[i]? = some s → (args[i]? = some s ∧ i < args.length) ∨ (s = .no ∧ args.length ≤ i ∧ i < N.length) := fun {i s} e => by
    by_cases hi : i < args.length
    · rw [List.getElem?_append_left hi] at e
      exact .inl ⟨e, hi⟩
    · rw [List.getElem?_append_right (by omega), List.getElem?_replicate] at e
      split at e
      · cases e
        exact .inr ⟨rfl, by omega, by omega⟩
      · cases e
  have eS : ∀ {i}, i < args.length → (L2.start N vs)[i]? = (vs.map some)[i]? := fun {i} hi => by
    unfold L2.start
    rw [List.getElem?_append_left (by rw [List.length_map]; omega)]
  have mm : ∀ {i a}, MAt (L2.start N vs) (args ++ List.replicate (N.length - args.length) .no) i a ↔ MAt (vs.map some) args i a := fun {i a} => by
    constructor
    · rintro ⟨s, h1, h2, h3⟩
      rcases eE h1 with ⟨g1, g2⟩ | ⟨g1, _⟩
      · rw [eS g2] at h3
        exact ⟨s, g1, h2, h3⟩
      · rw [g1] at h2
        cases h2
    · rintro ⟨s, h1, h2, h3⟩
      have hi := (List.getElem?_eq_some_iff.mp h1).1
      exact ⟨s, by rw [List.getElem?_append_left hi]; exact h1, h2, by rw [eS hi]; exact h3⟩
  have hv : vis c (L2.start N vs) (args ++ List.replicate (N.length - args.length) .no) H = vis c (vs.map some) args H := by
    funext b
    unfold vis
    have : Hid c (L2.start N vs) (args ++ List.replicate (N.length - args.length) .no) b ↔ Hid c (vs.map some) args b := by
      unfold Hid
      simp only [mm]
    by_cases z : Hid c (vs.map some) args b
    · rw [if_pos z, if_pos (this.mpr z)]
    · rw [if_neg z, if_neg (fun y => z (this.mp y))]
  exact {
    len := by
      unfold L2.start
      simp [hl]
    tabs := h.tabs
    frame := h.frame
    hidP := h.hidP
    disj := fun i a m => h.disj i a (mm.mp m)
    slot := fun i s e => by
      rw [hv]
      rcases eE e with ⟨g1, g2⟩ | ⟨g1, g2, g3⟩
      · rw [eS g2]
        exact h.slot i s g1
      · subst g1
        have hlt : i < (L2.start N vs).length := by
          unfold L2.start
          simp [hl]
          omega
        exact ⟨_, List.getElem?_eq_getElem hlt, trivial⟩
    dist := fun i j a m n => h.dist i j a (mm.mp m) (mm.mp n)
    bor := fun i hi => mm.mpr (h.bor i hi) }
theorem StOk.mask (h : StOk K bs c σ H E) {vs : List V} (hb : ∀ i ∈ bs, (vs.map some)[i]? = some (some (V.ref (c.ad i)))) : StOk K bs c (vs.map some) H (mask bs vs.length E) ∧ Same (vis c σ E H) (vis c (vs.map some) (mask bs vs.length E) H) := by
  have mm : ∀ {i a}, MAt (vs.map some) (DL.mask bs vs.length E) i a → i ∈ bs ∧ MAt σ E i a ∧ a = c.ad i := fun {i a} ⟨s, h1, h2, h3⟩ => by
    rw [mask_get] at h1
    split at h1
    · cases h1
      by_cases hc : bs.contains i = true
      · have hi : i ∈ bs := by simpa using hc
        have e := hb i hi
        rw [h3] at e
        cases e
        exact ⟨hi, h.bor i hi, rfl⟩
      · rw [if_neg hc] at h2
        cases h2
    · cases h1
  have sm : Same (vis c σ E H) (vis c (vs.map some) (DL.mask bs vs.length E) H) := vis_same (fun b z n => by
    rcases z with z | ⟨j, z⟩
    · exact absurd (.inl z) n
    · exact absurd (.inr ⟨j, (mm z).2.1⟩) n) fun b o _ q => q
  refine ⟨{
    len := by
      unfold DL.mask
      rw [List.length_map, List.length_map, List.length_range]
    tabs := h.tabs
    frame := h.frame
    hidP := h.hidP
    disj := fun i a m => h.disj i a (mm m).2.1
    slot := fun i s e => by
      rw [mask_get] at e
      split at e
      · rename_i hi
        have e := Option.some.inj e
        by_cases hc : bs.contains i = true
        · have hi : i ∈ bs := by simpa using hc
          obtain ⟨t, h1, h2, h3⟩ := h.bor i hi
          rw [if_pos hc, List.getD_eq_getElem?_getD, h1] at e
          have e : t = s := e
          subst e
          obtain ⟨w, w1, w2⟩ := h.slot i t h1
          rw [h3] at w1
          cases w1
          exact ⟨_, hb i hi, w2.mono sm fun _ _ _ _ _ q => q⟩
        · rw [if_neg hc] at e
          subst e
          exact ⟨_, List.getElem?_eq_getElem (by rw [List.length_map]; exact hi), trivial⟩
      · cases e
    dist := fun i j a m n => h.dist i j a (mm m).2.1 (mm n).2.1
    bor := fun i hi => by
      obtain ⟨t, h1, h2, h3⟩ := h.bor i hi
      have hl : i < vs.length := by
        have := (List.getElem?_eq_some_iff.mp (hb i hi)).1
        rwa [List.length_map] at this
      refine ⟨t, ?_, h2, hb i hi⟩
      rw [mask_get, if_pos hl, if_pos (by simpa using hi), List.getD_eq_getElem?_getD, h1]
      rfl }, sm⟩
theorem RtOk.mask {r : Rt} (h : RtOk K bs c σ H E v r) {vs : List V} (hb : ∀ i ∈ bs, (vs.map some)[i]? = some (some (V.ref (c.ad i)))) : RtOk K bs c (vs.map some) H (mask bs vs.length E) v r := by
  cases r with
  | dat d =>
    obtain ⟨h1, h2⟩ := StOk.mask h.1 hb
    exact ⟨h1, h.2.mono h2⟩
  | own ds =>
    obtain ⟨a, ws, o, n⟩ := h
    obtain ⟨h1, h2⟩ := StOk.mask (c := c.hide a) o.st hb
    exact ⟨a, ws, ⟨o.ref, o.at_, o.new, h1, o.its.mono h2⟩, n⟩
end
section
variable {P : Program} {w : World} {K : PySem.W.Frag} {mg : Str → Option Value} {base : Heap}
/-- THE RULE for a def over data -/
theorem _root_.L2.Fun.okD {x qual : Str} {st : Stmt} {f : Addr} {fd : FuncData} {N ps : List Str} {k : Nat} {bs : List Nat} {T : FT} {t : TSd} (F : Fun K x qual st f fd) (S : FnScope N ps (defScope st)) (hT : ∀ args QD, T args QD → args.length = ps.length)
    (hb : ∀ (cdv : Value) (A : Around) (outer : List Env) (s : Shared) (H : Hp) (E : XK), Room k (A.deeper (envOfC qual (defScope st) s.heap.objs.size f cdv)) → PSs (cxOf CX0 P w K mg base N qual (defScope st) f cdv A outer s H E).nox (defBody st) (LS K bs t))
    (ht : ∀ args QD, T args QD → t { nx := fun E => QD (.dat .non) (mask bs ps.length E), rt := fun r E => QD r (mask bs ps.length E) } (args ++ List.replicate (N.length - args.length) .no)) : FnOk P w K mg base CX0 (k + 1) f fd ps (FnSp K bs T) := by
  refine F.ok S (fun vs H Q E ⟨P', ad, args, QD, ok, h, _⟩ => ?_) (fun cdv A outer s H vs Q E hr ⟨P', ad, args, QD, ok, h, q⟩ => ⟨_, hb cdv A outer s H E hr, ?_⟩)
  · have := ok.len
    rw [List.length_map] at this
    rw [this, hT args QD h]
  · have hl : vs.length = ps.length := by
      have := ok.len
      rw [List.length_map] at this
      rw [this, hT args QD h]
    have hbor : ∀ i ∈ bs, (vs.map some)[i]? = some (some (V.ref (ad i))) := fun i hi => by
      obtain ⟨_, _, _, e⟩ := ok.bor i hi
      exact e
    refine ⟨⟨H, P', ad⟩, _, _, ok.start, ht args QD h, ⟨fun σ' H' E' ok' _ z => ?_, fun _ _ _ _ _ z => z.elim, fun _ _ _ _ _ z => z.elim, fun σ' H' E' v r ro z => ?_⟩⟩
    · refine q .non H' (.dat .non) _ (RtOk.mask (r := .dat .non) ⟨ok', .non⟩ hbor) ?_
      rw [hl]
      exact z
    · refine q v H' r _ (RtOk.mask ro hbor) ?_
      rw [hl]
      exact z
end

/-! ### calls -/
def forces (bs : List Nat) : DEnv → List AV → Option (List D × DEnv)
  | E, [] => some ([], E)
  | E, x :: xs => match force bs E x with
    | some (d, E1) => match forces bs E1 xs with
      | some (ds, E2) => some (d :: ds, E2)
      | none => none
    | none => none
section
variable {K : PySem.W.Frag} {bs : List Nat} {c : Ct} {σ σ' : St} {E E' : DEnv} {H H' : Hp} {a b : Addr} {i : Nat} {v : V} {d : D} {ds : List D}
theorem avs_mono {vs : List V} {avs : List AV} (h : Paired (fun v av => AvOk K c σ E H v av) vs avs) (s : Step c c σ E H E' H') : Paired (fun v av => AvOk K c σ E' H' v av) vs avs := Paired.mapP h fun _ _ z => z.mono s
theorem forces_ok : ∀ {avs : List AV} {vs : List V} {E : DEnv} {ds : List D}, StOk K bs c σ H E → Paired (fun v av => AvOk K c σ E H v av) vs avs → forces bs E avs = some (ds, E') → StOk K bs c σ H E' ∧ Step c c σ E H E' H ∧ Dats K (vis c σ E' H) vs ds
  | [], vs, E, ds, h, r, l => by
    cases r
    cases l
    exact ⟨h, Step.refl, .nil⟩
  | x :: xs, [], E, ds, h, r, l => by cases r
  | x :: xs, v :: vs, E, ds, h, r, l => by
    cases r with
    | cons r rr =>
    dsimp only [forces] at l
    cases e1 : force bs E x with
    | none =>
      rw [e1] at l
      cases l
    | some p =>
      obtain ⟨d, E1⟩ := p
      rw [e1] at l
      dsimp only at l
      cases e2 : forces bs E1 xs with
      | none =>
        rw [e2] at l
        cases l
      | some q =>
        obtain ⟨es, E2⟩ := q
        rw [e2] at l
        cases l
        obtain ⟨f1, f2, f3⟩ := force_ok h r e1
        obtain ⟨g1, g2, g3⟩ := forces_ok f1 (avs_mono rr f2) e2
        exact ⟨g1, f2.trans g2, .cons (f3.mono g2.s) g3⟩
theorem StOk.lay' (h : StOk K bs c σ H E) (n : H a = none) (s : Same H H') (t : TabK K H') (e : ∃ vs, H' a = some (.lst vs)) : StOk K bs (c.hide a) σ H' E ∧ Same (vis c σ E H) (vis (c.hide a) σ E H') := by
  obtain ⟨o, e⟩ := e
  obtain ⟨h1, h2⟩ := h.lay (o := .lst o) n
  have sm : Same (upd H a (.lst o)) H' := fun b x q => by
    by_cases hb : b = a
    · subst hb
      rw [upd_same] at q
      cases q
      exact .of e
    · rw [upd_ne hb] at q
      exact s _ _ q
  exact ⟨h1.grow sm t, h2.trans (vis_grow sm)⟩
def Rt.data : Rt → D
  | .dat d => d
  | .own ds => .lst ds
/-- the context of a callee that borrows nothing -/
def sub0 (c : Ct) (σ : St) (E : DEnv) (H : Hp) : Ct := ⟨H, Hid c σ E, fun _ => 0⟩
theorem no_mat {vs : List V} {ds : List D} {dd : List D} (m : MAt (vs.map some) ((ds ++ dd).map .dat) i a) : False := by
  obtain ⟨s, h1, h2, _⟩ := m
  rw [List.getElem?_map] at h1
  cases e : (ds ++ dd)[i]? with
  | none =>
    rw [e] at h1
    cases h1
  | some x =>
    rw [e] at h1
    cases h1
    cases h2
theorem sub_st (h : StOk K bs c σ H E) {vs : List V} {ds : List D} (q : Dats K (vis c σ E H) vs ds) : StOk K [] (sub0 c σ E H) (vs.map some) H ((ds ++ []).map .dat) := by
  have hv : Same (vis c σ E H) (vis (sub0 c σ E H) (vs.map some) ((ds ++ []).map .dat) H) := vis_same (fun b z n => by
    rcases z with z | ⟨j, z⟩
    · exact absurd z n
    · exact (no_mat z).elim) fun b o _ q => q
  exact {
    len := by rw [List.length_map, List.length_map, List.append_nil, q.length]
    tabs := h.tabs
    frame := fun b o e _ => .of e
    hidP := fun b e => h.hid e
    disj := fun i a m => (no_mat m).elim
    slot := fun i s e => by
      rw [List.getElem?_map, List.append_nil] at e
      cases e1 : ds[i]? with
      | none =>
        rw [e1] at e
        cases e
      | some d =>
        rw [e1] at e
        cases e
        obtain ⟨w, w1, w2⟩ := q.get e1
        exact ⟨some w, by rw [List.getElem?_map, w1]; rfl, w, rfl, w2.mono hv⟩
    dist := fun i j a m => (no_mat m).elim
    bor := fun i hi => by simp at hi }
/-- what a callee that borrows nothing leaves -/
theorem sub_ret (h : StOk K bs c σ H E) {vs : List V} {r : Rt} {E' : DEnv} (q : RtOk K [] (sub0 c σ E H) (vs.map some) H' E' v r) :
    Same H H' ∧ TabK K H' ∧ ((∃ d, r = .dat d ∧ Dat K (vis c σ E H') v d) ∨ ∃ ds a ws, r = .own ds ∧ OwnL K bs c σ H' E v ds a ws ∧ ¬ c.P a ∧ Same (vis c σ E H) (vis (c.hide a) σ E H')) := by
  have nb : ∀ b, ¬ Bo [] (sub0 c σ E H) b := fun b ⟨i, hi, _⟩ => by simp at hi
  cases r with
  | dat d =>
    obtain ⟨ok, dd⟩ := q
    have s : Same H H' := fun b o e => ok.frame b o e (nb b)
    exact ⟨s, ok.tabs, .inl ⟨d, rfl, dd.mono (vis_same (fun b z n => absurd (.inl z) n) fun b o _ q => q)⟩⟩
  | own ds =>
    obtain ⟨a, ws, o, n⟩ := q
    have s : Same H H' := fun b x e => o.st.frame b x e (nb b)
    have ha : H a = none := o.new
    obtain ⟨l1, l2⟩ := h.lay' ha s o.st.tabs ⟨_, o.at_⟩
    refine ⟨s, o.st.tabs, .inr ⟨ds, a, ws, rfl, ⟨o.ref, o.at_, h.fresh0 ha, l1, o.its.mono (vis_same (fun b z nz => ?_) fun b o _ q => q)⟩, fun z => ?_, l2⟩⟩
    · rcases hid_hide.mp z with z | z
      · exact absurd (hid_hide.mpr (.inl (.inl z))) nz
      · exact absurd (hid_hide.mpr (.inr z)) nz
    · obtain ⟨o', e, _⟩ := h.hidP a z
      rw [ha] at e
      cases e
end
section
variable {X : Cx} {bs : List Nat} {CX : CXT} {k : Nat} {f : Addr} {fd : FuncData} {ps : List Str} {T : FT} {Ex : XK} {x : Str} {p pos : Pos} {e : Expr} {es : List Expr} {t : TDL}
/-- f(..), nothing borrowed; dd: what its defaults are -/
def dCall (bs : List Nat) (T : FT) (dd : List D) (t : TDL) : TD := fun E Q => t E fun avs E1 => ∃ ds E2, forces bs E1 avs = some (ds, E2) ∧ T ((ds ++ dd).map .dat) fun r _ => Q (.val r.data) E2
def dCallO (bs : List Nat) (T : FT) (dd : List D) (t : TDL) : TDO := fun E Q => t E fun avs E1 => ∃ ds E2, forces bs E1 avs = some (ds, E2) ∧ T ((ds ++ dd).map .dat) fun r _ => ∃ es, r = .own es ∧ Q es E2
theorem Dats.consts {K : PySem.W.Frag} {dvs : List V} {dd : List D} (h : Dats K (fun _ => none) dvs dd) (G : Hp) : Dats K G dvs dd := h.mono fun b o e => by cases e
theorem call_lift {dvs : List V} {dd : List D} (hdd : Dats X.K (fun _ => none) dvs dd) (σ : St) (H : Hp) (Q0 : VK) (h : lift X.K bs (dCall bs T dd t) σ H Q0) : tCall (FnSp X.K [] T) dvs Ex (liftL X.K bs t) σ H Q0 := by
  obtain ⟨c, E, Q, ok, q, fi⟩ := h
  refine ⟨c, E, _, ok, q, fun avs E1 vs H1 ok1 s1 a1 ⟨ds, E2, fo, z⟩ => ?_⟩
  obtain ⟨f1, f2, f3⟩ := forces_ok ok1 a1 fo
  have q2 := f3.append (hdd.consts (vis c σ E2 H1))
  have z' := sub_st f1 q2
  rw [List.append_nil] at z'
  refine ⟨_, _, _, _, z', z, fun v H' r E' ro hq => ?_⟩
  obtain ⟨sm, tb, ro⟩ := sub_ret f1 ro
  have st : Step c c σ E2 H1 E2 H' := ⟨vis_grow sm, fun b e => by
    obtain ⟨o, eo, no⟩ := f1.hidP b e
    rw [eo, (sm _ _ eo).k no]⟩
  rcases ro with ⟨d, rfl, hd⟩ | ⟨ds, a, ws, rfl, o, n, s2⟩
  · exact fi (.val d) E2 v H' (f1.grow sm tb) ((s1.trans f2).trans st) hd hq
  · obtain ⟨o1, o2⟩ := o.dat n
    exact fi (.val (.lst ds)) E2 v H' o1 ((s1.trans f2).trans st) o2 hq
theorem call_liftO {dvs : List V} {dd : List D} (hdd : Dats X.K (fun _ => none) dvs dd) (σ : St) (H : Hp) (Q0 : VK) (h : liftO X.K bs (dCallO bs T dd t) σ H Q0) : tCall (FnSp X.K [] T) dvs Ex (liftL X.K bs t) σ H Q0 := by
  obtain ⟨c, E, Q, ok, q, fi⟩ := h
  refine ⟨c, E, _, ok, q, fun avs E1 vs H1 ok1 s1 a1 ⟨ds, E2, fo, z⟩ => ?_⟩
  obtain ⟨f1, f2, f3⟩ := forces_ok ok1 a1 fo
  have q2 := f3.append (hdd.consts (vis c σ E2 H1))
  have z' := sub_st f1 q2
  rw [List.append_nil] at z'
  refine ⟨_, _, _, _, z', z, fun v H' r E' ro ⟨es, er, hq⟩ => ?_⟩
  subst er
  obtain ⟨sm, tb, ro⟩ := sub_ret f1 ro
  rcases ro with ⟨d, e, hd⟩ | ⟨ds', a, ws, e, o, n, s2⟩
  · cases e
  · cases e
    exact fi es E2 v H' a ws o n ((s1.trans f2).trans ⟨s2, fun b e => by
      obtain ⟨o, eo, no⟩ := f1.hidP b e
      rw [eo, (sm _ _ eo).k no]⟩) hq
theorem de_call {dvs : List V} {dvl : List Value} {dd : List D} (F : FnOk X.prog X.w X.K X.mg X.base CX k f fd ps (FnSp X.K [] T)) (hr : Room k X.A) (hg : Gl X x) (hm : X.mg x = some (.ref f)) (hk : PySem.W.keepIn X.K (.ref f) = true) (hb : Binds X.K fd ps dvl) (hd : Vals dvs dvl) (hdd : Dats X.K (fun _ => none) dvs dd) (hx : Passes CX X Ex)
    (ha : PA X (e :: es) (liftL X.K bs t)) (hdb : (x == ("__debug__" : Str)) = false := by decide) (he : starEach (e :: es) X.env = (false, eval e X.env) :: starEach es X.env := by rfl) (hpl : (backTo pos (starEach es X.env)).any (·.1) = false := by rfl) :
    PE X (.Call (.Name x p) (e :: es) [] pos) (lift X.K bs (dCall bs T dd t)) := (pe_call F hr hg hm hk hb hd hx ha hdb he hpl).imp (call_lift hdd)
theorem de_callO {dvs : List V} {dvl : List Value} {dd : List D} (F : FnOk X.prog X.w X.K X.mg X.base CX k f fd ps (FnSp X.K [] T)) (hr : Room k X.A) (hg : Gl X x) (hm : X.mg x = some (.ref f)) (hk : PySem.W.keepIn X.K (.ref f) = true) (hb : Binds X.K fd ps dvl) (hd : Vals dvs dvl) (hdd : Dats X.K (fun _ => none) dvs dd) (hx : Passes CX X Ex)
    (ha : PA X (e :: es) (liftL X.K bs t)) (hdb : (x == ("__debug__" : Str)) = false := by decide) (he : starEach (e :: es) X.env = (false, eval e X.env) :: starEach es X.env := by rfl) (hpl : (backTo pos (starEach es X.env)).any (·.1) = false := by rfl) :
    PE X (.Call (.Name x p) (e :: es) [] pos) (liftO X.K bs (dCallO bs T dd t)) := (pe_call F hr hg hm hk hb hd hx ha hdb he hpl).imp (call_liftO hdd)
end
end DL
set_option Elab.async false
set_option linter.all false
set_option autoImplicit false
set_option maxRecDepth 100000
/-! DL8: own objects changed, a borrowed argument, operators by data, displays, indices, slices, builtins. -/
namespace DL
open PySem PySem.Spec L2
open PyProof.Rows hiding St
section
variable {K : PySem.W.Frag} {bs : List Nat} {c : Ct} {σ σ' : St} {E E' : DEnv} {H H' : Hp} {a b : Addr} {i : Nat} {v : V} {d : D} {ds : List D}
theorem hid_reM {s' : Sl} (hs : s'.isM = true) (m : MAt σ E i a) : Hid c σ (E.set i s') b ↔ Hid c σ E b := by
  have key : ∀ j, MAt σ (E.set i s') j b ↔ MAt σ E j b := fun j => by
    by_cases hj : j = i
    · subst hj
      obtain ⟨s, h1, h2, h3⟩ := m
      have hl := (List.getElem?_eq_some_iff.mp h1).1
      constructor
      · rintro ⟨t, g1, g2, g3⟩
        exact ⟨s, h1, h2, g3⟩
      · rintro ⟨t, g1, g2, g3⟩
        exact ⟨s', List.getElem?_set_self hl, hs, g3⟩
    · unfold MAt
      rw [List.getElem?_set_ne (Ne.symm hj)]
  unfold Hid
  simp only [key]
/-- an own object is changed, its slot with it -/
theorem StOk.reM (h : StOk K bs c σ H E) (m : MAt σ E i a) {s' : Sl} (hs : s'.isM = true) (k : ∀ b o, b ≠ a → H b = some o → SmO o (H' b)) (tb : TabK K H')
    (q : Same (vis c σ E H) (vis c σ (E.set i s') H') → SlOk K bs c (vis c σ (E.set i s') H') H' (some (.ref a)) s') : StOk K bs c σ H' (E.set i s') ∧ Step c c σ E H (E.set i s') H' := by
  have sm : Same (vis c σ E H) (vis c σ (E.set i s') H') := vis_sameT (fun b y z1 => absurd ((hid_reM hs m).mp y) z1) fun b o z1 z2 => k b o (fun e => z1 (by
    rw [e]
    exact .inr ⟨i, m⟩)) z2
  have mm : ∀ {j b}, MAt σ (E.set i s') j b → MAt σ E j b := fun {j b} ⟨t, g1, g2, g3⟩ => by
    by_cases hj : j = i
    · subst hj
      obtain ⟨s, h1, h2, h3⟩ := m
      exact ⟨s, h1, h2, g3⟩
    · rw [List.getElem?_set_ne (Ne.symm hj)] at g1
      exact ⟨t, g1, g2, g3⟩
  have q := q sm
  have hi : i < E.length := by
    obtain ⟨s, h1, _⟩ := m
    exact (List.getElem?_eq_some_iff.mp h1).1
  refine ⟨{
    len := by rw [List.length_set]; exact h.len
    tabs := tb
    frame := fun b o e nb => (h.frame b o e nb).trans fun o' e' => k b o' (fun z => by
      subst z
      rcases h.own m with z | z
      · exact nb z
      · rw [z] at e
        cases e) e'
    hidP := fun b e => by
      obtain ⟨o, z, n⟩ := h.hidP b e
      exact ⟨o, (k b o (fun y => h.disj i a m (y ▸ e)) z).k n, n⟩
    disj := fun j b n => h.disj j b (mm n)
    slot := fun j t e => by
      by_cases hj : j = i
      · subst hj
        rw [List.getElem?_set_self hi] at e
        cases e
        obtain ⟨s, h1, h2, h3⟩ := m
        exact ⟨_, h3, q⟩
      · rw [List.getElem?_set_ne (Ne.symm hj)] at e
        obtain ⟨w, e1, e2⟩ := h.slot j t e
        refine ⟨w, e1, e2.mono sm fun x o ew ht n z => (k x o (fun y => ?_) z).k n⟩
        subst y
        exact hj (h.dist j i x ⟨t, e, ht, by rw [e1, ew]⟩ m)
    dist := fun j l b m1 m2 => h.dist j l b (mm m1) (mm m2)
    bor := fun j hj => by
      obtain ⟨t, h1, h2, h3⟩ := h.bor j hj
      by_cases e : j = i
      · subst e
        exact ⟨s', List.getElem?_set_self hi, hs, h3⟩
      · exact ⟨t, by rw [List.getElem?_set_ne (Ne.symm e)]; exact h1, h2, h3⟩ }, ⟨sm, fun b e => by
    obtain ⟨o, z, n⟩ := h.hidP b e
    rw [z, (k b o (fun y => h.disj i a m (y ▸ e)) z).k n]⟩⟩
theorem StOk.tab_ml (h : StOk K bs c σ H E) (e : E[i]? = some (.ml ds)) (r : σ[i]? = some (some (.ref a))) {o : HO} : TabK K (upd H a o) := by
  obtain ⟨w, e1, b, vs, z, h1, h2, _⟩ := h.slot i _ e
  rw [r] at e1
  cases e1
  cases z
  exact h.tabs.put (.inr ⟨_, h1, nt_lst, code_lst⟩) fun b x ne e => by
    rw [upd_ne ne]
    exact e
theorem StOk.tab_md {kvs : List (Key × D)} (h : StOk K bs c σ H E) (e : E[i]? = some (.md kvs)) (r : σ[i]? = some (some (.ref a))) {o : HO} : TabK K (upd H a o) := by
  obtain ⟨w, e1, b, vs, z, h1, h2, _⟩ := h.slot i _ e
  rw [r] at e1
  cases e1
  cases z
  exact h.tabs.put (.inr ⟨_, h1, nt_dK, code_dK⟩) fun b x ne e => by
    rw [upd_ne ne]
    exact e
theorem StOk.upd_ml (h : StOk K bs c σ H E) (e : E[i]? = some (.ml ds)) (r : σ[i]? = some (some (.ref a))) {vs' : List V} {ds' : List D} (q : Dats K (vis c σ E H) vs' ds') : StOk K bs c σ (upd H a (.lst vs')) (E.set i (.ml ds')) ∧ Step c c σ E H (E.set i (.ml ds')) (upd H a (.lst vs')) := by
  have m : MAt σ E i a := ⟨_, e, rfl, r⟩
  exact h.reM m rfl (fun b o ne z => by rw [upd_ne ne]; exact .of z) (h.tab_ml e r) fun sm => ⟨a, vs', rfl, upd_same, q.mono sm, h.own m⟩
theorem StOk.get_ml (h : StOk K bs c σ H E) (e : E[i]? = some (.ml ds)) : ∃ a vs, σ[i]? = some (some (.ref a)) ∧ H a = some (.lst vs) ∧ Dats K (vis c σ E H) vs ds := by
  obtain ⟨w, e1, a, vs, z, h1, h2, _⟩ := h.slot i _ e
  subst z
  exact ⟨a, vs, e1, h1, h2⟩
/-! a callee that borrows its first argument -/
def sub1 (c : Ct) (σ : St) (E : DEnv) (H : Hp) (i : Nat) (a : Addr) : Ct := ⟨H, fun b => c.P b ∨ ∃ k, k ≠ i ∧ MAt σ E k b, fun _ => a⟩
theorem mat1 {vs : List V} {s : Sl} {k : Nat} (m : MAt (some (V.ref a) :: vs.map some) (s :: ds.map .dat) k b) : k = 0 ∧ b = a := by
  obtain ⟨t, h1, h2, h3⟩ := m
  cases k with
  | zero =>
    cases h3
    exact ⟨rfl, rfl⟩
  | succ k =>
    have h1 : (ds.map Sl.dat)[k]? = some t := h1
    rw [List.getElem?_map] at h1
    cases e : ds[k]? with
    | none =>
      rw [e] at h1
      cases h1
    | some x =>
      rw [e] at h1
      cases h1
      cases h2
theorem sub1_st (h : StOk K bs c σ H E) {s : Sl} (e : E[i]? = some s) (hs : s.isM = true) (r : σ[i]? = some (some (.ref a))) {vs : List V} (q : Dats K (vis c σ E H) vs ds) : StOk K [0] (sub1 c σ E H i a) ((V.ref a :: vs).map some) H (s :: ds.map .dat) := by
  have m : MAt σ E i a := ⟨s, e, hs, r⟩
  have m0 : MAt ((V.ref a :: vs).map some) (s :: ds.map Sl.dat) 0 a := ⟨s, rfl, hs, rfl⟩
  have sm : Same (vis c σ E H) (vis (sub1 c σ E H i a) ((V.ref a :: vs).map some) (s :: ds.map .dat) H) := vis_same (fun b z n => by
    rcases z with (z | ⟨k, _, z⟩) | ⟨k, z⟩
    · exact absurd (.inl z) n
    · exact absurd (.inr ⟨k, z⟩) n
    · rw [(mat1 z).2] at n
      exact absurd (.inr ⟨i, m⟩) n) fun b o _ q => q
  exact {
    len := by simp [q.length]
    tabs := h.tabs
    frame := fun b o e _ => .of e
    hidP := fun b e => by
      rcases e with e | ⟨k, _, e⟩
      · exact h.hidP b e
      · exact h.mat e
    disj := fun k b z y => by
      obtain ⟨_, eb⟩ := mat1 z
      subst eb
      rcases y with y | ⟨k, nk, y⟩
      · exact h.disj i b m y
      · exact nk (h.dist _ _ b y m)
    slot := fun k t e1 => by
      cases k with
      | zero =>
        cases e1
        obtain ⟨w, w1, w2⟩ := h.slot i s e
        rw [r] at w1
        cases w1
        refine ⟨_, rfl, ?_⟩
        have z := w2.mono sm (H' := H) fun _ _ _ _ _ q => q
        cases s with
        | no => cases hs
        | dat d => cases hs
        | ml d =>
          obtain ⟨x, ws, x1, x2, x3, _⟩ := z
          cases x1
          exact ⟨_, ws, rfl, x2, x3, .inl ⟨0, by simp, rfl⟩⟩
        | md d =>
          obtain ⟨x, ws, x1, x2, x3, _⟩ := z
          cases x1
          exact ⟨_, ws, rfl, x2, x3, .inl ⟨0, by simp, rfl⟩⟩
      | succ k =>
        have e1 : (ds.map Sl.dat)[k]? = some t := e1
        rw [List.getElem?_map] at e1
        cases e2 : ds[k]? with
        | none =>
          rw [e2] at e1
          cases e1
        | some x =>
          rw [e2] at e1
          cases e1
          obtain ⟨w, w1, w2⟩ := q.get e2
          refine ⟨some w, ?_, w, rfl, w2.mono sm⟩
          show (vs.map some)[k]? = _
          rw [List.getElem?_map, w1]
          rfl
    dist := fun j k b m1 m2 => by rw [(mat1 m1).1, (mat1 m2).1]
    bor := fun j hj => by
      have : j = 0 := by simpa using hj
      subst this
      exact m0 }
theorem sub1_ret (h : StOk K bs c σ H E) {s : Sl} (e : E[i]? = some s) (hs : s.isM = true) (r : σ[i]? = some (some (.ref a))) {vs : List V} {rt : Rt} {E1 : DEnv} (q : RtOk K [0] (sub1 c σ E H i a) ((V.ref a :: vs).map some) H' E1 v rt) :
    ∃ s', E1[0]? = some s' ∧ s'.isM = true ∧ StOk K bs c σ H' (E.set i s') ∧ Step c c σ E H (E.set i s') H' ∧ Dat K (vis c σ (E.set i s') H') v rt.data := by
  have m : MAt σ E i a := ⟨s, e, hs, r⟩
  have done : StOk K [0] (sub1 c σ E H i a) ((V.ref a :: vs).map some) H' E1 → ∃ s', E1[0]? = some s' ∧ s'.isM = true ∧ StOk K bs c σ H' (E.set i s') ∧ Step c c σ E H (E.set i s') H' ∧ Same (vis (sub1 c σ E H i a) ((V.ref a :: vs).map some) E1 H') (vis c σ (E.set i s') H') := fun ok => by
    obtain ⟨s', h1, h2, h3⟩ := ok.bor 0 (by simp)
    have sm : Same (vis (sub1 c σ E H i a) ((V.ref a :: vs).map some) E1 H') (vis c σ (E.set i s') H') := vis_same (fun b z n => by
      rcases (hid_reM h2 m).mp z with y | ⟨k, y⟩
      · exact absurd (.inl (.inl y)) n
      · by_cases hk : k = i
        · rw [hk] at y
          obtain ⟨t, g1, g2, g3⟩ := y
          rw [r] at g3
          cases g3
          exact absurd (.inr ⟨0, s', h1, h2, h3⟩) n
        · exact absurd (.inl (.inr ⟨k, hk, y⟩)) n) fun b o _ q => q
    obtain ⟨g1, g2⟩ := h.reM (H' := H') (s' := s') m h2 (fun b o ne z => ok.frame b o z (fun ⟨j, _, y⟩ => ne y.symm)) ok.tabs fun _ => by
      obtain ⟨w, w1, w2⟩ := ok.slot 0 s' h1
      rw [h3] at w1
      cases w1
      cases s' with
      | no => cases h2
      | dat d => cases h2
      | ml d =>
        obtain ⟨x, ws, x1, x2, x3, _⟩ := w2
        cases x1
        exact ⟨_, ws, rfl, x2, x3.mono sm, h.own m⟩
      | md d =>
        obtain ⟨x, ws, x1, x2, x3, _⟩ := w2
        cases x1
        exact ⟨_, ws, rfl, x2, x3.mono sm, h.own m⟩
    exact ⟨s', h1, h2, g1, g2, sm⟩
  cases rt with
  | dat d =>
    obtain ⟨ok, dd⟩ := q
    obtain ⟨s', h1, h2, h3, h4, h5⟩ := done ok
    exact ⟨s', h1, h2, h3, h4, dd.mono h5⟩
  | own es =>
    obtain ⟨x, ws, o, n⟩ := q
    obtain ⟨o1, o2⟩ := o.dat n
    obtain ⟨s', h1, h2, h3, h4, h5⟩ := done o1
    exact ⟨s', h1, h2, h3, h4, o2.mono h5⟩
end
section
variable {X : Cx} {bs : List Nat} {CX : CXT} {k i : Nat} {f : Addr} {fd : FuncData} {ps : List Str} {T : FT} {Ex : XK} {x : Str} {p pos : Pos} {e : Expr} {es : List Expr} {t : TDL}
def dCallB (bs : List Nat) (i : Nat) (T : FT) (dd : List D) (t : TDL) : TD := fun E Q => t E fun avs E1 => ∃ post ds E2 s, avs = .slot i :: post ∧ forces bs E1 post = some (ds, E2) ∧ E2[i]? = some s ∧ s.isM = true ∧
  T (s :: (ds ++ dd).map .dat) fun r E3 => ∀ s', E3[0]? = some s' → Q (.val r.data) (E2.set i s')
theorem callB_lift {dvs : List V} {dd : List D} (hdd : Dats X.K (fun _ => none) dvs dd) (σ : St) (H : Hp) (Q0 : VK) (h : lift X.K bs (dCallB bs i T dd t) σ H Q0) : tCall (FnSp X.K [0] T) dvs Ex (liftL X.K bs t) σ H Q0 := by
  obtain ⟨c, E, Q, ok, q, fi⟩ := h
  refine ⟨c, E, _, ok, q, fun avs E1 vs H1 ok1 s1 a1 ⟨post, ds, E2, s, ea, fo, e2, hs, z⟩ => ?_⟩
  subst ea
  cases vs with
  | nil => cases a1
  | cons w0 vs =>
  cases a1 with
  | cons b1 b2 =>
  obtain ⟨f1, f2, f3⟩ := forces_ok ok1 b2 fo
  have q2 := f3.append (hdd.consts (vis c σ E2 H1))
  obtain ⟨w, w1, w2⟩ := f1.slot i s e2
  have b1 : σ[i]? = some (some w0) := b1
  rw [b1] at w1
  cases w1
  have y : ∃ a, w0 = V.ref a := by
    cases s with
    | no => cases hs
    | dat d => cases hs
    | ml d =>
      obtain ⟨a, _, e, _⟩ := w2
      exact ⟨a, Option.some.inj e⟩
    | md d =>
      obtain ⟨a, _, e, _⟩ := w2
      exact ⟨a, Option.some.inj e⟩
  obtain ⟨a, rfl⟩ := y
  refine ⟨_, _, _, _, sub1_st f1 e2 hs b1 q2, z, fun v H' r E' ro hq => ?_⟩
  obtain ⟨s', g1, g2, g3, g4, g5⟩ := sub1_ret f1 e2 hs b1 ro
  exact fi (.val r.data) _ v H' g3 ((s1.trans f2).trans g4) g5 (hq s' g1)
theorem de_callB {dvs : List V} {dvl : List Value} {dd : List D} (F : FnOk X.prog X.w X.K X.mg X.base CX k f fd ps (FnSp X.K [0] T)) (hr : Room k X.A) (hg : Gl X x) (hm : X.mg x = some (.ref f)) (hk : PySem.W.keepIn X.K (.ref f) = true) (hb : Binds X.K fd ps dvl) (hd : Vals dvs dvl) (hdd : Dats X.K (fun _ => none) dvs dd) (hx : Passes CX X Ex)
    (ha : PA X (e :: es) (liftL X.K bs t)) (hdb : (x == ("__debug__" : Str)) = false := by decide) (he : starEach (e :: es) X.env = (false, eval e X.env) :: starEach es X.env := by rfl) (hpl : (backTo pos (starEach es X.env)).any (·.1) = false := by rfl) :
    PE X (.Call (.Name x p) (e :: es) [] pos) (lift X.K bs (dCallB bs i T dd t)) := (pe_call F hr hg hm hk hb hd hx ha hdb he hpl).imp (callB_lift hdd)
end

/-! ### operators by data -/
def rdI (C : Int → Int → Prop) (g : Int → Int → D) : RD2 := fun d e Q => ∃ i j, d = .int i ∧ e = .int j ∧ C i j ∧ Q (g i j)
def rdI0 (g : Int → Int → D) : RD2 := fun d e Q => ∃ i j, d = .int i ∧ e = .int j ∧ Q (g i j)
section
variable {K : PySem.W.Frag}
theorem ok_I {C : Int → Int → Prop} {g : Int → Int → Int} : R2Ok K (rI C fun i j => .int (g i j)) (rdI C fun i j => .int (g i j)) := fun G H x y d e QD Q0 s hx hy ⟨i, j, e1, e2, hc, q⟩ f => by
  subst e1 e2
  exact ⟨i, j, shal_int hx, shal_int hy, hc, f _ _ (.int _) q⟩
theorem ok_I0 {g : Int → Int → Int} : R2Ok K (rI0 fun i j => .int (g i j)) (rdI0 fun i j => .int (g i j)) := fun G H x y d e QD Q0 s hx hy ⟨i, j, e1, e2, q⟩ f => by
  subst e1 e2
  exact ⟨i, j, shal_int hx, shal_int hy, f _ _ (.int _) q⟩
theorem ok_B0 {g : Int → Int → Bool} : R2Ok K (rI0 fun i j => .bl (g i j)) (rdI0 fun i j => .bl (g i j)) := fun G H x y d e QD Q0 s hx hy ⟨i, j, e1, e2, q⟩ f => by
  subst e1 e2
  exact ⟨i, j, shal_int hx, shal_int hy, f _ _ (.bl _) q⟩
def rdSS (C : Str → Str → Prop) (g : Str → Str → D) : RD2 := fun d e Q => ∃ i j, d = .str i ∧ e = .str j ∧ C i j ∧ Q (g i j)
theorem ok_addS : R2Ok K (fun x y H Q => ∃ i j, x = .str i ∧ y = .str j ∧ i.length + j.length ≤ sizeLine ∧ Q (.str (i ++ j)) H) (rdSS (fun i j => i.length + j.length ≤ sizeLine) fun i j => .str (i ++ j)) := fun G H x y d e QD Q0 s hx hy ⟨i, j, e1, e2, hc, q⟩ f => by
  subst e1 e2
  exact ⟨i, j, shal_str hx, shal_str hy, hc, f _ _ (.str _) q⟩
/-- == of scalars -/
def eqS : D → D → Option Bool
  | .int i, .int j => some (decide (i = j))
  | .str i, .str j => some (decide (i = j))
  | .bl i, .bl j => some (decide (i = j))
  | .non, .non => some true
  | .non, .int _ => some false | .int _, .non => some false | .non, .str _ => some false | .str _, .non => some false | .non, .bl _ => some false | .bl _, .non => some false
  | .int _, .str _ => some false | .str _, .int _ => some false | .bl _, .str _ => some false | .str _, .bl _ => some false
  | _, _ => none
def rdEq : RD2 := fun d e Q => ∃ b, eqS d e = some b ∧ Q (.bl b)
def rdNe : RD2 := fun d e Q => ∃ b, eqS d e = some b ∧ Q (.bl (!b))
theorem eqS_ok {G H : Hp} {x y : V} {d e : D} {b : Bool} (hx : Shal K G H x d) (hy : Shal K G H y e) (h : eqS d e = some b) : scal x y = true ∧ decide (x = y) = b := by
  revert h
  cases d <;> cases e <;> intro h <;> first
    | (cases h; done)
    | skip
  all_goals first
    | (have e1 := shal_int hx; subst e1)
    | (have e1 := shal_str hx; subst e1)
    | (have e1 := shal_bl hx; subst e1)
    | (have e1 := shal_non hx; subst e1)
  all_goals first
    | (have e1 := shal_int hy; subst e1)
    | (have e1 := shal_str hy; subst e1)
    | (have e1 := shal_bl hy; subst e1)
    | (have e1 := shal_non hy; subst e1)
  all_goals (refine ⟨rfl, ?_⟩)
  all_goals first
    | (cases h; simp; done)
    | (cases h; rfl)
theorem ok_eq : R2Ok K rEq rdEq := fun G H x y d e QD Q0 s hx hy ⟨b, h, q⟩ f => by
  obtain ⟨h1, h2⟩ := eqS_ok hx hy h
  refine ⟨h1, ?_⟩
  rw [h2]
  exact f _ _ (.bl b) q
theorem ok_ne : R2Ok K rNe rdNe := fun G H x y d e QD Q0 s hx hy ⟨b, h, q⟩ f => by
  obtain ⟨h1, h2⟩ := eqS_ok hx hy h
  refine ⟨h1, ?_⟩
  rw [h2]
  exact f _ _ (.bl _) q
/-- an item -/
def ixD : D → Int → Option D
  | .lst ds, i => atI ds i
  | .tup ds, i => atI ds i
  | .scr ns, i => (atI ns i).map D.int
  | .str z, i => if z.length ≤ sizeLine then (atI z.cps.toList i).map fun n => .str ⟨#[n]⟩ else none
  | _, _ => none
def rdIx : RD2 := fun d e Q => ∃ i y, e = .int i ∧ ixD d i = some y ∧ Q y
theorem Dats.at_ {G : Hp} {vs : List V} {ds : List D} {i : Int} {y : D} (h : Dats K G vs ds) (e : atI ds i = some y) : ∃ v, atI vs i = some v ∧ Dat K G v y := by
  unfold atI at e ⊢
  rw [h.length]
  cases q : ixN ds.length i with
  | none =>
    rw [q] at e
    cases e
  | some j =>
    rw [q] at e
    exact h.get e
theorem ok_ix : R2Ok K (rIx K) rdIx := fun G H x y d e QD Q0 s hx hy ⟨i, z, e1, h, q⟩ f => by
  subst e1
  have ey := shal_int hy
  subst ey
  cases d with
  | lst ds =>
    obtain ⟨a, vs, rfl, h1, h2⟩ := hx
    obtain ⟨v, v1, v2⟩ := h2.at_ h
    exact .inl ⟨a, vs, i, v, rfl, rfl, SqL.of h1, v1, f _ _ v2 q⟩
  | tup ds =>
    cases (show Dat K G x (.tup ds) from hx) with
    | tup h1 h2 =>
      obtain ⟨v, v1, v2⟩ := h2.at_ h
      exact .inr (.inl ⟨_, _, i, v, rfl, rfl, SqT.of ((s _ _ h1).k nt_tup), v1, f _ _ v2 q⟩)
  | scr ns =>
    cases (show Dat K G x (.scr ns) from hx) with
    | scr h1 =>
      have h : (atI ns i).map D.int = some z := h
      cases hn : atI ns i with
      | none =>
        rw [hn] at h
        cases h
      | some n =>
        rw [hn] at h
        cases h
        refine .inl ⟨_, _, i, .int n, rfl, rfl, s.seq h1, ?_, f _ _ (.int n) q⟩
        unfold atI at hn ⊢
        rw [List.length_map]
        cases hj : ixN ns.length i with
        | none =>
          rw [hj] at hn
          cases hn
        | some j =>
          rw [hj] at hn
          have hn : ns[j]? = some n := hn
          show (ns.map V.int)[j]? = _
          rw [List.getElem?_map, hn]
          rfl
  | str w =>
    have ex := shal_str hx
    subst ex
    have h : (if w.length ≤ sizeLine then (atI w.cps.toList i).map fun n => D.str ⟨#[n]⟩ else none) = some z := h
    by_cases hl : w.length ≤ sizeLine
    · rw [if_pos hl] at h
      cases hn : atI w.cps.toList i with
      | none =>
        rw [hn] at h
        cases h
      | some n =>
        rw [hn] at h
        cases h
        exact .inr (.inr ⟨w, i, n, rfl, rfl, hl, hn, f _ _ (.str _) q⟩)
    · rw [if_neg hl] at h
      cases h
  | _ => cases h
end
end DL
set_option Elab.async false
set_option linter.all false
set_option autoImplicit false
set_option maxRecDepth 100000
/-! DL9: builtins, displays, slices, own objects' methods, more statements. -/
namespace DL
open PySem PySem.Spec L2
open PyProof.Rows hiding St
section
variable {K : PySem.W.Frag}
theorem shals_1 {G H : Hp} {vs : List V} {d : D} (h : Shals K G H vs [d]) : ∃ v, vs = [v] ∧ Shal K G H v d := by
  cases h with
  | cons h q =>
    cases q
    exact ⟨_, rfl, h⟩
theorem shals_2 {G H : Hp} {vs : List V} {d e : D} (h : Shals K G H vs [d, e]) : ∃ v w, vs = [v, w] ∧ Shal K G H v d ∧ Shal K G H w e := by
  cases h with
  | cons h q =>
    cases q with
    | cons h2 q =>
      cases q
      exact ⟨_, _, rfl, h, h2⟩
/-- how long data are -/
def lenD : D → Option Nat
  | .lst ds => some ds.length
  | .tup ds => some ds.length
  | .scr ns => some ns.length
  | .str z => if z.length ≤ sizeLine then some z.length else none
  | _ => none
def rdLen : RDC := fun ds Q => ∃ d n, ds = [d] ∧ lenD d = some n ∧ Q (.int (n : Nat))
theorem ok_len : RCOk K (fun xs H Q => ∃ x n, xs = [x] ∧ LenV K x H n ∧ Q (.int n) H) rdLen := fun G H xs ds QD Q0 s h ⟨d, n, e, l, q⟩ f => by
  subst e
  obtain ⟨v, rfl, hv⟩ := shals_1 h
  refine ⟨v, n, rfl, ?_, f _ _ (.int _) q⟩
  cases d with
  | lst ds =>
    obtain ⟨a, vs, rfl, h1, h2⟩ := hv
    cases l
    exact .inl ⟨vs, SqL.of h1, h2.length.symm⟩
  | tup ds =>
    cases (show Dat K G v (.tup ds) from hv) with
    | tup h1 h2 =>
      cases l
      exact .inr ⟨_, SqT.of ((s _ _ h1).k nt_tup), h2.length.symm⟩
  | scr ns =>
    cases (show Dat K G v (.scr ns) from hv) with
    | scr h1 =>
      cases l
      exact .inl ⟨_, s.seq h1, by rw [List.length_map]⟩
  | str z =>
    have e := shal_str hv
    subst e
    have l : (if z.length ≤ sizeLine then some z.length else none) = some n := l
    by_cases hl : z.length ≤ sizeLine
    · rw [if_pos hl] at l
      cases l
      exact ⟨hl, rfl⟩
    · rw [if_neg hl] at l
      cases l
  | _ => cases l
/-- a list of ints -/
def intsD : D → List Int → Prop := fun d ns => d = .lst (ns.map .int) ∨ d = .scr ns
theorem ints_ok {G H : Hp} {v : V} {d : D} {ns : List Int} (s : Same G H) (h : Shal K G H v d) (e : intsD d ns) : ∃ a, v = .ref a ∧ SqL K H a (ns.map V.int) := by
  rcases e with e | e
  · subst e
    obtain ⟨a, vs, rfl, h1, h2⟩ := h
    rw [h2.of_ints] at h1
    exact ⟨a, rfl, SqL.of h1⟩
  · subst e
    cases (show Dat K G v (.scr ns) from h) with
    | scr h1 => exact ⟨_, rfl, s.seq h1⟩
def rdSum : RDC := fun ds Q => ∃ d ns, ds = [d] ∧ intsD d ns ∧ Q (.int ns.sum)
theorem ok_sum : RCOk K (rSum K) rdSum := fun G H xs ds QD Q0 s h ⟨d, ns, e, i, q⟩ f => by
  subst e
  obtain ⟨v, rfl, hv⟩ := shals_1 h
  obtain ⟨a, rfl, ha⟩ := ints_ok s hv i
  exact ⟨a, ns, rfl, ha, f _ _ (.int _) q⟩
def rdMaxL : RDC := fun ds Q => ∃ d ns, ds = [d] ∧ intsD d ns ∧ 0 < ns.length ∧ ∀ m, m ∈ ns → (∀ y, y ∈ ns → y ≤ m) → Q (.int m)
theorem ok_maxL : RCOk K (rMax K) rdMaxL := fun G H xs ds QD Q0 s h ⟨d, ns, e, i, l, q⟩ f => by
  subst e
  obtain ⟨v, rfl, hv⟩ := shals_1 h
  obtain ⟨a, rfl, ha⟩ := ints_ok s hv i
  exact ⟨a, ns, rfl, ha, l, fun m h1 h2 => f _ _ (.int _) (q m h1 h2)⟩
def rdMinL : RDC := fun ds Q => ∃ d ns, ds = [d] ∧ intsD d ns ∧ 0 < ns.length ∧ ∀ m, m ∈ ns → (∀ y, y ∈ ns → m ≤ y) → Q (.int m)
theorem ok_minL : RCOk K (rMin K) rdMinL := fun G H xs ds QD Q0 s h ⟨d, ns, e, i, l, q⟩ f => by
  subst e
  obtain ⟨v, rfl, hv⟩ := shals_1 h
  obtain ⟨a, rfl, ha⟩ := ints_ok s hv i
  exact ⟨a, ns, rfl, ha, l, fun m h1 h2 => f _ _ (.int _) (q m h1 h2)⟩
theorem Dats.of_bls {G : Hp} : ∀ {ns : List Bool} {vs : List V}, Dats K G vs (ns.map D.bl) → vs = ns.map V.bl
  | [], _, .nil => rfl
  | n :: r, _, .cons h q => by
    cases h
    rw [Dats.of_bls q]
    rfl
def rdAll : RDC := fun ds Q => ∃ ns : List Bool, ds = [.lst (ns.map .bl)] ∧ Q (.bl (ns.all id))
theorem ok_all : RCOk K (rAll K) rdAll := fun G H xs ds QD Q0 s h ⟨ns, e, q⟩ f => by
  subst e
  obtain ⟨v, rfl, a, vs, rfl, h1, h2⟩ := shals_1 h
  rw [h2.of_bls] at h1
  exact ⟨a, ns, rfl, SqL.of h1, f _ _ (.bl _) q⟩
def rdAny : RDC := fun ds Q => ∃ ns : List Bool, ds = [.lst (ns.map .bl)] ∧ Q (.bl (ns.any id))
theorem ok_any : RCOk K (rAny K) rdAny := fun G H xs ds QD Q0 s h ⟨ns, e, q⟩ f => by
  subst e
  obtain ⟨v, rfl, a, vs, rfl, h1, h2⟩ := shals_1 h
  rw [h2.of_bls] at h1
  exact ⟨a, ns, rfl, SqL.of h1, f _ _ (.bl _) q⟩
def rdMax2 : RDC := fun ds Q => ∃ i j, ds = [.int i, .int j] ∧ Q (.int (if j > i then j else i))
theorem ok_max2 : RCOk K (fun xs H Q => ∃ i j, xs = [.int i, .int j] ∧ Q (.int (if j > i then j else i)) H) rdMax2 := fun G H xs ds QD Q0 s h ⟨i, j, e, q⟩ f => by
  subst e
  exact ⟨i, j, shals2 h, f _ _ (.int _) q⟩
def rdMin2 : RDC := fun ds Q => ∃ i j, ds = [.int i, .int j] ∧ Q (.int (if j < i then j else i))
theorem ok_min2 : RCOk K (fun xs H Q => ∃ i j, xs = [.int i, .int j] ∧ Q (.int (if j < i then j else i)) H) rdMin2 := fun G H xs ds QD Q0 s h ⟨i, j, e, q⟩ f => by
  subst e
  exact ⟨i, j, shals2 h, f _ _ (.int _) q⟩
def rdAbs : RDC := fun ds Q => ∃ i, ds = [.int i] ∧ Q (.int (if i < 0 then -i else i))
theorem ok_abs : RCOk K (fun xs H Q => ∃ i, xs = [.int i] ∧ Q (.int (if i < 0 then -i else i)) H) rdAbs := fun G H xs ds QD Q0 s h ⟨i, e, q⟩ f => by
  subst e
  exact ⟨i, shals1 h, f _ _ (.int _) q⟩
def rdInt1 : RDC := fun ds Q => (∃ i, ds = [.int i] ∧ Q (.int i)) ∨ ∃ k, ds = [.bl k] ∧ Q (.int (if k then 1 else 0))
theorem ok_int1 : RCOk K (fun xs H Q => (∃ i, xs = [.int i] ∧ Q (.int i) H) ∨ ∃ k, xs = [.bl k] ∧ Q (.int (if k then 1 else 0)) H) rdInt1 := fun G H xs ds QD Q0 s h e f => by
  rcases e with ⟨i, e, q⟩ | ⟨k, e, q⟩
  · subst e
    exact .inl ⟨i, shals1 h, f _ _ (.int _) q⟩
  · subst e
    obtain ⟨v, rfl, hv⟩ := shals_1 h
    have e := shal_bl hv
    subst e
    exact .inr ⟨k, rfl, f _ _ (.int _) q⟩
def rdStr1 : RDC := fun ds Q => ∃ i, ds = [.int i] ∧ i.natAbs.log2 < 1920 ∧ Q (.str (toString i))
theorem ok_str1 : RCOk K (fun xs H Q => ∃ i, xs = [.int i] ∧ i.natAbs.log2 < 1920 ∧ Q (.str (toString i)) H) rdStr1 := fun G H xs ds QD Q0 s h ⟨i, e, l, q⟩ f => by
  subst e
  exact ⟨i, shals1 h, l, f _ _ (.str _) q⟩
/-- the class of data, as isinstance asks it of built-in classes -/
def tyD : D → Option String
  | .non => some "NoneType"
  | .bl _ => some "bool"
  | .int _ => some "int"
  | .str _ => some "str"
  | .lst _ => some "list"
  | .tup _ => some "tuple"
  | .dct _ => some "dict"
  | _ => none
theorem ty_ok {G H : Hp} {v : V} {d : D} {t : String} (s : Same G H) (h : Shal K G H v d) (e : tyD d = some t) : TyX K H v (.type t) := by
  cases d with
  | non =>
    cases e
    rw [shal_non h]
    exact .base .non
  | bl b =>
    cases e
    rw [shal_bl h]
    exact .base (.bl _)
  | int b =>
    cases e
    rw [shal_int h]
    exact .base (.int _)
  | str b =>
    cases e
    rw [shal_str h]
    exact .base (.str _)
  | lst ds =>
    cases e
    obtain ⟨a, vs, rfl, h1, _⟩ := h
    exact .base (.lst h1)
  | tup ds =>
    cases e
    cases (show Dat K G v (.tup ds) from h) with
    | tup h1 _ => exact .base (.tup ((s _ _ h1).k nt_tup))
  | dct ds =>
    cases e
    obtain ⟨a, vs, rfl, h1, _⟩ := h
    exact .base (.dK h1)
  | _ => cases e
def rdIsi : RDC := fun ds Q => ∃ d n t b, ds = [d, .raw (.ty n)] ∧ tyD d = some t ∧ kitB t n = some b ∧ Q (.bl b)
theorem ok_isi : RCOk K (rIsi K) rdIsi := fun G H xs ds QD Q0 s h ⟨d, n, t, b, e, ht, hk, q⟩ f => by
  subst e
  obtain ⟨v, w, rfl, h1, h2⟩ := shals_2 h
  have e := shal_raw h2
  subst e
  exact ⟨v, _, .type t, _, b, rfl, .ty n, ty_ok s h1 ht, kit_ty hk, f _ _ (.bl b) q⟩
/-- a sign in a text -/
def rdInSign (neg : Bool) : RD2 := fun d e Q => ∃ (n : Nat) (z : Str), d = .str ⟨#[n]⟩ ∧ e = .str z ∧ Q (.bl (if neg then !decide (n ∈ z.cps.toList) else decide (n ∈ z.cps.toList)))
theorem ok_inSign : R2Ok K (fun x y H Q => ∃ (c : Nat) (z : Str), x = .str ⟨#[c]⟩ ∧ y = .str z ∧ Q (.bl (decide (c ∈ z.cps.toList))) H) (rdInSign false) := fun G H x y d e QD Q0 s hx hy ⟨n, z, e1, e2, q⟩ f => by
  subst e1 e2
  exact ⟨n, z, shal_str hx, shal_str hy, f _ _ (.bl _) q⟩
theorem ok_notInSign : R2Ok K (fun x y H Q => ∃ (c : Nat) (z : Str), x = .str ⟨#[c]⟩ ∧ y = .str z ∧ Q (.bl (!decide (c ∈ z.cps.toList))) H) (rdInSign true) := fun G H x y d e QD Q0 s hx hy ⟨n, z, e1, e2, q⟩ f => by
  subst e1 e2
  exact ⟨n, z, shal_str hx, shal_str hy, f _ _ (.bl _) q⟩
/-- an int in a list of ints -/
def rdInInts (neg : Bool) : RD2 := fun d e Q => ∃ (n : Int) (ns : List Int), d = .int n ∧ intsD e ns ∧ Q (.bl (if neg then !decide (n ∈ ns) else decide (n ∈ ns)))
theorem inV_ints {n : Int} {ns : List Int} : inV (.int n) (ns.map V.int) = decide (n ∈ ns) := by
  unfold inV
  rw [List.any_map, Bool.eq_iff_iff, List.any_eq_true, decide_eq_true_iff]
  constructor
  · rintro ⟨m, h1, h2⟩
    have e : m = n := by
      have h2 : eqV (.int m) (.int n) = true := h2
      simpa [eqV] using h2
    rw [← e]
    exact h1
  · intro h
    refine ⟨n, h, ?_⟩
    show eqV (.int n) (.int n) = true
    simp [eqV]
theorem flat_ints {ns : List Int} : (ns.map V.int).all flatV = true := by
  rw [List.all_map, List.all_eq_true]
  intro x _
  rfl
theorem ok_inInts {neg : Bool} : R2Ok K (rIn K neg) (rdInInts neg) := fun G H x y d e QD Q0 s hx hy ⟨n, ns, e1, e2, q⟩ f => by
  subst e1
  have ex := shal_int hx
  subst ex
  obtain ⟨a, rfl, ha⟩ := ints_ok s hy e2
  refine ⟨a, _, rfl, .inl ha, rfl, flat_ints, ?_⟩
  rw [inV_ints]
  exact f _ _ (.bl _) q
end
section
variable {X : Cx} {bs : List Nat} {e : Expr} {es : List Expr} {te : TD} {t : TDL} {pos p : Pos}
/-! displays -/
theorem dats_len {K : PySem.W.Frag} {G : Hp} {vs : List V} {ds : List D} (h : Dats K G vs ds) : vs.length = ds.length := h.length
def dTup (bs : List Nat) (t : TDL) : TD := fun E Q => t E fun avs E1 => ∃ ds E2, forces bs E1 avs = some (ds, E2) ∧ ds.length ≤ sizeLine ∧ Q (.val (.tup ds)) E2
theorem de_tup {k : Nat} (h : PA X es (liftL X.K bs t)) : PE X (.Tuple es k pos) (lift X.K bs (dTup bs t)) := (pe_tup h).imp fun σ H Q0 ⟨c, E, Q, ok, q, f⟩ =>
  ⟨c, E, _, ok, q, fun avs E1 vs H1 ok1 s1 a1 ⟨ds, E2, fo, hl, z⟩ => by
    obtain ⟨f1, f2, f3⟩ := forces_ok ok1 a1 fo
    refine ⟨by rw [f3.length]; exact hl, fun p np => ?_⟩
    have sm := same_upd0 (o := .tup vs) np
    refine f (.val (.tup ds)) E2 (.ref p) _ (f1.growF sm) ((s1.trans f2).trans ⟨vis_grow (.of sm), fun b e => ?_⟩) (tup_new f1 np f3) z
    obtain ⟨o, eo, _⟩ := f1.hidP b e
    rw [eo, sm _ _ eo]⟩
theorem own_step {K : PySem.W.Frag} {c : Ct} {σ : St} {E : DEnv} {H : Hp} {p : Addr} {vs : List V} (h : StOk K bs c σ H E) (n : H p = none) (s : Same (vis c σ E H) (vis (c.hide p) σ E (upd H p (.lst vs)))) : Step c (c.hide p) σ E H E (upd H p (.lst vs)) := ⟨s, fun b e => by
  obtain ⟨o, eo, _⟩ := h.hidP b e
  rw [eo, same_upd0 n _ _ eo]⟩
def dLst (bs : List Nat) (t : TDL) : TDO := fun E Q => t E fun avs E1 => ∃ ds E2, forces bs E1 avs = some (ds, E2) ∧ ds.length ≤ sizeLine ∧ Q ds E2
theorem de_lst (h : PA X es (liftL X.K bs t)) : PE X (.List es pos) (liftO X.K bs (dLst bs t)) := (pe_lst h).imp fun σ H Q0 ⟨c, E, Q, ok, q, f⟩ =>
  ⟨c, E, _, ok, q, fun avs E1 vs H1 ok1 s1 a1 ⟨ds, E2, fo, hl, z⟩ => by
    obtain ⟨f1, f2, f3⟩ := forces_ok ok1 a1 fo
    refine ⟨by rw [f3.length]; exact hl, fun p np => ?_⟩
    obtain ⟨o1, o2, o3⟩ := mk_own f1 np f3
    exact f ds E2 (.ref p) _ p vs o1 o2 ((s1.trans f2).trans (own_step f1 np o3)) z⟩
/-! slices of texts, of lists -/
abbrev TDP := DEnv → (Option Int → DEnv → Prop) → Prop
def liftP (K : PySem.W.Frag) (bs : List Nat) (t : TDP) : TO := fun σ H Q0 => ∃ (c : Ct) (E : DEnv) (Q : Option Int → DEnv → Prop), StOk K bs c σ H E ∧ t E Q ∧
  ∀ o E' H', StOk K bs c σ H' E' → Step c c σ E H E' H' → Q o E' → Q0 o H'
theorem _root_.L2.PO.imp {X : Cx} {e : Option Expr} {t u : TO} (h : PO X e t) (w : ∀ σ H Q, u σ H Q → t σ H Q) : PO X e u := ⟨fun pins s σ H Q I q => h.run pins s σ H Q I (w σ H Q q)⟩
def dNoPart : TDP := fun E Q => Q none E
def dPart (te : TD) : TDP := fun E Q => te E fun av E1 => ∃ i, look E1 av = some (.int i) ∧ Q (some i) E1
theorem dp_none : PO X none (liftP X.K bs dNoPart) := po_none.imp fun σ H Q0 ⟨c, E, Q, ok, q, f⟩ => f none E H ok Step.refl q
theorem dp_some (h : PE X e (lift X.K bs te)) : PO X (some e) (liftP X.K bs (dPart te)) := (po_some h).imp fun σ H Q0 ⟨c, E, Q, ok, q, f⟩ =>
  ⟨c, E, _, ok, q, fun av E1 v H1 ok1 s1 a1 ⟨i, l, z⟩ => ⟨i, shal_int (look_ok ok1 a1 l), f _ E1 H1 ok1 s1 z⟩⟩
def cutD (xs : List D) (lo hi : Option Int) : List D := (xs.drop (HT.sIx xs.length 0 lo)).take (HT.sIx xs.length xs.length hi - HT.sIx xs.length 0 lo)
variable {lo hi : Option Expr} {tl th : TDP} {p2 : Pos}
def dSlL (te : TD) (tl th : TDP) : TDO := fun E Q => te E fun av E1 => tl E1 fun l E2 => th E2 fun u E3 => ∃ d ds, look E3 av = some d ∧ itemsOf d = some ds ∧ Q (cutD ds l u) E3
theorem items_shal {K : PySem.W.Frag} {G H : Hp} {v : V} {d : D} {ds : List D} (s : Same G H) (h : Shal K G H v d) (e : itemsOf d = some ds) : ∃ a vs, v = .ref a ∧ SqL K H a vs ∧ Dats K G vs ds := by
  cases d with
  | lst es =>
    cases e
    obtain ⟨a, vs, rfl, h1, h2⟩ := h
    exact ⟨a, vs, rfl, SqL.of h1, h2⟩
  | scr ns =>
    cases e
    cases (show Dat K G v (.scr ns) from h) with
    | scr h1 => exact ⟨_, _, rfl, s.seq h1, Dats.ints _⟩
  | _ => cases e
theorem de_slL (he : PE X e (lift X.K bs te)) (hl : PO X lo (liftP X.K bs tl)) (hh : PO X hi (liftP X.K bs th)) : PE X (.Subscript e (.Slice lo hi none p2) pos) (liftO X.K bs (dSlL te tl th)) :=
  (pe_slice sl_list he hl hh).imp fun σ H Q0 ⟨c, E, Q, ok, q, f⟩ => ⟨c, E, _, ok, q, fun av E1 v H1 ok1 s1 a1 q1 => ⟨c, E1, _, ok1, q1, fun l E2 H2 ok2 s2 q2 => ⟨c, E2, _, ok2, q2, fun u E3 H3 ok3 s3 ⟨d, ds, lk, it, z⟩ => by
    obtain ⟨a, vs, rfl, h1, h2⟩ := items_shal vis_le (look_ok ok3 ((a1.mono s2).mono s3) lk) it
    refine ⟨a, vs, rfl, h1, fun p np => ?_⟩
    have q3 : Dats X.K (vis c σ E3 H3) (cutV vs l u) (cutD ds l u) := by
      unfold cutV cutD
      rw [h2.length]
      exact (h2.drop _).take _
    obtain ⟨o1, o2, o3⟩ := mk_own ok3 np q3
    exact f _ E3 (.ref p) _ p _ o1 o2 (((s1.trans s2).trans s3).trans (own_step ok3 np o3)) z⟩⟩⟩
def dSlS (te : TD) (tl th : TDP) : TD := fun E Q => te E fun av E1 => tl E1 fun l E2 => th E2 fun u E3 => ∃ x, look E3 av = some (.str x) ∧ x.length ≤ sizeLine ∧ Q (.val (.str (cutS x l u))) E3
theorem de_slS (he : PE X e (lift X.K bs te)) (hl : PO X lo (liftP X.K bs tl)) (hh : PO X hi (liftP X.K bs th)) : PE X (.Subscript e (.Slice lo hi none p2) pos) (lift X.K bs (dSlS te tl th)) :=
  (pe_slice sl_str he hl hh).imp fun σ H Q0 ⟨c, E, Q, ok, q, f⟩ => ⟨c, E, _, ok, q, fun av E1 v H1 ok1 s1 a1 q1 => ⟨c, E1, _, ok1, q1, fun l E2 H2 ok2 s2 q2 => ⟨c, E2, _, ok2, q2, fun u E3 H3 ok3 s3 ⟨x, lk, hl, z⟩ => by
    exact ⟨x, shal_str (look_ok ok3 ((a1.mono s2).mono s3) lk), hl, f (.val (.str _)) E3 _ H3 ok3 ((s1.trans s2).trans s3) (.str _) z⟩⟩⟩⟩
/-! list(x), x + y (lists) -/
def dListOf (te : TD) : TDO := fun E Q => te E fun av E1 => ∃ d ds, look E1 av = some d ∧ (itemsOf d = some ds ∨ d = .tup ds) ∧ Q ds E1
theorem de_listOf (hg : Gl X "list") (hm : X.mg "list" = none) (he : PE X e (lift X.K bs te)) (hs : starEach (e :: []) X.env = (false, eval e X.env) :: starEach [] X.env := by rfl) (hpl : (backTo pos (starEach [] X.env)).any (·.1) = false := by rfl) : PE X (.Call (.Name "list" p) [e] [] pos) (liftO X.K bs (dListOf te)) :=
  (pe_callTy call_list_of hg hm (by decide +kernel) (pa_cons he pa_nil hs) (by decide) (by decide) hs hpl).imp fun σ H Q0 ⟨c, E, Q, ok, q, f⟩ => ⟨c, E, _, ok, q, fun av E1 v H1 ok1 s1 a1 ⟨d, ds, lk, it, z⟩ => by
    have sh := look_ok ok1 a1 lk
    rcases it with it | it
    · obtain ⟨a, vs, rfl, h1, h2⟩ := items_shal vis_le sh it
      refine ⟨a, vs, rfl, .inl h1, fun p np => ?_⟩
      obtain ⟨o1, o2, o3⟩ := mk_own ok1 np h2
      exact f _ E1 (.ref p) _ p _ o1 o2 (s1.trans (own_step ok1 np o3)) z
    · subst it
      cases (show Dat X.K (vis c σ E1 H1) v (.tup ds) from sh) with
      | tup h1 h2 =>
        refine ⟨_, _, rfl, .inr (SqT.of ((vis_le _ _ h1).k nt_tup)), fun p np => ?_⟩
        obtain ⟨o1, o2, o3⟩ := mk_own ok1 np h2
        exact f _ E1 (.ref p) _ p _ o1 o2 (s1.trans (own_step ok1 np o3)) z⟩
def dCat (ta tb : TD) : TDO := fun E Q => ta E fun x E1 => tb E1 fun y E2 => ∃ ds es, look E2 x = some (.lst ds) ∧ look E2 y = some (.lst es) ∧ ds.length + es.length ≤ sizeLine ∧ Q (ds ++ es) E2
theorem de_cat {a b : Expr} {ta tb : TD} (ha : PE X a (lift X.K bs ta)) (hb : PE X b (lift X.K bs tb)) : PE X (.BinOp a .Add b pos) (liftO X.K bs (dCat ta tb)) := (pe_op op_cat ha hb).imp fun σ H Q0 ⟨c, E, Q, ok, q, f⟩ =>
  ⟨c, E, _, ok, q, fun av E1 v H1 ok1 s1 a1 q1 => ⟨c, E1, _, ok1, q1, fun bv E2 w H2 ok2 s2 a2 ⟨ds, es, l1, l2, hz, z⟩ => by
    obtain ⟨a, vs, rfl, h1, h2⟩ := look_ok ok2 (a1.mono s2) l1
    obtain ⟨b, ws, rfl, h3, h4⟩ := look_ok ok2 a2 l2
    refine ⟨a, b, vs, ws, rfl, rfl, h1, h3, by rw [h2.length, h4.length]; exact hz, fun p np => ?_⟩
    obtain ⟨o1, o2, o3⟩ := mk_own ok2 np (h2.append h4)
    exact f _ E2 (.ref p) _ p _ o1 o2 ((s1.trans s2).trans (own_step ok2 np o3)) z⟩⟩
/-! list(range(..)) -/
abbrev TDR := DEnv → (Int → Int → DEnv → Prop) → Prop
def liftR (K : PySem.W.Frag) (bs : List Nat) (t : TDR) : St → Hp → (Int → Int → Hp → Prop) → Prop := fun σ H Q0 => ∃ (c : Ct) (E : DEnv) (Q : Int → Int → DEnv → Prop), StOk K bs c σ H E ∧ t E Q ∧
  ∀ i j E' H', StOk K bs c σ H' E' → Step c c σ E H E' H' → Q i j E' → Q0 i j H'
theorem PRg.imp {e : Expr} {t u : St → Hp → (Int → Int → Hp → Prop) → Prop} (h : PRg X e t) (w : ∀ σ H Q, u σ H Q → t σ H Q) : PRg X e u := fun pins s σ H Q I q => h pins s σ H Q I (w σ H Q q)
def dRg1 (te : TD) : TDR := fun E Q => te E fun av E1 => ∃ n, look E1 av = some (.int n) ∧ Q 0 n E1
theorem drg_1 (hg : Gl X "range") (hm : X.mg "range" = none) (he : PE X e (lift X.K bs te)) (na : starEach [e] X.env = (false, eval e X.env) :: starEach [] X.env := by rfl) : PRg X (.Call (.Name "range" p) [e] [] pos) (liftR X.K bs (dRg1 te)) :=
  PRg.imp (prg_1 hg hm he na) fun σ H Q0 ⟨c, E, Q, ok, q, f⟩ => ⟨c, E, _, ok, q, fun av E1 v H1 ok1 s1 a1 ⟨n, lk, z⟩ => ⟨n, shal_int (look_ok ok1 a1 lk), f _ _ E1 H1 ok1 s1 z⟩⟩
def dListRg (tr : TDR) : TDO := fun E Q => tr E fun a b E1 => RgOk a b ∧ Q (rangeD a (b - a).toNat) E1
theorem de_listRg {tr : TDR} (hc : X.calm = true) (hg : Gl X "list") (hm : X.mg "list" = none) (he : PRg X e (liftR X.K bs tr)) (na : starEach [e] X.env = (false, eval e X.env) :: starEach [] X.env := by rfl) : PE X (.Call (.Name "list" p) [e] [] pos) (liftO X.K bs (dListRg tr)) :=
  (pe_listRg hc hg hm he na).imp fun σ H Q0 ⟨c, E, Q, ok, q, f⟩ => ⟨c, E, _, ok, q, fun a b E1 H1 ok1 s1 ⟨hr, z⟩ => ⟨hr, fun p np => by
    have q3 : Dats X.K (vis c σ E1 H1) (rgV a b) (rangeD a (b - a).toNat) := by
      unfold rgV rangeD
      have : ∀ l : List Nat, Dats X.K (vis c σ E1 H1) (l.map fun i => V.int (a + (i : Nat))) (l.map fun i => D.int (a + (i : Nat))) := fun l => by
        induction l with
        | nil => exact .nil
        | cons x r ih => exact .cons (.int _) ih
      exact this _
    obtain ⟨o1, o2, o3⟩ := mk_own ok1 np q3
    exact f _ E1 (.ref p) _ p _ o1 o2 (s1.trans (own_step ok1 np o3)) z⟩⟩
/-! sep.join(texts) -/
theorem Dats.of_strs {K : PySem.W.Frag} {G : Hp} : ∀ {ns : List Str} {vs : List V}, Dats K G vs (ns.map D.str) → vs = ns.map V.str
  | [], _, .nil => rfl
  | n :: r, _, .cons h q => by
    cases h
    rw [Dats.of_strs q]
    rfl
end
end DL
set_option Elab.async false
set_option linter.all false
set_option autoImplicit false
set_option maxRecDepth 100000
/-! DL10: own lists and dicts changed by statements and methods; join; data ==. -/
namespace DL
open PySem PySem.Spec L2
open PyProof.Rows hiding St
/-- what a[i] reads of a list, by values -/
theorem pget_list {X : Cx} : PGet X (rIxL X.K) := by
  intro pins s σ H o i ov iv Q I rx ry h
  obtain ⟨p, xs, k, z, rfl, rfl, hq, he, q⟩ := h
  cases rx
  obtain ⟨t, rfl⟩ := ry
  obtain ⟨its, r, pl, hz⟩ := I.list hq
  obtain ⟨j, h1, h2, h3, h4, h5⟩ := atI_get he
  obtain ⟨w, ew, rw'⟩ := r.get h2
  have hl := r.length
  have hn := line63
  have fin : EP X pins σ Q w s := ⟨z, H, I, rw', q⟩
  by_cases h0 : 0 ≤ k
  · have hj : k.toNat = j := by
      rw [seqIndex_of h0 h5] at h1
      exact Option.some.inj h1
    exact wpAny_getItem_list pl.isList h0 (by omega) (by rw [hj]; simpa using ew) fin
  · have hj : (k + (its.toArray.size : Int)).toNat = j := by
      rw [seqIndex_neg (by omega) h4] at h1
      rw [List.size_toArray, ← hl]
      exact Option.some.inj h1
    exact wpAny_getItem_list_neg pl.isList (by omega) (by rw [List.size_toArray] <;> omega) (by omega) (by rw [hj]; simpa using ew) fin
def keyD : Key → D
  | .inl i => .int i
  | .inr x => .str x
def valD (kvs : List (Key × D)) (k : Key) : Option D := (kvs.find? fun kv => decide (kv.1 = k)).map (·.2)
def putD (kvs : List (Key × D)) (k : Key) (v : D) : List (Key × D) :=
  if (kvs.any fun kv => decide (kv.1 = k)) = true then kvs.map (fun kv => if kv.1 = k then (kv.1, v) else kv) else kvs ++ [(k, v)]
section
variable {K : PySem.W.Frag} {G : Hp}
theorem key_ok {H : Hp} {v : V} {k : Key} (h : Shal K G H v (keyD k)) : v = kV k := by
  cases k with
  | inl i => exact shal_int h
  | inr x => exact shal_str h
theorem DatK.length : ∀ {vs : List (Key × V)} {ds : List (Key × D)}, DatK K G vs ds → vs.length = ds.length
  | _, _, .nil => rfl
  | _, _, .cons _ q => congrArg (· + 1) (DatK.length q)
theorem DatK.keys : ∀ {vs : List (Key × V)} {ds : List (Key × D)}, DatK K G vs ds → vs.map (·.1) = ds.map (·.1)
  | _, _, .nil => rfl
  | _, _, .cons _ q => congrArg (List.cons _) (DatK.keys q)
theorem DatK.val {k : Key} : ∀ {vs : List (Key × V)} {ds : List (Key × D)}, DatK K G vs ds → (valV vs k = none ∧ valD ds k = none) ∨ ∃ v d, valV vs k = some v ∧ valD ds k = some d ∧ Dat K G v d
  | _, _, .nil => .inl ⟨rfl, rfl⟩
  | (f, v) :: vs, (_, d) :: ds, .cons h q => by
    by_cases e : f = k
    · refine .inr ⟨v, d, ?_, ?_, h⟩
      · simp [valV, List.find?_cons, e]
      · simp [valD, List.find?_cons, e]
    · have e1 : valV ((f, v) :: vs) k = valV vs k := by simp [valV, List.find?_cons, e]
      have e2 : valD ((f, d) :: ds) k = valD ds k := by simp [valD, List.find?_cons, e]
      rw [e1, e2]
      exact DatK.val q
theorem DatK.any {k : Key} : ∀ {vs : List (Key × V)} {ds : List (Key × D)}, DatK K G vs ds → (vs.any fun kv => decide (kv.1 = k)) = ds.any fun kv => decide (kv.1 = k)
  | _, _, .nil => rfl
  | _, _, .cons h q => by
    rw [List.any_cons, List.any_cons, DatK.any q]
theorem DatK.append : ∀ {vs ws : List (Key × V)} {ds es : List (Key × D)}, DatK K G vs ds → DatK K G ws es → DatK K G (vs ++ ws) (ds ++ es)
  | _, _, _, _, .nil, q => q
  | _, _, _, _, .cons h r, q => .cons h (DatK.append r q)
theorem DatK.over {k : Key} {v : V} {d : D} (hd : Dat K G v d) : ∀ {vs : List (Key × V)} {ds : List (Key × D)}, DatK K G vs ds → DatK K G (vs.map fun kv => if kv.1 = k then (kv.1, v) else kv) (ds.map fun kv => if kv.1 = k then (kv.1, d) else kv)
  | _, _, .nil => .nil
  | (f, u) :: vs, (_, e) :: ds, .cons h q => by
    rw [List.map_cons, List.map_cons]
    by_cases e1 : f = k
    · rw [if_pos e1, if_pos e1]
      exact .cons hd (DatK.over hd q)
    · rw [if_neg e1, if_neg e1]
      exact .cons h (DatK.over hd q)
theorem DatK.put {k : Key} {v : V} {d : D} {vs : List (Key × V)} {ds : List (Key × D)} (h : DatK K G vs ds) (hd : Dat K G v d) : DatK K G (putK vs k v) (putD ds k d) := by
  unfold putK putD
  rw [h.any]
  split
  · exact DatK.over hd h
  · exact h.append (.cons hd .nil)
end
section
variable {X : Cx} {bs : List Nat} {e i o : Expr} {es : List Expr} {te ti to ty td tv : TD} {t : TDL} {pos p pos' tpos apos cpos : Pos} {s : Nat} {x : Str}
/-! dicts read -/
theorem _root_.L2.PC.imp {X : Cx} {op : CmpOp} {a b : Expr} {t u : TE} (h : PC X op a b t) (w : ∀ σ H Q, u σ H Q → t σ H Q) : PC X op a b u := ⟨fun pins s σ H Q I q => h.run pins s σ H Q I (w σ H Q q)⟩
def dDIn (neg : Bool) (ty td : TD) : TD := fun E Q => ty E fun y E1 => td E1 fun x E2 => ∃ k kvs, look E2 y = some (keyD k) ∧ look E2 x = some (.dct kvs) ∧ Q (.val (.bl (if neg then !(valD kvs k).isSome else (valD kvs k).isSome))) E2
theorem dget_ok {K : PySem.W.Frag} {G H : Hp} {v w : V} {kvs : List (Key × D)} {k : Key} (hx : Shal K G H w (.dct kvs)) (hy : Shal K G H v (keyD k)) : ∃ a r, w = .ref a ∧ DGet H a v r ∧ ((r = none ∧ valD kvs k = none) ∨ ∃ z d, r = some z ∧ valD kvs k = some d ∧ Dat K G z d) := by
  obtain ⟨a, ws, rfl, h1, h2⟩ := hx
  rw [key_ok hy]
  refine ⟨a, _, rfl, DGet.k h1, ?_⟩
  rcases h2.val (k := k) with ⟨e1, e2⟩ | ⟨z, d, e1, e2, e3⟩
  · exact .inl ⟨e1, e2⟩
  · exact .inr ⟨z, d, e1, e2, e3⟩
theorem dc_din (hu : X.A.units + 1 < cLine) (hi : PE X i (lift X.K bs ty)) (ho : PE X o (lift X.K bs td)) : PC X .In i o (lift X.K bs (dDIn false ty td)) :=
  (pc_din hu hi ho).imp fun σ H Q0 ⟨c, E, Q, ok, q, f⟩ => ⟨c, E, _, ok, q, fun av E1 v H1 ok1 s1 a1 q1 => ⟨c, E1, _, ok1, q1, fun bv E2 w H2 ok2 s2 a2 ⟨k, kvs, l1, l2, z⟩ => by
    obtain ⟨a, r, rfl, g, h⟩ := dget_ok (look_ok ok2 a2 l2) (look_ok ok2 (a1.mono s2) l1)
    refine ⟨a, r, rfl, g, ?_⟩
    have e : r.isSome = (valD kvs k).isSome := by
      rcases h with ⟨e1, e2⟩ | ⟨z, d, e1, e2, _⟩
      · rw [e1, e2]
        rfl
      · rw [e1, e2]
        rfl
    rw [e]
    exact f (.val (.bl _)) E2 _ H2 ok2 (s1.trans s2) (.bl _) z⟩⟩
theorem de_din (hu : X.A.units + 1 < cLine) (hi : PE X i (lift X.K bs ty)) (ho : PE X o (lift X.K bs td)) (hm : behindInMarks .In o = false := by rfl) : PE X (.Compare i [.In] [o] pos) (lift X.K bs (dDIn false ty td)) := pe_cmp (dc_din hu hi ho) hm
theorem dt_din (hu : X.A.units + 1 < cLine) (hi : PE X i (lift X.K bs ty)) (ho : PE X o (lift X.K bs td)) (hm : behindInMarks .In o = false := by rfl) : PT X (.Compare i [.In] [o] pos) (liftB X.K bs (dTest (dDIn false ty td))) :=
  (pt_cmp (dc_din hu hi ho) hm).imp fun σ H Q0 ⟨c, E, Q, ok, q, f⟩ => ⟨c, E, _, ok, q, fun av E1 v H1 ok1 s1 a1 ⟨b, l, z⟩ => ⟨b, shal_bl (look_ok ok1 a1 l), f _ _ H1 ok1 s1 z⟩⟩
theorem dc_dnotin (hu : X.A.units + 1 < cLine) (hi : PE X i (lift X.K bs ty)) (ho : PE X o (lift X.K bs td)) : PC X .NotIn i o (lift X.K bs (dDIn true ty td)) :=
  (pc_dnotin hu hi ho).imp fun σ H Q0 ⟨c, E, Q, ok, q, f⟩ => ⟨c, E, _, ok, q, fun av E1 v H1 ok1 s1 a1 q1 => ⟨c, E1, _, ok1, q1, fun bv E2 w H2 ok2 s2 a2 ⟨k, kvs, l1, l2, z⟩ => by
    obtain ⟨a, r, rfl, g, h⟩ := dget_ok (look_ok ok2 a2 l2) (look_ok ok2 (a1.mono s2) l1)
    refine ⟨a, r, rfl, g, ?_⟩
    have e : r.isSome = (valD kvs k).isSome := by
      rcases h with ⟨e1, e2⟩ | ⟨z, d, e1, e2, _⟩
      · rw [e1, e2]
        rfl
      · rw [e1, e2]
        rfl
    rw [e]
    exact f (.val (.bl _)) E2 _ H2 ok2 (s1.trans s2) (.bl _) z⟩⟩
theorem de_dnotin (hu : X.A.units + 1 < cLine) (hi : PE X i (lift X.K bs ty)) (ho : PE X o (lift X.K bs td)) (hm : behindInMarks .NotIn o = false := by rfl) : PE X (.Compare i [.NotIn] [o] pos) (lift X.K bs (dDIn true ty td)) := pe_cmp (dc_dnotin hu hi ho) hm
theorem dt_dnotin (hu : X.A.units + 1 < cLine) (hi : PE X i (lift X.K bs ty)) (ho : PE X o (lift X.K bs td)) (hm : behindInMarks .NotIn o = false := by rfl) : PT X (.Compare i [.NotIn] [o] pos) (liftB X.K bs (dTest (dDIn true ty td))) :=
  (pt_cmp (dc_dnotin hu hi ho) hm).imp fun σ H Q0 ⟨c, E, Q, ok, q, f⟩ => ⟨c, E, _, ok, q, fun av E1 v H1 ok1 s1 a1 ⟨b, l, z⟩ => ⟨b, shal_bl (look_ok ok1 a1 l), f _ _ H1 ok1 s1 z⟩⟩
def dDGet (td ty : TD) : TD := fun E Q => td E fun x E1 => ty E1 fun y E2 => ∃ k kvs d, look E2 y = some (keyD k) ∧ look E2 x = some (.dct kvs) ∧ valD kvs k = some d ∧ Q (.val d) E2
theorem de_dget (hu : X.A.units + 1 < cLine) (ho : PE X o (lift X.K bs td)) (hi : PE X i (lift X.K bs ty)) (hs : NoSl i := by exact fun _ _ => rfl) : PE X (.Subscript o i pos) (lift X.K bs (dDGet td ty)) :=
  (pe_dget hu ho hi hs).imp fun σ H Q0 ⟨c, E, Q, ok, q, f⟩ => ⟨c, E, _, ok, q, fun av E1 v H1 ok1 s1 a1 q1 => ⟨c, E1, _, ok1, q1, fun bv E2 w H2 ok2 s2 a2 ⟨k, kvs, d, l1, l2, l3, z⟩ => by
    obtain ⟨a, r, rfl, g, h⟩ := dget_ok (look_ok ok2 (a1.mono s2) l2) (look_ok ok2 a2 l1)
    rcases h with ⟨e1, e2⟩ | ⟨u, d', e1, e2, e3⟩
    · rw [e2] at l3
      cases l3
    · rw [e2] at l3
      cases l3
      subst e1
      exact ⟨a, u, rfl, g, f (.val d) E2 _ H2 ok2 (s1.trans s2) e3 z⟩⟩⟩
/-! a slot takes a new own object -/
theorem StOk.take_own {K : PySem.W.Frag} {c : Ct} {σ : St} {H : Hp} {E : DEnv} {a : Addr} {i : Nat} {s : Sl} {ob : HO} (st : StOk K bs (c.hide a) σ H E) (at_ : H a = some ob) (hs : s.isM = true) (n : ¬ c.P a) (hi : i ∉ bs) (hl : i < E.length)
    (q : Same (vis (c.hide a) σ E H) (vis c (σ.set i (some (.ref a))) (E.set i s) H) → SlOk K bs c (vis c (σ.set i (some (.ref a))) (E.set i s) H) H (some (.ref a)) s) :
    StOk K bs c (σ.set i (some (.ref a))) H (E.set i s) ∧ Same (vis (c.hide a) σ E H) (vis c (σ.set i (some (.ref a))) (E.set i s) H) := by
  have far : ∀ {j b}, MAt (σ.set i (some (.ref a))) (E.set i s) j b → (j = i ∧ b = a) ∨ (j ≠ i ∧ MAt σ E j b) := fun {j b} m => by
    rcases mat_own hs st.len m with z | z | z
    · exact .inl z
    · exact .inr z
    · obtain ⟨t, h1, _, _⟩ := m
      have := (List.getElem?_eq_some_iff.mp h1).1
      rw [List.length_set] at this
      omega
  have sm : Same (vis (c.hide a) σ E H) (vis c (σ.set i (some (.ref a))) (E.set i s) H) := vis_same (fun b z nz => by
    rcases z with z | ⟨j, z⟩
    · exact absurd (hid_hide.mpr (.inl (.inl z))) nz
    · rcases far z with ⟨_, e⟩ | ⟨_, z⟩
      · exact absurd (hid_hide.mpr (.inr e)) nz
      · exact absurd (hid_hide.mpr (.inl (.inr ⟨j, z⟩))) nz) fun b o _ q => q
  refine ⟨{
    len := by rw [List.length_set, List.length_set, st.len]
    tabs := st.tabs
    frame := st.frame
    hidP := fun b z => st.hidP b (.inl z)
    disj := fun j b m z => by
      rcases far m with ⟨_, e⟩ | ⟨_, m⟩
      · exact n (e ▸ z)
      · exact st.disj j b m (.inl z)
    slot := fun j t e => by
      rw [set_get] at e
      by_cases hj : i = j ∧ i < E.length
      · rw [if_pos hj] at e
        cases e
        rw [set_get, if_pos ⟨hj.1, by rw [st.len]; exact hj.2⟩]
        exact ⟨_, rfl, q sm⟩
      · rw [if_neg hj] at e
        rw [set_get, if_neg (fun z => hj ⟨z.1, by rw [← st.len]; exact z.2⟩)]
        obtain ⟨w, e1, e2⟩ := st.slot j t e
        refine ⟨w, e1, ?_⟩
        have z := e2.mono sm (H' := H) fun _ _ _ _ _ q => q
        cases t with
        | no => trivial
        | dat d => exact z
        | ml d => exact z
        | md d => exact z
    dist := fun j k b m1 m2 => by
      rcases far m1 with ⟨e1, e2⟩ | ⟨e1, m1⟩
      · rcases far m2 with ⟨e3, _⟩ | ⟨_, m2⟩
        · rw [e1, e3]
        · rw [e2] at m2
          exact absurd (.inr rfl) (st.disj k a m2)
      · rcases far m2 with ⟨e3, e4⟩ | ⟨_, m2⟩
        · rw [e4] at m1
          exact absurd (.inr rfl) (st.disj j a m1)
        · exact st.dist j k b m1 m2
    bor := fun j hj => (mat_set_ne (fun (z : j = i) => hi (z ▸ hj))).mpr (st.bor j hj) }, sm⟩
theorem not_bs {i : Nat} (h : bs.contains i = false) : i ∉ bs := fun z => by
  have : bs.contains i = true := by simpa using z
  rw [h] at this
  cases this
/-- d = {} -/
def dNewD (s : Nat) : TSd := fun DD E => s < E.length ∧ DD.nx (E.set s (.md []))
theorem ds_newD {st : Stmt} (h : PS X st (tAsg tDNewK (gName s))) (hb : bs.contains s = false := by rfl) : PS X st (LS X.K bs (dNewD s)) := h.imp fun D σ H ⟨c, E, DD, ok, ⟨hl, q⟩, g⟩ => fun a na => by
  obtain ⟨l1, l2⟩ := ok.lay (o := .dK []) na
  have nP : ¬ c.P a := fun z => by
    obtain ⟨o, e, _⟩ := ok.hidP a z
    rw [na] at e
    cases e
  obtain ⟨t1, t2⟩ := l1.take_own (i := s) (s := .md []) upd_same rfl nP (not_bs hb) hl fun _ => ⟨a, [], rfl, upd_same, .nil, .inr (ok.fresh0 na)⟩
  exact g.nx _ _ _ t1 (l2.trans t2) q
/-- d[k] = v, d an own dict -/
def dDPut (bs : List Nat) (s : Nat) (ty tv : TD) : TSd := fun DD E => tv E fun av E1 => ∃ d E2, force bs E1 av = some (d, E2) ∧ (∃ kvs, E2[s]? = some (.md kvs)) ∧ ty E2 fun y E3 => ∃ k kvs, look E3 y = some (keyD k) ∧ E3[s]? = some (.md kvs) ∧ kvs.length < sizeLine ∧ DD.nx (E3.set s (.md (putD kvs k d)))
theorem ds_dput {v : Expr} (hu : X.A.units + 1 < cLine) (ho : PE X o (tVar s)) (hi : PE X i (lift X.K bs ty)) (hv : PE X v (lift X.K bs tv)) (hs : swapsWith v (some (.Subscript o i pos')) pos.line X.env = pure false := by rfl) : PS X (.Assign [.Subscript o i pos'] v pos) (LS X.K bs (dDPut bs s ty tv)) :=
  (ps_dput hu ho hi hv hs).imp fun D σ H ⟨c, E, DD, ok, q, g⟩ => ⟨c, E, _, ok, q, fun av E1 v H1 ok1 s1 a1 ⟨d, E2, fo, ⟨kvs0, es0⟩, z⟩ => by
    obtain ⟨f1, f2, f3⟩ := force_ok ok1 a1 fo
    obtain ⟨w, w1, a0, ws0, z0, _⟩ := f1.slot s _ es0
    subst z0
    refine ⟨.ref a0, w1, c, E2, _, f1, z, fun bv E3 y H3 ok3 s3 a3 ⟨k, kvs, l1, es, hl, z⟩ => ?_⟩
    obtain ⟨w, w2, a, ws, z1, h1, h2, _⟩ := ok3.slot s _ es
    subst z1
    rw [w1] at w2
    cases w2
    have ek := key_ok (look_ok ok3 a3 l1)
    subst ek
    have m : MAt σ E3 s a0 := ⟨_, es, rfl, w1⟩
    obtain ⟨r1, r2⟩ := ok3.reM (H' := upd H3 a0 (.dK (putK ws k v))) (s' := .md (putD kvs k d)) m rfl (fun b o ne z => by rw [upd_ne ne]; exact .of z) (ok3.tab_md es w1) fun sm => ⟨a0, _, rfl, upd_same, (h2.mono sm).put ((f3.mono s3.s).mono sm), ok3.own m⟩
    exact ⟨a0, _, rfl, DPut.k h1 (by rw [h2.length]; exact hl), g.nx _ _ _ r1 (((s1.trans f2).trans s3).trans r2).s z⟩⟩
/-! own lists -/
def dSetIt (bs : List Nat) (s : Nat) (ti te : TD) : TSd := fun DD E => te E fun av E1 => ∃ d E2, force bs E1 av = some (d, E2) ∧ (∃ ds, E2[s]? = some (.ml ds)) ∧ ti E2 fun iv E3 => ∃ k ds j, look E3 iv = some (.int k) ∧ E3[s]? = some (.ml ds) ∧ ixN ds.length k = some j ∧ DD.nx (E3.set s (.ml (ds.set j d)))
theorem ds_setIt {st : Stmt} (h : PS X st (tAsg (lift X.K bs te) (gSub (tVar s) (lift X.K bs ti) rSetL))) : PS X st (LS X.K bs (dSetIt bs s ti te)) :=
  h.imp fun D σ H ⟨c, E, DD, ok, q, g⟩ => ⟨c, E, _, ok, q, fun av E1 v H1 ok1 s1 a1 ⟨d, E2, fo, ⟨kvs0, es0⟩, z⟩ => by
    obtain ⟨f1, f2, f3⟩ := force_ok ok1 a1 fo
    obtain ⟨a0, ws0, w1, _, _⟩ := f1.get_ml es0
    refine ⟨.ref a0, w1, c, E2, _, f1, z, fun bv E3 y H3 ok3 s3 a3 ⟨k, ds, j, l1, es, hj, z⟩ => ?_⟩
    obtain ⟨a, ws, w2, h1, h2⟩ := ok3.get_ml es
    rw [w1] at w2
    cases w2
    have ek := shal_int (look_ok ok3 a3 l1)
    subst ek
    obtain ⟨r1, r2⟩ := ok3.upd_ml es w1 (h2.set (f3.mono s3.s) j)
    exact ⟨a0, ws, k, j, rfl, rfl, h1, by rw [h2.length]; exact hj, g.nx _ _ _ r1 (((s1.trans f2).trans s3).trans r2).s z⟩⟩
/-- xs[i] += e, ints -/
def dAugIt (op : Int → Int → Int) (s : Nat) (ti te : TD) : TSd := fun DD E => (∃ ds, E[s]? = some (.ml ds)) ∧ ti E fun iv E1 => ∃ k ds m j, look E1 iv = some (.int k) ∧ E1[s]? = some (.ml ds) ∧ ixN ds.length k = some j ∧ ds[j]? = some (.int m) ∧
  te E1 fun av E2 => ∃ n, look E2 av = some (.int n) ∧ E2[s]? = some (.ml ds) ∧ DD.nx (E2.set s (.ml (ds.set j (.int (op m n)))))
theorem ds_augIt {st : Stmt} {op : Int → Int → Int} (h : PS X st (tAugS (tVar s) (lift X.K bs ti) (lift X.K bs te) (rIxL X.K) (ipI op) rSetL)) : PS X st (LS X.K bs (dAugIt op s ti te)) :=
  h.imp fun D σ H ⟨c, E, DD, ok, ⟨⟨ds0, es0⟩, q⟩, g⟩ => by
    obtain ⟨a0, ws0, w1, _, _⟩ := ok.get_ml es0
    refine ⟨.ref a0, w1, c, E, _, ok, q, fun iv E1 i H1 ok1 s1 a1 ⟨k, ds, m, j, l1, es, hj, hm, z⟩ => ?_⟩
    obtain ⟨a, ws, w2, h1, h2⟩ := ok1.get_ml es
    rw [w1] at w2
    cases w2
    have ek := shal_int (look_ok ok1 a1 l1)
    subst ek
    obtain ⟨u, u1, u2⟩ := h2.get hm
    cases u2
    refine ⟨a0, ws, k, .int m, rfl, rfl, SqL.of h1, ?_, c, E1, _, ok1, z, fun av E2 y H2 ok2 s2 a2 ⟨n, l2, es2, z⟩ => ?_⟩
    · unfold atI
      rw [h2.length, hj]
      exact u1
    · have en := shal_int (look_ok ok2 a2 l2)
      subst en
      obtain ⟨a, ws', w3, h3, h4⟩ := ok2.get_ml es2
      rw [w1] at w3
      cases w3
      obtain ⟨r1, r2⟩ := ok2.upd_ml es2 w1 (h4.set (.int (op m n)) j)
      exact ⟨m, n, rfl, rfl, a0, ws', k, j, rfl, rfl, h3, by rw [h4.length]; exact hj, g.nx _ _ _ r1 ((s1.trans s2).trans r2).s z⟩
/-- x += e, ints -/
def dAug (op : Int → Int → Int) (s : Nat) (te : TD) : TSd := fun DD E => ∃ m, E[s]? = some (.dat (.int m)) ∧ te E fun av E1 => ∃ n, look E1 av = some (.int n) ∧ DD.nx (E1.set s (.dat (.int (op m n))))
theorem ds_aug {st : Stmt} {op : Int → Int → Int} (h : PS X st (tAug s (lift X.K bs te) (ipI op))) (hb : bs.contains s = false := by rfl) : PS X st (LS X.K bs (dAug op s te)) :=
  h.imp fun D σ H ⟨c, E, DD, ok, ⟨m, es, q⟩, g⟩ => by
    obtain ⟨v, w1, w2⟩ := ok.get es
    cases w2
    refine ⟨.int m, w1, c, E, _, ok, q, fun av E1 y H1 ok1 s1 a1 ⟨n, l, z⟩ => ?_⟩
    have en := shal_int (look_ok ok1 a1 l)
    subst en
    exact ⟨m, n, rfl, rfl, g.nx _ _ _ (ok1.set_dat (not_bs hb) (.int _)) (s1.s.trans (vis_set ok1.len rfl)) z⟩
/-! methods of an own list -/
def dAppend (bs : List Nat) (s : Nat) (te : TD) : TD := fun E Q => (∃ ds, E[s]? = some (.ml ds)) ∧ te E fun av E1 => ∃ d E2 ds, force bs E1 av = some (d, E2) ∧ E2[s]? = some (.ml ds) ∧ ds.length < sizeLine ∧ Q (.val .non) (E2.set s (.ml (ds ++ [d])))
theorem de_append (h : PE X e (tBM X.K "list" rAppend (tVar s) (tCons (lift X.K bs te) tNil))) : PE X e (lift X.K bs (dAppend bs s te)) := h.imp fun σ H Q0 ⟨c, E, Q, ok, ⟨⟨ds0, es0⟩, q⟩, f⟩ => by
  obtain ⟨a0, ws0, w1, g1, _⟩ := ok.get_ml es0
  refine ⟨.ref a0, w1, .inl ⟨rfl, _, SqL.of g1⟩, c, E, _, ok, q, fun av E1 v H1 ok1 s1 a1 ⟨d, E2, ds, fo, es, hl, z⟩ => ?_⟩
  obtain ⟨f1, f2, f3⟩ := force_ok ok1 a1 fo
  obtain ⟨a, ws, w2, h1, h2⟩ := f1.get_ml es
  rw [w1] at w2
  cases w2
  obtain ⟨r1, r2⟩ := f1.upd_ml es w1 (h2.append (.cons f3 .nil))
  exact ⟨a0, ws, v, rfl, rfl, h1, by rw [h2.length]; exact hl, f (.val .non) _ _ _ r1 ((s1.trans f2).trans r2) .non z⟩
def dClear (s : Nat) : TD := fun E Q => ∃ ds, E[s]? = some (.ml ds) ∧ Q (.val .non) (E.set s (.ml []))
theorem de_clear (h : PE X e (tBM0 X.K "list" rClear (tVar s))) : PE X e (lift X.K bs (dClear s)) := h.imp fun σ H Q0 ⟨c, E, Q, ok, ⟨ds0, es0, q⟩, f⟩ => by
  obtain ⟨a0, ws0, w1, g1, _⟩ := ok.get_ml es0
  obtain ⟨r1, r2⟩ := ok.upd_ml es0 w1 (vs' := []) .nil
  exact ⟨.ref a0, w1, .inl ⟨rfl, _, SqL.of g1⟩, a0, ws0, rfl, rfl, g1, f (.val .non) _ _ _ r1 r2 .non q⟩
def dReverse (s : Nat) : TD := fun E Q => ∃ ds, E[s]? = some (.ml ds) ∧ Q (.val .non) (E.set s (.ml ds.reverse))
theorem de_reverse (h : PE X e (tBM0 X.K "list" rReverse (tVar s))) : PE X e (lift X.K bs (dReverse s)) := h.imp fun σ H Q0 ⟨c, E, Q, ok, ⟨ds0, es0, q⟩, f⟩ => by
  obtain ⟨a0, ws0, w1, g1, g2⟩ := ok.get_ml es0
  obtain ⟨r1, r2⟩ := ok.upd_ml es0 w1 g2.rev
  exact ⟨.ref a0, w1, .inl ⟨rfl, _, SqL.of g1⟩, a0, ws0, rfl, rfl, g1, f (.val .non) _ _ _ r1 r2 .non q⟩
/-! sep.join(texts) -/
def dJoin (to te : TD) : TD := fun E Q => to E fun x E1 => te E1 fun y E2 => ∃ a ys, look E2 x = some (.str a) ∧ (look E2 y = some (.lst (ys.map .str)) ∨ look E2 y = some (.tup (ys.map .str))) ∧ (ys.map (·.length)).sum + ys.length * a.length ≤ 16777216 ∧ Q (.val (.str (Txt.join a ys))) E2
theorem de_join (ho : PE X o (lift X.K bs to)) (hstr : ∀ E Q, to E Q → to E fun av E1 => Q av E1 ∧ ∃ a, look E1 av = some (.str a)) (he : PE X e (lift X.K bs te)) (hs : starEach [e] X.env = [(false, eval e X.env)] := by rfl) (hbase : attributeBase o "join" X.env (eval o X.env) = eval o X.env := by rfl) (hline : (apos.endLine == pos.line) = true := by rfl) :
    PE X (.Call (.Attribute o "join" apos) [e] [] pos) (lift X.K bs (dJoin to te)) := (pe_join ho he hs hbase hline).imp fun σ H Q0 ⟨c, E, Q, ok, q, f⟩ =>
  ⟨c, E, _, ok, hstr _ _ q, fun av E1 v H1 ok1 s1 a1 ⟨q1, a0, l0⟩ => ⟨⟨a0, shal_str (look_ok ok1 a1 l0)⟩, c, E1, _, ok1, q1, fun bv E2 w H2 ok2 s2 a2 ⟨a, ys, l1, l2, hz, z⟩ => by
    have e1 := shal_str (look_ok ok2 (a1.mono s2) l1)
    subst e1
    rcases l2 with l2 | l2
    · obtain ⟨b, vs, rfl, h1, h2⟩ := look_ok ok2 a2 l2
      rw [h2.of_strs] at h1
      exact ⟨a, b, ys, rfl, rfl, .inl (SqL.of h1), hz, f (.val (.str _)) _ _ _ ok2 (s1.trans s2) (.str _) z⟩
    · cases (show Dat X.K (vis c σ E2 H2) w (.tup (ys.map .str)) from look_ok ok2 a2 l2) with
      | tup h1 h2 =>
        rw [h2.of_strs] at h1
        exact ⟨a, _, ys, rfl, rfl, .inr (SqT.of ((vis_le _ _ h1).k nt_tup)), hz, f (.val (.str _)) _ _ _ ok2 (s1.trans s2) (.str _) z⟩⟩⟩
theorem str_const {a : Str} (E : DEnv) (Q : AV → DEnv → Prop) (h : dC (.str a) E Q) : dC (.str a) E fun av E1 => Q av E1 ∧ ∃ b, look E1 av = some (.str b) := ⟨h, a, rfl⟩
end
/-! == of data at any depth -/
mutual
def toPy : D → Option PyData
  | .non => some .none
  | .bl b => some (.bool b)
  | .int i => some (.int i)
  | .str x => some (.str x)
  | .lst ds => (toPys ds).map .list
  | .tup ds => (toPys ds).map .tuple
  | _ => none
def toPys : List D → Option (List PyData)
  | [] => some []
  | d :: ds => match toPy d, toPys ds with
    | some p, some ps => some (p :: ps)
    | _, _ => none
end
section
variable {K : PySem.W.Frag} {H : Hp}
mutual
theorem dat_dp : ∀ (d : D) {v : V} {p : PyData}, Dat K H v d → toPy d = some p → Dp K H v p
  | .non, _, _, h, e => by
    cases h
    cases e
    exact .non
  | .bl b, _, _, h, e => by
    cases h
    cases e
    exact .bl b
  | .int b, _, _, h, e => by
    cases h
    cases e
    exact .int b
  | .str b, _, _, h, e => by
    cases h
    cases e
    exact .str b
  | .lst ds, _, _, h, e => by
    cases h with
    | lst h1 h2 =>
      simp only [toPy] at e
      cases e1 : toPys ds with
      | none =>
        rw [e1] at e
        cases e
      | some ps =>
        rw [e1] at e
        cases e
        exact .lst (SqL.of h1) (dats_dp ds h2 e1)
  | .tup ds, _, _, h, e => by
    cases h with
    | tup h1 h2 =>
      simp only [toPy] at e
      cases e1 : toPys ds with
      | none =>
        rw [e1] at e
        cases e
      | some ps =>
        rw [e1] at e
        cases e
        exact .tup (SqT.of h1) (dats_dp ds h2 e1)
  | .scr _, _, _, h, e => by simp [toPy] at e
  | .raw _, _, _, h, e => by simp [toPy] at e
  | .obj _ _, _, _, h, e => by simp [toPy] at e
  | .dct _, _, _, h, e => by simp [toPy] at e
theorem dats_dp : ∀ (ds : List D) {vs : List V} {ps : List PyData}, Dats K H vs ds → toPys ds = some ps → DpAll K H vs ps
  | [], _, _, h, e => by
    cases h
    simp only [toPys] at e
    cases e
    exact .nil
  | d :: ds, _, _, h, e => by
    cases h with
    | cons h1 h2 =>
      simp only [toPys] at e
      cases e1 : toPy d with
      | none =>
        rw [e1] at e
        cases e
      | some p =>
        cases e2 : toPys ds with
        | none =>
          rw [e1, e2] at e
          cases e
        | some ps =>
          rw [e1, e2] at e
          cases e
          exact .cons (dat_dp d h1 e1) (dats_dp ds h2 e2)
end
theorem shal_dp {G : Hp} {v : V} {d : D} {p : PyData} (s : Same G H) (h : Shal K G H v d) (e : toPy d = some p) : Dp K H v p := by
  cases d with
  | lst ds =>
    obtain ⟨a, vs, rfl, h1, h2⟩ := h
    exact dat_dp (.lst ds) (.lst h1 (h2.mono s)) e
  | dct ds => simp [toPy] at e
  | non => exact dat_dp _ ((show Dat K G v _ from h).mono s) e
  | bl b => exact dat_dp _ ((show Dat K G v _ from h).mono s) e
  | int b => exact dat_dp _ ((show Dat K G v _ from h).mono s) e
  | str b => exact dat_dp _ ((show Dat K G v _ from h).mono s) e
  | tup b => exact dat_dp _ ((show Dat K G v _ from h).mono s) e
  | scr b => exact dat_dp _ ((show Dat K G v _ from h).mono s) e
  | raw b => exact dat_dp _ ((show Dat K G v _ from h).mono s) e
  | obj b c => exact dat_dp _ ((show Dat K G v _ from h).mono s) e
/-- == and != of data; neg for != -/
def rdEqD (neg : Bool) : RD2 := fun d e Q => ∃ p q, toPy d = some p ∧ toPy e = some q ∧ SeqAt.shaped p = true ∧ SeqAt.shaped q = true ∧ Q (.bl (if neg then !PyData.eqv p q else PyData.eqv p q))
theorem ok_eqD : R2Ok K (rEqD K) (rdEqD false) := fun G H x y d e QD Q0 s hx hy ⟨p, q, e1, e2, e3, e4, z⟩ f => ⟨p, q, shal_dp s hx e1, shal_dp s hy e2, e3, e4, f _ _ (.bl _) z⟩
theorem ok_neD : R2Ok K (rNeD K) (rdEqD true) := fun G H x y d e QD Q0 s hx hy ⟨p, q, e1, e2, e3, e4, z⟩ f => ⟨p, q, shal_dp s hx e1, shal_dp s hy e2, e3, e4, f _ _ (.bl _) z⟩
end
end DL
set_option Elab.async false
set_option linter.all false
set_option autoImplicit false
set_option maxRecDepth 100000
/-! DL11: defs by their names, constants, short forms. -/
namespace DL
open PySem PySem.Spec L2
open PyProof.Rows hiding St
section
variable {X : Cx}
theorem op_mulX : OpR X (binaryOp .Mult) (rI (fun i j => IntMulOk i j) fun i j => .int (i * j)) := opI fun _ _ _ _ _ _ _ hc q => mul_int q hc
theorem mulL {i j : Int} (h1 : -(2 ^ 64) < i) (h2 : i < 2 ^ 64) : IntMulOk i j := CMul.ok (.inl ⟨h1, h2⟩)
theorem mulR {i j : Int} (h1 : -(2 ^ 64) < j) (h2 : j < 2 ^ 64) : IntMulOk i j := CMul.ok (.inr ⟨h1, h2⟩)
theorem divW {i j : Int} {b : Nat} (h : 0 < j) (hb : j.natAbs < 2 ^ b) (h0 : 0 < b := by decide) (h9 : b ≤ 9000 := by decide) : CDivW i j := wide_div h hb h0 h9
end
theorem ok_neg {K : PySem.W.Frag} {g : Int → Int} : R1Ok K (rU fun i => .int (g i)) (fun d Q => ∃ i, d = .int i ∧ Q (.int (g i))) := fun G H x d QD Q0 s hx ⟨i, e, q⟩ f => by
  subst e
  exact ⟨i, shal_int hx, f _ _ (.int _) q⟩
/-- isinstance of a built-in class -/
inductive Cl where
  | int | str | bool | list | tuple | dict
def Cl.nm : Cl → String
  | .int => "int" | .str => "str" | .bool => "bool" | .list => "list" | .tuple => "tuple" | .dict => "dict"
def isD : Cl → D → Option Bool
  | .int, .int _ => some true
  | .int, .bl _ => some true
  | .bool, .bl _ => some true
  | .str, .str _ => some true
  | .list, .lst _ => some true
  | .tuple, .tup _ => some true
  | .dict, .dct _ => some true
  | _, .scr _ => none
  | _, .raw _ => none
  | _, .obj _ _ => none
  | _, _ => some false
def rdIs (cl : Cl) : RDC := fun ds Q => ∃ d b, ds = [d, .raw (.ty cl.nm)] ∧ isD cl d = some b ∧ Q (.bl b)
theorem isD_kit {cl : Cl} {d : D} {b : Bool} (h : isD cl d = some b) : ∃ t, tyD d = some t ∧ kitB t cl.nm = some b := by
  cases cl <;> cases d <;> first
    | (cases h; done)
    | (cases h; exact ⟨_, rfl, by decide +kernel⟩)
theorem ok_is {K : PySem.W.Frag} (cl : Cl) : RCOk K (rIsi K) (rdIs cl) := fun G H xs ds QD Q0 s h ⟨d, b, e, hb, q⟩ f => by
  obtain ⟨t, h1, h2⟩ := isD_kit hb
  exact ok_isi G H xs ds QD Q0 s h ⟨d, _, t, b, e, h1, h2, q⟩ f
/-- a def of the top that keeps its promise; dd: the defaults that fill up the call -/
structure Dn (P : Program) (w : World) (K : PySem.W.Frag) (mg : Str → Option Value) (base : Heap) (k : Nat) (x : Str) (ps : List Str) (bs : List Nat) (T : FT) (dd : List D) : Prop where
  ex : ∃ (f : Addr) (fd : FuncData) (dvs : List V) (dvl : List Value), FnOk P w K mg base CX0 k f fd ps (FnSp K bs T) ∧ mg x = some (.ref f) ∧ PySem.W.keepIn K (.ref f) = true ∧ Binds K fd ps dvl ∧ Vals dvs dvl ∧ Dats K (fun _ => none) dvs dd
theorem Dn.of {P : Program} {w : World} {K : PySem.W.Frag} {mg : Str → Option Value} {base : Heap} {k : Nat} {x : Str} {ps : List Str} {bs : List Nat} {T : FT} {f : Addr} {fd : FuncData} (F : FnOk P w K mg base CX0 k f fd ps (FnSp K bs T)) (hm : mg x = some (.ref f)) (hk : PySem.W.keepIn K (.ref f) = true) (hb : Binds K fd ps []) : Dn P w K mg base k x ps bs T [] := ⟨f, fd, [], [], F, hm, hk, hb, .nil, .nil⟩
section
variable {X : Cx} {bs : List Nat} {k j i : Nat} {x : Str} {ps : List Str} {T : FT} {dd : List D} {e : Expr} {es : List Expr} {t : TDL} {p pos : Pos}
theorem de_cal (d : Dn X.prog X.w X.K X.mg X.base j x ps [] T dd) (hr : Room k X.A) (ha : PA X (e :: es) (liftL X.K bs t)) (hjk : j ≤ k := by decide) (hg : Gl X x := by rfl) (hdb : (x == ("__debug__" : Str)) = false := by decide) (he : starEach (e :: es) X.env = (false, eval e X.env) :: starEach es X.env := by rfl) (hpl : (backTo pos (starEach es X.env)).any (·.1) = false := by rfl) :
    PE X (.Call (.Name x p) (e :: es) [] pos) (lift X.K bs (dCall bs T dd t)) := by
  obtain ⟨f, fd, dvs, dvl, F, hm, hk, hb, hv, hdd⟩ := d.ex
  exact de_call F (hr.mono hjk) hg hm hk hb hv hdd pass0 ha hdb he hpl
theorem de_calO (d : Dn X.prog X.w X.K X.mg X.base j x ps [] T dd) (hr : Room k X.A) (ha : PA X (e :: es) (liftL X.K bs t)) (hjk : j ≤ k := by decide) (hg : Gl X x := by rfl) (hdb : (x == ("__debug__" : Str)) = false := by decide) (he : starEach (e :: es) X.env = (false, eval e X.env) :: starEach es X.env := by rfl) (hpl : (backTo pos (starEach es X.env)).any (·.1) = false := by rfl) :
    PE X (.Call (.Name x p) (e :: es) [] pos) (liftO X.K bs (dCallO bs T dd t)) := by
  obtain ⟨f, fd, dvs, dvl, F, hm, hk, hb, hv, hdd⟩ := d.ex
  exact de_callO F (hr.mono hjk) hg hm hk hb hv hdd pass0 ha hdb he hpl
theorem de_calB (i : Nat) (d : Dn X.prog X.w X.K X.mg X.base j x ps [0] T dd) (hr : Room k X.A) (ha : PA X (e :: es) (liftL X.K bs t)) (hjk : j ≤ k := by decide) (hg : Gl X x := by rfl) (hdb : (x == ("__debug__" : Str)) = false := by decide) (he : starEach (e :: es) X.env = (false, eval e X.env) :: starEach es X.env := by rfl) (hpl : (backTo pos (starEach es X.env)).any (·.1) = false := by rfl) :
    PE X (.Call (.Name x p) (e :: es) [] pos) (lift X.K bs (dCallB bs i T dd t)) := by
  obtain ⟨f, fd, dvs, dvl, F, hm, hk, hb, hv, hdd⟩ := d.ex
  exact de_callB F (hr.mono hjk) hg hm hk hb hv hdd pass0 ha hdb he hpl
theorem de_gstr {z : Str} (h : ∃ t, X.mg x = some (.str z t)) (hg : Gl X x := by rfl) (hd : (x == ("__debug__" : Str)) = false := by decide) : PE X (.Name x pos) (lift X.K bs (dC (.str z))) := by
  obtain ⟨t, h⟩ := h
  exact de_const (pe_glob (v := .str z) hg h ⟨t, rfl⟩ hd) fun _ => .str z
theorem de_gint {z : Int} (h : ∃ t, X.mg x = some (.int z t)) (hg : Gl X x := by rfl) (hd : (x == ("__debug__" : Str)) = false := by decide) : PE X (.Name x pos) (lift X.K bs (dC (.int z))) := by
  obtain ⟨t, h⟩ := h
  exact de_const (pe_glob (v := .int z) hg h ⟨t, rfl⟩ hd) fun _ => .int z
/-- a built-in class as a value -/
theorem de_cls {n : String} (hm : X.mg x = none) (hv : bootBuiltins x = some (.type n)) (hg : Gl X x := by rfl) (hn : x ≠ "__name__" := by decide) (hd : (x == ("__debug__" : Str)) = false := by decide) : PE X (.Name x pos) (lift X.K bs (dC (.raw (.ty n)))) :=
  de_const (pe_bltn (v := .ty n) hg hm hv rfl hn hd) fun _ => .raw _
/-- the answer is just this -/
theorem dt_chain {a b c : Expr} {ta tb tc : TD} {op op' : CmpOp} {r r' : R2} {rd rd' : RD2} (ho : OpR X (compareOp op) r) (hr : R2Ok X.K r rd) (ho' : OpR X (compareOp op') r') (hr' : R2Ok X.K r' rd') (ha : PE X a (lift X.K bs ta)) (hb : PE X b (lift X.K bs tb)) (hc : PE X c (lift X.K bs tc))
    (hm : lastMarks [op, op'] [b, c] = false := by with_unfolding_all rfl) : PT X (.Compare a [op, op'] [b, c] pos) (liftB X.K bs (dTest (dChain rd rd' ta tb tc))) :=
  (pt_chain ho ho' ha hb hc hm).imp fun σ H Q0 ⟨c0, E, Q, ok, q, f⟩ => by
    refine ⟨c0, E, _, ok, q, fun av1 E1 v1 H1 ok1 s1 a1 q1 => ⟨c0, E1, _, ok1, q1, fun av2 E2 v2 H2 ok2 s2 a2 q2 => ?_⟩⟩
    obtain ⟨d, e, l1, l2, z⟩ := q2
    refine hr _ H2 v1 v2 d e _ _ vis_le (look_ok ok2 (a1.mono s2) l1) (look_ok ok2 a2 l2) z fun d' v hd ⟨k, ek, z⟩ => ?_
    subst ek
    cases hd
    refine ⟨k, rfl, ?_⟩
    cases k with
    | false =>
      obtain ⟨b, l, z⟩ := it0 z
      cases l
      exact iteF ⟨false, rfl, f _ E2 H2 ok2 (s1.trans s2) z⟩
    | true =>
      refine iteT ⟨c0, E2, _, ok2, it1 z, fun av3 E3 v3 H3 ok3 s3 a3 q3 => ?_⟩
      obtain ⟨e', g, l3, l4, z⟩ := q3
      refine hr' _ H3 v2 v3 e' g _ _ vis_le (look_ok ok3 (a2.mono s3) l3) (look_ok ok3 a3 l4) z fun d' v hd ⟨b, l, q⟩ => ?_
      cases l
      cases hd
      exact ⟨b, rfl, f _ E3 H3 ok3 ((s1.trans s2).trans s3) q⟩
end
end DL
set_option Elab.async false
set_option linter.all false
set_option autoImplicit false
set_option maxRecDepth 100000
/-! DK1: list(reversed(range)), list(zip): the calls, over the heap alone. -/
namespace DK
open PySem PySem.Spec PySem.Calls PyProof.Rows
section
variable {prog : Program} {w : World} {A : Around} {E : Value → Shared → Prop} {s : Shared} {Ri : Result → Shared → Prop}
abbrev EndsIn (prog : Program) (w : World) (A : Around) (Ri : Result → Shared → Prop) (t : Sem PySem.Fin) (s : Shared) : Prop :=
  wpAny (model prog w) A.in1 t (fun fin s' => match fin with | .done f => Ri (.ok f) s' | .again c' => c'.quiet = true ∧ codeAny (model prog w) A c' Ri s') (fun e s' => Ri (.error e) s') s
/-- what is new or S, or one of ch, may be otherwise -/
def Kp (ch : List Addr) (h h' : Heap) : Prop := ∀ b o, b ∉ ch → h.get? b = some o → h'.get? b = some o
theorem kp_push {ch : List Addr} {h h' : Heap} {o : Obj} (k : Kp ch h h') : Kp ch h (h'.push o) := fun b x n e => Heap.get?_push_of_some _ (k b x n e)
/-- list(I)'s outer parts: what is left is the filling of the new list at S -/
theorem list_of_fill {I : Addr} {Q : Value → Shared → Prop} (hI : I < s.heap.objs.size)
    (fill : ∀ (s1 : Shared) (c0 : Nat) (Ri : Result → Shared → Prop), s1.gens = s.gens → s1.drawn = s.drawn → s1.os = s.os → (∀ b o, s.heap.get? b = some o → s1.heap.get? b = some o) → s1.heap.get? s.heap.objs.size = some { cls := .type "list", data := .seq #[] c0 } → s.heap.objs.size + 1 ≤ s1.heap.objs.size →
      (∀ h' tk acc c', (∀ b o, b ≠ I → s.heap.get? b = some o → h'.get? b = some o) → h'.get? s.heap.objs.size = some { cls := .type "list", dict := none, data := .seq acc c', slots := #[] } → Q (.ref s.heap.objs.size) { s1 with heap := h', toks := tk } → Ri (.ok (.ret .none)) { s1 with heap := h', toks := tk }) →
      EndsIn prog w A.in1 Ri (Builtin.List.listExtendWith (.ref s.heap.objs.size) (.ref I) .none) s1) :
    wpAny (model prog w) A (call (.type "list") [.ref I]) Q E s := by
  refine callType_codes (Q₁ := fun obj z => obj = .ref s.heap.objs.size ∧ z = { s with heap := s.heap.push { cls := .type "list", data := .seq #[] } }) PySem.F.called_list (PySem.F.typeCall_list_1 _) PySem.F.entry_list_init (code_list_new _ ⟨rfl, rfl⟩) fun obj z hz => ?_
  obtain ⟨rfl, rfl⟩ := hz
  have at0 : (s.heap.push { cls := .type "list", data := .seq #[] }).get? s.heap.objs.size = some { cls := .type "list", data := .seq #[] } := Heap.get?_push_size _ rfl
  refine ⟨⟨_, at0, rfl⟩, PySem.F.args_list_init_2 _ _, ?_⟩
  show wpAny _ A.in1.in1 (do let old ← Builtin.List.listItems (.ref s.heap.objs.size); Builtin.List.listUpdate (.ref s.heap.objs.size) (fun _ => #[]); letGo old.toList.reverse; Builtin.List.listExtendWith (.ref s.heap.objs.size) (.ref I) .none) _ _ _
  refine wpAny_bind ?_
  unfold Builtin.List.listItems
  refine wpAny_bind (wpAny_seqItems at0 rfl (wpAny_pure ?_))
  show wpAny _ A.in1.in1 (updateSeq s.heap.objs.size (fun _ => #[]) >>= fun _ => letGo (#[] : Array Value).toList.reverse >>= fun _ => Builtin.List.listExtendWith (.ref s.heap.objs.size) (.ref I) .none) _ _ _
  refine wpAny_bind (wpAny_updateSeq at0 rfl ?_)
  have at1 := Heap.get?_update_self (Obj.mapSeq (fun _ => (#[] : Array Value))) at0 rfl
  refine wpAny_bind (wpAny_letGo ?_)
  refine fill _ _ _ rfl rfl rfl (fun b o e => ?_) at1 ?_ fun h' tk acc c' k e q => ?_
  · exact (Heap.get?_update_other _ _ (Nat.ne_of_gt (Heap.lt_size e))).trans (Heap.get?_push_of_some _ e)
  · show _ ≤ (Heap.update _ _ _).objs.size
    rw [Heap.size_update, Heap.size_push]
    exact Nat.le_refl _
  · exact ⟨rfl, q⟩
/-- the same, nothing asked of what stays -/
theorem list_of_fillZ {I : Addr} {Q : Value → Shared → Prop}
    (fill : ∀ (s1 : Shared) (c0 : Nat) (Ri : Result → Shared → Prop), s1.gens = s.gens → s1.drawn = s.drawn → s1.os = s.os → (∀ b o, s.heap.get? b = some o → s1.heap.get? b = some o) → s1.heap.get? s.heap.objs.size = some { cls := .type "list", data := .seq #[] c0 } → s.heap.objs.size + 1 ≤ s1.heap.objs.size →
      (∀ (h' : Heap) (tk : Nat) (acc : Array Value) (c' : Nat), Q (.ref s.heap.objs.size) { s1 with heap := h', toks := tk } → Ri (.ok (.ret .none)) { s1 with heap := h', toks := tk }) →
      EndsIn prog w A.in1 Ri (Builtin.List.listExtendWith (.ref s.heap.objs.size) (.ref I) .none) s1) :
    wpAny (model prog w) A (call (.type "list") [.ref I]) Q E s := by
  refine callType_codes (Q₁ := fun obj z => obj = .ref s.heap.objs.size ∧ z = { s with heap := s.heap.push { cls := .type "list", data := .seq #[] } }) PySem.F.called_list (PySem.F.typeCall_list_1 _) PySem.F.entry_list_init (code_list_new _ ⟨rfl, rfl⟩) fun obj z hz => ?_
  obtain ⟨rfl, rfl⟩ := hz
  have at0 : (s.heap.push { cls := .type "list", data := .seq #[] }).get? s.heap.objs.size = some { cls := .type "list", data := .seq #[] } := Heap.get?_push_size _ rfl
  refine ⟨⟨_, at0, rfl⟩, PySem.F.args_list_init_2 _ _, ?_⟩
  show wpAny _ A.in1.in1 (do let old ← Builtin.List.listItems (.ref s.heap.objs.size); Builtin.List.listUpdate (.ref s.heap.objs.size) (fun _ => #[]); letGo old.toList.reverse; Builtin.List.listExtendWith (.ref s.heap.objs.size) (.ref I) .none) _ _ _
  refine wpAny_bind ?_
  unfold Builtin.List.listItems
  refine wpAny_bind (wpAny_seqItems at0 rfl (wpAny_pure ?_))
  show wpAny _ A.in1.in1 (updateSeq s.heap.objs.size (fun _ => #[]) >>= fun _ => letGo (#[] : Array Value).toList.reverse >>= fun _ => Builtin.List.listExtendWith (.ref s.heap.objs.size) (.ref I) .none) _ _ _
  refine wpAny_bind (wpAny_updateSeq at0 rfl ?_)
  have at1 := Heap.get?_update_self (Obj.mapSeq (fun _ => (#[] : Array Value))) at0 rfl
  refine wpAny_bind (wpAny_letGo ?_)
  refine fill _ _ _ rfl rfl rfl (fun b o e => ?_) at1 ?_ fun h' tk acc c' q => ?_
  · exact (Heap.get?_update_other _ _ (Nat.ne_of_gt (Heap.lt_size e))).trans (Heap.get?_push_of_some _ e)
  · show _ ≤ (Heap.update _ _ _).objs.size
    rw [Heap.size_update, Heap.size_push]
    exact Nat.le_refl _
  · exact ⟨rfl, q⟩
theorem ri_hint {I : Addr} {a n c : Int} {Q : Value → Shared → Prop} (h : IsRangeIter s.heap I a n c) (q : ∀ u tk, s.toks ≤ tk → Q (.int n u) { s with toks := tk }) :
    wpAny (model prog w) A (call (.builtin "range_iterator.__length_hint__") [.ref I]) Q E s := by
  have hT : s.TypeIs (.ref I) "range_iterator" := ⟨_, h, rfl⟩
  refine wpAny_call_entry PySem.F.slot_range_iterator_length_hint hT PySem.F.entry_range_iterator_length_hint ?_ (PySem.F.args_range_iterator_length_hint_1 _)
  show wpAny _ _ (field (.ref I) 1 >>= _) _ _ _
  refine wpAny_bind (wpAny_field h rfl (x := rawInt n) rfl ?_)
  show wpAny _ _ (retInt n) _ _ _
  obtain ⟨hp, g, d, tk, os⟩ := s
  wp_walk
  exact ⟨_, rfl, q _ _ (Nat.le_succ _)⟩
theorem ri_fill {I S : Addr} {a c : Int} {n c0 : Nat} (hh : A.handled = none) (h : IsRangeIter s.heap I a n c) (hS : s.heap.get? S = some { cls := .type "list", data := .seq #[] c0 }) (hn : n ≤ 2 ^ 24)
    (hR : ∀ h' tk acc c', (∀ b o, b ≠ S → b ≠ I → s.heap.get? b = some o → h'.get? b = some o) → h'.get? S = some { cls := .type "list", dict := none, data := .seq acc c', slots := #[] } → ItemsOf (fun i v => ∃ t, v = .int (a + i * c) t) acc n → Ri (.ok (.ret .none)) { s with heap := h', toks := tk }) :
    EndsIn prog w A Ri (Builtin.List.listExtendWith (.ref S) (.ref I) .none) s := by
  have hT : s.TypeIs (.ref I) "range_iterator" := ⟨_, h, rfl⟩
  have ne : S ≠ I := fun e => by
    rw [e, h] at hS
    simp at hS
  have W := (Walks.range (prog := prog) (w := w) (A := A.in1) hh I a c n).toS
  have nl : Builtin.List.listSameRef (.ref S) (.ref I) = false := by simp [Builtin.List.listSameRef, ne]
  have st0 : IsRangeIter s.heap I (a + ((0 : Nat) : Int) * c) ((n : Int) - ((0 : Nat) : Int)) c := by simpa using h
  show wpAny _ A.in1 (Builtin.List.listExtendWith (.ref S) (.ref I) .none) _ _ s
  unfold Builtin.List.listExtendWith
  refine wpAny_bind (wpAny_typeOf hT ?_)
  rw [if_neg (by rw [nl]; decide)]
  refine wpAny_bind (W.self 0 _ _ _ st0 ?_)
  refine wpAny_bind (wpAny_holding ?_)
  unfold Builtin.List.listLengthHint
  refine wpAny_bind (wpAny_specialOf hT PySem.F.nolen_ra ?_)
  show wpAny _ A.in1 (specialOf (Value.ref I) (Str.ofString "__length_hint__") >>= _) _ _ _
  refine wpAny_bind (wpAny_specialOf hT PySem.F.hint_ra ?_)
  generalize hid : ("range_iterator.__length_hint__" : String) = id0
  wp_delta
  rw [show splitId id0 = some ("range_iterator", "__length_hint__") from by subst hid; decide +kernel]
  subst hid
  refine wpAny_bind (wpAny_isInstance (b := true) hT (by rw [isSubtype_type]; kernel_rfl) ?_)
  show wpAny _ A.in1 (call (.builtin "range_iterator.__length_hint__") [.ref I] >>= _) _ _ _
  refine wpAny_bind (ri_hint h fun u tk ht => ?_)
  refine wpAny_bind (m := asInt? (.int n u)) (wpAny_pure ?_)
  dsimp only
  have tl : Builtin.List.listTooLong (Int.toNat (n : Int)) = false := by
    simp [Builtin.List.listTooLong, sizeLine]
    omega
  rw [if_neg (by rw [tl]; decide)]
  refine wpAny_pure ?_
  rw [if_neg (by decide)]
  refine wpAny_pure ⟨plainId_quiet PySem.F.plain_extend_loop _, codeAny_extend_loopS W (by rw [sizeLine_eq]; omega) S (fun z => ne (List.mem_singleton.mp z)) _ n 0 { s with toks := tk } _ _ rfl (Nat.zero_le _) st0 hS (ItemsOf.nil _) fun s' acc c' hm hS' hacc => ?_⟩
  rw [Moved.eq_with hm]
  refine hR _ _ acc c' (fun b o b1 b2 e => hm.heap b o (fun z => ?_) e) hS' hacc
  rcases List.mem_cons.mp z with z | z
  · exact b1 z
  · exact b2 (List.mem_singleton.mp z)
/-- list(I), I the iterator of a range -/
theorem call_list_ri {I : Addr} {a c : Int} {n : Nat} {Q : Value → Shared → Prop} (hh : A.handled = none) (h : IsRangeIter s.heap I a n c) (hn : n ≤ 2 ^ 24)
    (q : ∀ h' tk acc c', (∀ b o, b ≠ I → s.heap.get? b = some o → h'.get? b = some o) → h'.get? s.heap.objs.size = some { cls := .type "list", dict := none, data := .seq acc c', slots := #[] } → ItemsOf (fun i v => ∃ t, v = .int (a + i * c) t) acc n → Q (.ref s.heap.objs.size) { s with heap := h', toks := tk }) :
    wpAny (model prog w) A (call (.type "list") [.ref I]) Q E s := by
  refine list_of_fill (Heap.lt_size h) fun s1 c0 Ri g1 g2 g3 k e0 _ fin => ?_
  refine ri_fill hh (k _ _ h) e0 hn fun h' tk acc c' k' e' it => fin h' tk acc c' (fun b o b2 e => k' b o (Nat.ne_of_lt (Heap.lt_size e)) b2 (k _ _ e)) e' ?_
  have e1 : ({ s1 with heap := h', toks := tk } : Shared) = { s with heap := h', toks := tk } := by
    cases s1
    cases s
    cases g1
    cases g2
    cases g3
    rfl
  rw [e1]
  exact q h' tk acc c' (fun b o b2 e => k' b o (Nat.ne_of_lt (Heap.lt_size e)) b2 (k _ _ e)) e' it
/-! a zip whose tuples are kept -/
structure ZSt (h : Heap) (z TI TO i1 i2 l1 l2 : Addr) (k : Nat) (xs ys : Array Value) : Prop where
  out : (IsZip h z TI TO .none ∧ ∃ x y, IsPair h TO x y) ∨ ∃ T f oT, PySem.IsZipHeld h z TI TO T f ∧ h.get? T = some oT
  ti : IsPair h TI (.ref i1) (.ref i2)
  h1 : h.IsListIter i1 l1 k
  h2 : h.IsListIter i2 l2 k
  l1 : h.IsList l1 xs
  l2 : h.IsList l2 ys
variable {z TI TO i1 i2 l1 l2 S : Addr} {xs ys : Array Value}
theorem zs_next {k : Nat} {x y : Value} {Q : Option Value → Shared → Prop} (D : ZipApart z TI TO i1 i2 l1 l2) (Z : ZSt s.heap z TI TO i1 i2 l1 l2 k xs ys) (hx : xs[k]? = some x) (hy : ys[k]? = some y)
    (q : ∀ h', ZSt h' z TI TO i1 i2 l1 l2 (k + 1) xs ys → IsPair h' s.heap.objs.size x y → h'.objs.size = s.heap.objs.size + 1 → (∀ c o, c ≠ z → c ≠ TO → c ≠ i1 → c ≠ i2 → s.heap.get? c = some o → h'.get? c = some o) → Q (some (.ref s.heap.objs.size)) { s with heap := h' }) :
    wpAny (model prog w) A (pyNext (.ref z)) Q E s := by
  rcases Z.out with ⟨a1, x0, y0, a2⟩ | ⟨T, f, oT, a1, a2⟩
  · refine wpAny_pyNext_zip_item D a1 Z.ti a2 Z.h1 Z.h2 Z.l1 Z.l2 hx hy fun h' b1 b2 b3 b4 b5 b6 b7 => q h' ⟨.inr ⟨_, false, _, b1, b5⟩, b7 _ _ D.TIz D.TITO D.TIi1 D.TIi2 Z.ti, b3, b4, ?_, ?_⟩ b5 b6 b7
    · exact Z.l1.at fun o e => b7 _ _ D.l1z D.l1TO D.l1i1 D.l1i2 e
    · exact Z.l2.at fun o e => b7 _ _ D.l2z D.l2TO D.l2i1 D.l2i2 e
  · refine PySem.wpAny_pyNext_zip_item_held D a1 a2 Z.ti Z.h1 Z.h2 Z.l1 Z.l2 hx hy fun h' b1 b3 b4 b5 b6 b7 => q h' ⟨.inr ?_, b7 _ _ D.TIz D.TIi1 D.TIi2 Z.ti, b3, b4, ?_, ?_⟩ b5 b6 fun c o c1 _ c3 c4 e => b7 c o c1 c3 c4 e
    · have hT : ∃ o, h'.get? T = some o := by
        by_cases e1 : T = z
        · rw [e1]
          exact ⟨_, b1⟩
        · by_cases e2 : T = i1
          · obtain ⟨o, e, _⟩ := b3
            rw [e2]
            exact ⟨o, e⟩
          · by_cases e3 : T = i2
            · obtain ⟨o, e, _⟩ := b4
              rw [e3]
              exact ⟨o, e⟩
            · exact ⟨_, b7 _ _ e1 e2 e3 a2⟩
      obtain ⟨o, e⟩ := hT
      exact ⟨T, true, o, b1, e⟩
    · exact Z.l1.at fun o e => b7 _ _ D.l1z D.l1i1 D.l1i2 e
    · exact Z.l2.at fun o e => b7 _ _ D.l2z D.l2i1 D.l2i2 e
theorem zs_end {k : Nat} {Q : Option Value → Shared → Prop} (hh : A.handled = none) (D : ZipApart z TI TO i1 i2 l1 l2) (Z : ZSt s.heap z TI TO i1 i2 l1 l2 k xs ys) (he : xs[k]? = none ∨ ys[k]? = none)
    (q : ∀ h', (∀ c o, c ≠ z → c ≠ TO → c ≠ i1 → c ≠ i2 → s.heap.get? c = some o → h'.get? c = some o) → Q none { s with heap := h' }) : wpAny (model prog w) A (pyNext (.ref z)) Q E s := by
  rcases Z.out with ⟨a1, x0, y0, a2⟩ | ⟨T, f, oT, a1, a2⟩
  · exact wpAny_pyNext_zip_end hh D a1 Z.ti a2 Z.h1 Z.h2 Z.l1 Z.l2 he q
  · exact PySem.wpAny_pyNext_zip_end_held hh D a1 a2 Z.ti Z.h1 Z.h2 Z.l1 Z.l2 he fun h' k => q h' fun c o c1 _ c3 c4 e => k c o c1 c3 c4 e
theorem ZSt.frame {h h' : Heap} {k : Nat} (Z : ZSt h z TI TO i1 i2 l1 l2 k xs ys) (n : S ≠ z ∧ S ≠ TI ∧ S ≠ TO ∧ S ≠ i1 ∧ S ≠ i2 ∧ S ≠ l1 ∧ S ≠ l2) (kp : ∀ b o, b ≠ S → h.get? b = some o → h'.get? b = some o) (hS : ∃ o, h'.get? S = some o) : ZSt h' z TI TO i1 i2 l1 l2 k xs ys where
  out := by
    rcases Z.out with ⟨a1, x0, y0, a2⟩ | ⟨T, f, oT, a1, a2⟩
    · exact .inl ⟨kp _ _ n.1.symm a1, x0, y0, kp _ _ n.2.2.1.symm a2⟩
    · by_cases e : T = S
      · obtain ⟨o, q⟩ := hS
        exact .inr ⟨T, f, o, kp _ _ n.1.symm a1, by rw [e]; exact q⟩
      · exact .inr ⟨T, f, oT, kp _ _ n.1.symm a1, kp _ _ e a2⟩
  ti := kp _ _ n.2.1.symm Z.ti
  h1 := Z.h1.at fun o e => kp _ _ n.2.2.2.1.symm e
  h2 := Z.h2.at fun o e => kp _ _ n.2.2.2.2.1.symm e
  l1 := Z.l1.at fun o e => kp _ _ n.2.2.2.2.2.1.symm e
  l2 := Z.l2.at fun o e => kp _ _ n.2.2.2.2.2.2.symm e
/-- the tuples so far -/
structure ZAcc (lo : Nat) (h : Heap) (xs ys : Array Value) (acc : Array Value) (i : Nat) : Prop where
  sz : acc.size = i
  at_ : ∀ (j : Nat) (v : Value), acc[j]? = some v → ∃ (T : Addr) (x y : Value), v = Value.ref T ∧ lo ≤ T ∧ T < h.objs.size ∧ xs[j]? = some x ∧ ys[j]? = some y ∧ IsPair h T x y
  inj : ∀ (j j' : Nat) (v : Value), acc[j]? = some v → acc[j']? = some v → j = j'
theorem ZAcc.keep {lo i : Nat} {h h' : Heap} {acc : Array Value} (Z : ZAcc lo h xs ys acc i) (k : ∀ b o, lo ≤ b → h.get? b = some o → h'.get? b = some o) : ZAcc lo h' xs ys acc i :=
  ⟨Z.sz, fun j v e => by
    obtain ⟨T, x, y, a1, a2, a3, a4, a5, a6⟩ := Z.at_ j v e
    exact ⟨T, x, y, a1, a2, Heap.lt_size (k _ _ a2 a6), a4, a5, k _ _ a2 a6⟩, Z.inj⟩
theorem ZAcc.push {lo i T : Nat} {h h' : Heap} {acc : Array Value} {x y : Value} (Z : ZAcc lo h xs ys acc i) (k : ∀ b o, lo ≤ b → h.get? b = some o → h'.get? b = some o) (hT : h.objs.size = T) (hlo : lo ≤ T) (p : IsPair h' T x y) (hx : xs[i]? = some x) (hy : ys[i]? = some y) : ZAcc lo h' xs ys (acc.push (.ref T)) (i + 1) := by
  have Z' := Z.keep k
  have far : ∀ (j : Nat) (v : Value), acc[j]? = some v → v ≠ Value.ref T := fun j v e z => by
    obtain ⟨T', _, _, a1, _, a3, _⟩ := Z.at_ j v e
    rw [a1] at z
    injection z with z
    rw [z, hT] at a3
    exact Nat.lt_irrefl _ a3
  refine ⟨by rw [Array.size_push, Z.sz], fun j v e => ?_, fun j j' v e e' => ?_⟩
  · rw [Array.getElem?_push] at e
    split at e
    · rename_i hj
      cases e
      rw [Z.sz] at hj
      subst hj
      exact ⟨T, x, y, rfl, hlo, Heap.lt_size p, hx, hy, p⟩
    · exact Z'.at_ j v e
  · rw [Array.getElem?_push] at e e'
    split at e
    · split at e'
      · omega
      · cases e
        exact absurd rfl (far _ _ e')
    · split at e'
      · cases e'
        exact absurd rfl (far _ _ e)
      · exact Z.inj _ _ _ e e'
theorem zip_loop {lo n : Nat} {res : Value} (hh : A.handled = none) (D : ZipApart z TI TO i1 i2 l1 l2) (sep : S ≠ z ∧ S ≠ TI ∧ S ≠ TO ∧ S ≠ i1 ∧ S ≠ i2 ∧ S ≠ l1 ∧ S ≠ l2) (hlo : S < lo ∧ z < lo ∧ TO < lo ∧ i1 < lo ∧ i2 < lo) (hn : n = min xs.size ys.size) (hz : n ≤ sizeLine) :
    ∀ (k i : Nat) (s : Shared) (acc : Array Value) (c : Nat), n - i = k → i ≤ n → lo ≤ s.heap.objs.size → ZSt s.heap z TI TO i1 i2 l1 l2 i xs ys → s.heap.get? S = some { cls := .type "list", dict := none, data := .seq acc c, slots := #[] } → ZAcc lo s.heap xs ys acc i →
    (∀ h' tk acc' c', (∀ b o, b ≠ S → b ≠ z → b ≠ TO → b ≠ i1 → b ≠ i2 → s.heap.get? b = some o → h'.get? b = some o) → h'.get? S = some { cls := .type "list", dict := none, data := .seq acc' c', slots := #[] } → ZAcc lo h' xs ys acc' n → Ri (.ok (.ret res)) { s with heap := h', toks := tk }) →
    codeAny (model prog w) A (.builtin "list.extend.loop" ⟨[.ref S, .ref z, res], []⟩) Ri s := by
  have ge : ∀ b : Addr, lo ≤ b → b ≠ S ∧ b ≠ z ∧ b ≠ TO ∧ b ≠ i1 ∧ b ≠ i2 := fun b hb => ⟨Nat.ne_of_gt (Nat.lt_of_lt_of_le hlo.1 hb), Nat.ne_of_gt (Nat.lt_of_lt_of_le hlo.2.1 hb), Nat.ne_of_gt (Nat.lt_of_lt_of_le hlo.2.2.1 hb), Nat.ne_of_gt (Nat.lt_of_lt_of_le hlo.2.2.2.1 hb), Nat.ne_of_gt (Nat.lt_of_lt_of_le hlo.2.2.2.2 hb)⟩
  intro k
  induction k with
  | zero =>
    intro i s acc c hk hi hs hst hS hacc hR
    have hin : i = n := by omega
    subst hin
    refine codeAny_builtin PySem.F.entry_extend_loop ?_
    rw [Around.under_plainId PySem.F.plain_extend_loop _]
    show wpAny _ A.in1 (pyNext (.ref z) >>= _) _ _ s
    have he : xs[i]? = none ∨ ys[i]? = none := by
      rcases Nat.le_total xs.size ys.size with q | q
      · exact .inl (Array.getElem?_eq_none (by omega))
      · exact .inr (Array.getElem?_eq_none (by omega))
    refine wpAny_bind (zs_end (A := A.in1) hh D hst he fun h' kp => ?_)
    exact wpAny_pure (hR h' s.toks acc c (fun b o b1 b2 b3 b4 b5 e => kp b o b2 b3 b4 b5 e) (kp _ _ sep.1 sep.2.2.1 sep.2.2.2.1 sep.2.2.2.2.1 hS) (hacc.keep fun b o hb e => kp b o (ge b hb).2.1 (ge b hb).2.2.1 (ge b hb).2.2.2.1 (ge b hb).2.2.2.2 e))
  | succ k ih =>
    intro i s acc c hk hi hs hst hS hacc hR
    have hlt : i < n := by omega
    have hx : xs[i]? = some xs[i] := Array.getElem?_eq_getElem (by omega)
    have hy : ys[i]? = some ys[i] := Array.getElem?_eq_getElem (by omega)
    refine codeAny_builtin PySem.F.entry_extend_loop ?_
    rw [Around.under_plainId PySem.F.plain_extend_loop _]
    show wpAny _ A.in1 (pyNext (.ref z) >>= _) _ _ s
    refine wpAny_bind (zs_next (A := A.in1) D hst hx hy fun h' st' hp hsz kp => ?_)
    have hS' := kp _ _ sep.1 sep.2.2.1 sep.2.2.2.1 sep.2.2.2.2.1 hS
    have ha' := hacc.push (h' := h') (T := s.heap.objs.size) (fun b o hb e => kp b o (ge b hb).2.1 (ge b hb).2.2.1 (ge b hb).2.2.2.1 (ge b hb).2.2.2.2 e) rfl hs hp hx hy
    show wpAny _ A.in1 (updateSeq S (·.push (.ref s.heap.objs.size)) >>= _) _ _ _
    refine wpAny_bind ?_
    have up : ∀ b o, b ≠ S → h'.get? b = some o → (h'.update S (Obj.mapSeq (·.push (.ref s.heap.objs.size)))).get? b = some o := fun b o hb e => (Heap.get?_update_other _ _ (Ne.symm hb)).trans e
    have atS := Heap.get?_update_self (Obj.mapSeq (·.push (.ref s.heap.objs.size))) hS' rfl
    refine wpAny_updateSeq (s := { s with heap := h' }) hS' rfl (wpAny_pure ⟨plainId_quiet PySem.F.plain_extend_loop _, ih (i + 1) _ (acc.push (.ref s.heap.objs.size)) _ (by omega) hlt ?_ (st'.frame sep up ⟨_, atS⟩) atS (ha'.keep fun b o hb e => up b o (ge b hb).1 e) fun h'' tk acc' c' k'' e'' a'' => ?_⟩)
      (by rw [hacc.sz]; omega) (by show (acc.push _).size ≤ sizeLine + 1; rw [Array.size_push, hacc.sz]; omega)
    · show lo ≤ (Heap.update _ _ _).objs.size
      rw [Heap.size_update, hsz]
      omega
    · exact hR h'' tk acc' c' (fun b o b1 b2 b3 b4 b5 e => k'' b o b1 b2 b3 b4 b5 (up b o b1 (kp b o b2 b3 b4 b5 e))) e'' a''
theorem zip_nolen : typeLookup (.type "zip") "__len__" = pure none := by rw [typeLookup_type, builtinLookup_eq_fast]; kernel_rfl
theorem zip_nohint : typeLookup (.type "zip") "__length_hint__" = pure none := by rw [typeLookup_type, builtinLookup_eq_fast]; kernel_rfl
theorem zip_fill {c0 : Nat} (hh : A.handled = none) (D : ZipApart z TI TO i1 i2 l1 l2) (sep : S ≠ z ∧ S ≠ TI ∧ S ≠ TO ∧ S ≠ i1 ∧ S ≠ i2 ∧ S ≠ l1 ∧ S ≠ l2) (hz : IsZip s.heap z TI TO .none) (st : ZSt s.heap z TI TO i1 i2 l1 l2 0 xs ys) (hS : s.heap.get? S = some { cls := .type "list", data := .seq #[] c0 }) (hn : min xs.size ys.size ≤ sizeLine)
    (hR : ∀ h' tk acc c', (∀ b o, b ≠ S → b ≠ z → b ≠ TO → b ≠ i1 → b ≠ i2 → s.heap.get? b = some o → h'.get? b = some o) → h'.get? S = some { cls := .type "list", dict := none, data := .seq acc c', slots := #[] } → ZAcc s.heap.objs.size h' xs ys acc (min xs.size ys.size) → Ri (.ok (.ret .none)) { s with heap := h', toks := tk }) :
    EndsIn prog w A Ri (Builtin.List.listExtendWith (.ref S) (.ref z) .none) s := by
  have hT : s.TypeIs (.ref z) "zip" := ⟨_, hz, rfl⟩
  have nl : Builtin.List.listSameRef (.ref S) (.ref z) = false := by simp [Builtin.List.listSameRef, sep.1]
  have h2 : (Value.type "zip" == Value.type "list") = false := by decide
  have h3 : (Value.type "zip" == Value.type "tuple") = false := by decide
  show wpAny _ A.in1 (Builtin.List.listExtendWith (.ref S) (.ref z) .none) _ _ s
  unfold Builtin.List.listExtendWith
  refine wpAny_bind (wpAny_typeOf hT ?_)
  simp only [nl, h2, h3, Bool.or_false, Bool.false_eq_true, if_false]
  refine wpAny_bind (wpAny_pyIter_zip hz ?_)
  refine wpAny_bind (wpAny_holding ?_)
  unfold Builtin.List.listLengthHint
  refine wpAny_bind (wpAny_specialOf hT zip_nolen ?_)
  show wpAny _ A.in1 (specialOf (Value.ref z) (Str.ofString "__length_hint__") >>= _) _ _ _
  refine wpAny_bind (wpAny_specialOf hT zip_nohint ?_)
  refine wpAny_pure ?_
  show wpAny _ A.in1 (rule "list.extend.makes-room" >>= fun _ => Builtin.List.listTouch (.ref S) >>= fun _ => again (.builtin "list.extend.loop" ⟨[.ref S, .ref z, .none], []⟩)) _ _ _
  refine wpAny_bind (wpAny_rule (wpAny_bind ?_))
  show wpAny _ A.in1 (updateSeq S (·.push .none) >>= fun _ => updateSeq S (·.pop)) _ _ _
  refine wpAny_bind (wpAny_updateSeq hS rfl ?_)
  have hS2 := Heap.get?_update_self (Obj.mapSeq (·.push Value.none)) hS rfl
  refine wpAny_updateSeq (hz := by seq_fits) hS2 rfl ?_
  have hS3 := Heap.get?_update_self (Obj.mapSeq (·.pop)) hS2 rfl
  have oth : ∀ b o, b ≠ S → s.heap.get? b = some o → ((s.heap.update S (Obj.mapSeq (·.push Value.none))).update S (Obj.mapSeq (·.pop))).get? b = some o :=
    fun b o hb e => (Heap.get?_update_other _ _ (Ne.symm hb)).trans ((Heap.get?_update_other _ _ (Ne.symm hb)).trans e)
  obtain ⟨o1, p1, _⟩ := st.h1
  obtain ⟨o2, p2, _⟩ := st.h2
  have hTO : TO < s.heap.objs.size := by
    rcases st.out with ⟨_, x0, y0, a2⟩ | ⟨T, f, oT, a1, a2⟩
    · exact Heap.lt_size a2
    · exact absurd (hz.symm.trans a1) (by simp [rawInt])
  refine wpAny_pure ⟨plainId_quiet PySem.F.plain_extend_loop _, zip_loop hh D sep (lo := s.heap.objs.size) ⟨Heap.lt_size hS, Heap.lt_size hz, hTO, Heap.lt_size p1, Heap.lt_size p2⟩ rfl hn _ 0 _ #[] _ rfl (Nat.zero_le _) ?_ (st.frame sep oth ⟨_, hS3⟩) hS3 ⟨rfl, fun j v e => by simp at e, fun j j' v e => by simp at e⟩ fun h' tk acc c' k e a => ?_⟩
  · show _ ≤ (Heap.update _ _ _).objs.size
    rw [Heap.size_update, Heap.size_update]
    exact Nat.le_refl _
  · exact hR h' tk acc c' (fun b o b1 b2 b3 b4 b5 e => k b o b1 b2 b3 b4 b5 (oth b o b1 e)) e a
/-- list(z), z a new zip of two lists -/
theorem call_list_zip {m : Nat} {Q : Value → Shared → Prop} (hh : A.handled = none) (D : ZipApart z TI TO i1 i2 l1 l2) (hz : IsZip s.heap z TI TO .none) (st : ZSt s.heap z TI TO i1 i2 l1 l2 0 xs ys) (hn : min xs.size ys.size ≤ sizeLine) (hm : m ≤ z ∧ m ≤ TO ∧ m ≤ i1 ∧ m ≤ i2) 
    (q : ∀ h' tk acc c', (∀ b o, b < m → s.heap.get? b = some o → h'.get? b = some o) → h'.get? s.heap.objs.size = some { cls := .type "list", dict := none, data := .seq acc c', slots := #[] } → ZAcc (s.heap.objs.size + 1) h' xs ys acc (min xs.size ys.size) → Q (.ref s.heap.objs.size) { s with heap := h', toks := tk }) :
    wpAny (model prog w) A (call (.type "list") [.ref z]) Q E s := by
  have ltT : TO < s.heap.objs.size := by
    rcases st.out with ⟨_, x0, y0, a2⟩ | ⟨T, f, oT, a1, a2⟩
    · exact Heap.lt_size a2
    · exact absurd (hz.symm.trans a1) (by simp [rawInt])
  obtain ⟨o1, p1, _⟩ := st.h1
  obtain ⟨o2, p2, _⟩ := st.h2
  obtain ⟨o3, p3, _⟩ := st.l1
  obtain ⟨o4, p4, _⟩ := st.l2
  have sep : s.heap.objs.size ≠ z ∧ s.heap.objs.size ≠ TI ∧ s.heap.objs.size ≠ TO ∧ s.heap.objs.size ≠ i1 ∧ s.heap.objs.size ≠ i2 ∧ s.heap.objs.size ≠ l1 ∧ s.heap.objs.size ≠ l2 :=
    ⟨Nat.ne_of_gt (Heap.lt_size hz), Nat.ne_of_gt (Heap.lt_size st.ti), Nat.ne_of_gt ltT, Nat.ne_of_gt (Heap.lt_size p1), Nat.ne_of_gt (Heap.lt_size p2), Nat.ne_of_gt (Heap.lt_size p3), Nat.ne_of_gt (Heap.lt_size p4)⟩
  refine list_of_fillZ fun s1 c0 Ri g1 g2 g3 k e0 hs fin => ?_
  refine zip_fill hh D sep (k _ _ hz) (st.frame sep (fun b o _ e => k b o e) ⟨_, e0⟩) e0 hn fun h' tk acc c' k' e' it => fin h' tk acc c' ?_
  have e1 : ({ s1 with heap := h', toks := tk } : Shared) = { s with heap := h', toks := tk } := by
    cases s1
    cases s
    cases g1
    cases g2
    cases g3
    rfl
  rw [e1]
  refine q h' tk acc c' (fun b o hb e => k' b o (Nat.ne_of_lt (Heap.lt_size e)) (Nat.ne_of_lt (Nat.lt_of_lt_of_le hb hm.1)) (Nat.ne_of_lt (Nat.lt_of_lt_of_le hb hm.2.1)) (Nat.ne_of_lt (Nat.lt_of_lt_of_le hb hm.2.2.1)) (Nat.ne_of_lt (Nat.lt_of_lt_of_le hb hm.2.2.2)) (k _ _ e)) e' ?_
  exact ⟨it.sz, fun j v e => by
    obtain ⟨T, x, y, a1, a2, a3⟩ := it.at_ j v e
    exact ⟨T, x, y, a1, Nat.le_trans hs a2, a3⟩, it.inj⟩
end
end DK
set_option Elab.async false
set_option linter.all false
set_option autoImplicit false
set_option maxRecDepth 100000
/-! DK2: list(reversed(range)), list(zip) in the hand layer. -/
namespace DK
open PySem PySem.Spec PySem.Calls L2
open PyProof.Rows hiding St
/-- a range's ints from its end -/
def rvV (a b : Int) : List V := (List.range (b - a).toNat).map fun i => V.int (a + (((b - a).toNat : Nat) : Int) - 1 + (i : Nat) * (-1))
def tLstRv (te : St → Hp → (Int → Int → Hp → Prop) → Prop) : TE := fun σ H Q => te σ H fun a b H1 => RgOk a b ∧ ∀ q, H1 q = none → Q (.ref q) (upd H1 q (.lst (rvV a b)))
theorem vals_rv {acc : Array Value} {m n : Nat} {a c : Int} (h : ItemsOf (fun i v => ∃ t, v = .int (a + i * c) t) acc n) : Vals ((List.range n).map fun i => V.int (a + (i : Nat) * c)) acc.toList := by
  refine vals_of_at (by rw [List.length_map, List.length_range, Array.length_toList, h.1]) fun j x u e1 e2 => ?_
  rw [Array.getElem?_toList] at e2
  obtain ⟨t, e3⟩ := h.2 j u e2
  rw [List.getElem?_map] at e1
  have hj : j < n := by
    have := (Array.getElem?_eq_some_iff.mp e2).1
    rw [h.1] at this
    exact this
  rw [List.getElem?_range hj] at e1
  cases e1
  exact ⟨t, e3⟩
theorem pe_listRv {X : Cx} {e : Expr} {te : St → Hp → (Int → Int → Hp → Prop) → Prop} {p p2 pos pos2 : Pos} (hc : X.calm = true) (hg : Gl X "list") (hm : X.mg "list" = none) (hg2 : Gl X "reversed") (hm2 : X.mg "reversed" = none) (he : PRg X e te)
    (na : starEach [e] X.env = (false, eval e X.env) :: starEach [] X.env := by rfl) (nb : starEach [Expr.Call (.Name "reversed" p2) [e] [] pos2] X.env = (false, eval (Expr.Call (.Name "reversed" p2) [e] [] pos2) X.env) :: starEach [] X.env := by rfl) :
    PE X (.Call (.Name "list" p) [.Call (.Name "reversed" p2) [e] [] pos2] [] pos) (tLstRv te) := by
  refine ⟨fun pins s σ H Q I h => ?_⟩
  refine Call_ (ld_blt I hg hm boot_list (PyProof.Rows.callWith_type1 (args_cons ?_ nb) nb))
  refine Call_ (ld_blt I hg2 hm2 PyProof.Rows.boot_reversed (PyProof.Rows.callWith_type1 (args_cons (thn (he pins s σ H _ I h) fun x s1 ⟨r, a, b, t, u, v, H1, ex, hr, I1, ok, q⟩ => args_nil ?_) na) na))
  subst ex
  obtain ⟨b1, b2, b3, b4, b5⟩ := ok
  have hn : Builtin.Range.rangeSize a b 1 = (((b - a).toNat : Nat) : Int) := rangeSize_nat a b
  refine call_reversed_range hr (smallRev_one b1 b2 b3 b4) (args_nil ?_)
  have it : IsRangeIter (s1.heap.push (rngRevObj a b 1)) s1.heap.objs.size (a + (((b - a).toNat : Nat) : Int) - 1) (((b - a).toNat : Nat) : Int) (-1) := by
    have e1 : a + ((((b - a).toNat : Nat) : Int) - 1) * 1 = a + (((b - a).toNat : Nat) : Int) - 1 := by omega
    have eo : rngRevObj a b 1 = { cls := .type "range_iterator", data := .fields #[rawInt (a + (((b - a).toNat : Nat) : Int) - 1), rawInt (((b - a).toNat : Nat) : Int), rawInt (-1)] } := by
      unfold rngRevObj
      rw [hn, e1]
    exact (Heap.get?_push_size (h := s1.heap) (o := rngRevObj a b 1) rfl).trans (congrArg some eo)
  have hs : (s1.heap.push (rngRevObj a b 1)).objs.size = s1.heap.objs.size + 1 := Heap.size_push _ _
  refine call_list_ri (s := { s1 with heap := s1.heap.push (rngRevObj a b 1) }) (I1.ok.hd hc) it b5 fun h' tk acc c' hk e' hi => ?_
  have k : ∀ c o, s1.heap.get? c = some o → h'.get? c = some o := fun c o e => hk c o (Nat.ne_of_lt (Heap.lt_size e)) (Heap.get?_push_of_some _ e)
  show ∃ _, _
  rw [hs] at e' ⊢
  refine ⟨.ref (s1.heap.objs.size + 1), upd H1 (s1.heap.objs.size + 1) (.lst (rvV a b)), I1.laid k (Nat.le_succ _) (show ObjOk X.prog X.w _ _ _ (.lst (rvV a b)) from ⟨?_, acc.toList, c', vals_rv (m := 0) hi, ?_⟩), rfl, q _ (I1.hok.fresh (Nat.le_succ _))⟩
  · unfold rvV
    rw [List.length_map, List.length_range, sizeLine_eq]
    omega
  · rw [Array.toArray_toList]
    exact e'
end DK
namespace DK
open PySem PySem.Spec PySem.Calls L2
open PyProof.Rows hiding St
/-- tuples laid one behind the other -/
def layT (H : Hp) : List (Addr × List V) → Hp
  | [] => H
  | q :: r => layT (upd H q.1 (.tup q.2)) r
section
variable {P : Program} {w : World} {h : Heap}
theorem layT_ne {b : Addr} : ∀ {l : List (Addr × List V)} {H : Hp}, (∀ q ∈ l, q.1 ≠ b) → layT H l b = H b
  | [], _, _ => rfl
  | q :: r, H, k => by
    show layT (upd H q.1 (.tup q.2)) r b = _
    rw [layT_ne fun p hp => k p (List.mem_cons_of_mem _ hp), upd_ne (k q List.mem_cons_self).symm]
theorem layT_ok : ∀ {l : List (Addr × List V)} {H : Hp}, HOk P w H h → (∀ q ∈ l, H q.1 = none) → (l.map (·.1)).Nodup → (∀ q ∈ l, q.2.length ≤ sizeLine ∧ ∃ its : List Value, Vals q.2 its ∧ IsTup h q.1 its.toArray) → HOk P w (layT H l) h ∧ (∀ q ∈ l, layT H l q.1 = some (.tup q.2))
  | [], _, x, _, _, _ => ⟨x, fun q hq => nomatch hq⟩
  | q :: r, H, x, n, d, t => by
    obtain ⟨d1, d2⟩ := List.nodup_cons.mp d
    have nq := n q List.mem_cons_self
    have ne : ∀ p ∈ r, p.1 ≠ q.1 := fun p hp e => d1 (List.mem_map.mpr ⟨p, hp, e⟩)
    have x1 : HOk P w (upd H q.1 (.tup q.2)) h := fun b u e => by
      by_cases hb : b = q.1
      · subst hb
        rw [upd_same] at e
        cases e
        exact t q List.mem_cons_self
      · rw [upd_ne hb] at e
        exact (x b u e).stay (fun c v _ q => q) (fun c z => by rw [upd_ne (ne_of_none z nq)]; exact z) fun c xs z => by rw [upd_ne (ne_of_none z nq)]; exact z
    obtain ⟨y1, y2⟩ := layT_ok (l := r) x1 (fun p hp => by rw [upd_ne (ne p hp)]; exact n p (List.mem_cons_of_mem _ hp)) d2 fun p hp => t p (List.mem_cons_of_mem _ hp)
    refine ⟨y1, fun p hp => ?_⟩
    rcases List.mem_cons.mp hp with e | hp
    · subst e
      show layT (upd H p.1 (.tup p.2)) r p.1 = _
      rw [layT_ne ne, upd_same]
    · exact y2 p hp
end
/-- new tuples, then the list of them -/
def tLstZp (K : PySem.W.Frag) (ta : TA) : TE := fun σ H Q => ta σ H fun vs H1 => ∃ a b xs ys, vs = [V.ref a, .ref b] ∧ SqL K H1 a xs ∧ SqL K H1 b ys ∧ min xs.length ys.length ≤ sizeLine ∧
  ∀ (l : List (Addr × List V)) (q : Addr), (∀ p ∈ l, H1 p.1 = none) → (l.map (·.1)).Nodup → l.map (·.2) = List.zipWith (fun x y => [x, y]) xs ys → H1 q = none → q ∉ l.map (·.1) → Q (.ref q) (upd (layT H1 l) q (.lst (l.map fun p => V.ref p.1)))
theorem un_new {fs ex : List Addr} {H H' : Hp} {h h' : Heap} (k : ∀ b u, h.get? b = some u → h'.get? b = some u) (o : ∀ b, b < h.objs.size → H' b = H b) (n : ∀ b u, H b = some u → H' b = some u) : Un fs ex H H' h h' where
  keep := fun b u q _ _ _ => k b u q
  slot := fun b u q _ _ _ => ⟨u.slots, k b u q⟩
  free := fun b u q z _ => by rw [o b (Heap.lt_size q)]; exact z
  there := fun b u q _ => ⟨u, k b u q⟩
  tups := fun b xs q => n b _ q
  frzs := fun b u xs q => n b _ q
  tbls := fun b ps q => ⟨#[], by rw [n b _ q]; simp⟩
theorem hok_track {P : Program} {w : World} {H : Hp} {h : Heap} {a : Addr} {o : HO} (x : HOk P w H h) (n : H a = none) (new : ObjOk P w (upd H a o) h a o) : HOk P w (upd H a o) h := fun b u e => by
  by_cases hb : b = a
  · subst hb
    rw [upd_same] at e
    cases e
    exact new
  · rw [upd_ne hb] at e
    exact (x b u e).stay (fun c v _ q => q) (fun c z => by rw [upd_ne (ne_of_none z n)]; exact z) fun c xs z => by rw [upd_ne (ne_of_none z n)]; exact z
def adOf : Value → Addr
  | .ref a => a
  | _ => 0
theorem zw_get {α β γ : Type} {f : α → β → γ} {l : List α} {m : List β} {i : Nat} {a : α} {b : β} (h1 : l[i]? = some a) (h2 : m[i]? = some b) : (List.zipWith f l m)[i]? = some (f a b) := by
  rw [List.getElem?_zipWith, h1, h2]
/-- what the walk leaves, as tuples to be tracked -/
theorem zacc_list {lo : Nat} {h : Heap} {its1 its2 : List Value} {xs ys : List V} {acc : Array Value} (Z : ZAcc lo h its1.toArray its2.toArray acc (min its1.toArray.size its2.toArray.size)) (r1 : Vals xs its1) (r2 : Vals ys its2) :
    ∃ l : List (Addr × List V), l.map (·.2) = List.zipWith (fun x y => [x, y]) xs ys ∧ (l.map (·.1)).Nodup ∧ (∀ q ∈ l, lo ≤ q.1) ∧ (∀ q ∈ l, q.2.length ≤ sizeLine ∧ ∃ its : List Value, Vals q.2 its ∧ IsTup h q.1 its.toArray) ∧ Vals (l.map fun p => V.ref p.1) acc.toList := by
  have hz : (List.zipWith (fun x y => [x, y]) xs ys).length = acc.toList.length := by
    have z1 := r1.length
    have z2 := r2.length
    have z3 := Z.sz
    simp only [List.size_toArray] at z3
    rw [List.length_zipWith]
    simp only [Array.length_toList]
    omega
  have get : ∀ {i : Nat} {p : Addr × List V}, (List.zipWith (fun v xy => (adOf v, xy)) acc.toList (List.zipWith (fun x y => [x, y]) xs ys))[i]? = some p → ∃ (T : Addr) (x y : Value) (u v : V), acc[i]? = some (.ref T) ∧ lo ≤ T ∧ PySem.IsPair h T x y ∧ RelV u x ∧ RelV v y ∧ p = (T, [u, v]) := fun {i p} e => by
    rw [List.getElem?_zipWith] at e
    cases e1 : acc.toList[i]? with
    | none =>
      rw [e1] at e
      cases e
    | some a =>
      rw [e1, List.getElem?_zipWith] at e
      rw [Array.getElem?_toList] at e1
      obtain ⟨T, x, y, a1, a2, a3, a4, a5, a6⟩ := Z.at_ i a e1
      subst a1
      rw [List.getElem?_toArray] at a4 a5
      have l1 : i < xs.length := by rw [r1.length]; exact (List.getElem?_eq_some_iff.mp a4).1
      have l2 : i < ys.length := by rw [r2.length]; exact (List.getElem?_eq_some_iff.mp a5).1
      have e3 := List.getElem?_eq_getElem l1
      have e4 := List.getElem?_eq_getElem l2
      obtain ⟨x', b1, b2⟩ := r1.get e3
      obtain ⟨y', c1, c2⟩ := r2.get e4
      rw [a4] at b1
      cases b1
      rw [a5] at c1
      cases c1
      rw [e3, e4] at e
      cases e
      exact ⟨T, x, y, _, _, e1, a2, a6, b2, c2, rfl⟩
  refine ⟨List.zipWith (fun v xy => (adOf v, xy)) acc.toList (List.zipWith (fun x y => [x, y]) xs ys), ?_, ?_, fun q hq => ?_, fun q hq => ?_, ?_⟩
  · refine List.ext_getElem? fun i => ?_
    rw [List.getElem?_map, List.getElem?_zipWith]
    cases e1 : acc.toList[i]? with
    | none =>
      have : (List.zipWith (fun x y => [x, y]) xs ys)[i]? = none := by
        rw [List.getElem?_eq_none_iff] at e1 ⊢
        omega
      rw [this] <;> rfl
    | some a =>
      cases e2 : (List.zipWith (fun x y => [x, y]) xs ys)[i]? with
      | none => rfl
      | some b => rfl
  · refine List.pairwise_iff_getElem.mpr fun i j hi hj hij e => ?_
    rw [List.getElem_map, List.getElem_map] at e
    rw [List.length_map] at hi hj
    obtain ⟨T, _, _, _, _, a1, _, _, _, _, a6⟩ := get (List.getElem?_eq_getElem hi)
    obtain ⟨T', _, _, _, _, b1, _, _, _, _, b6⟩ := get (List.getElem?_eq_getElem hj)
    rw [a6, b6] at e
    have e : T = T' := e
    subst e
    have := Z.inj i j _ a1 b1
    omega
  · obtain ⟨i, hi⟩ := List.getElem?_of_mem hq
    obtain ⟨T, x, y, u, v, a1, a2, a3, a4, a5, a6⟩ := get hi
    subst a6
    exact a2
  · obtain ⟨i, hi⟩ := List.getElem?_of_mem hq
    obtain ⟨T, x, y, u, v, a1, a2, a3, a4, a5, a6⟩ := get hi
    subst a6
    exact ⟨by show 2 ≤ sizeLine; decide, [x, y], .cons a4 (.cons a5 .nil), ⟨_, a3, rfl, _, rfl⟩⟩
  · refine vals_of_at (by rw [List.length_map, List.length_zipWith]; omega) fun j x u e1 e2 => ?_
    rw [List.getElem?_map] at e1
    cases q : (List.zipWith (fun v xy => (adOf v, xy)) acc.toList (List.zipWith (fun x y => [x, y]) xs ys))[j]? with
    | none =>
      rw [q] at e1
      cases e1
    | some p =>
      rw [q] at e1
      cases e1
      obtain ⟨T, _, _, _, _, a1, _, _, _, _, a6⟩ := get q
      rw [Array.getElem?_toList, a1] at e2
      cases e2
      rw [a6] <;> rfl
theorem pe_listZp {X : Cx} {e e2 : Expr} {ta : TA} {p p2 pos pos2 : Pos} (hc : X.calm = true) (hg : Gl X "list") (hm : X.mg "list" = none) (hg2 : Gl X "zip") (hm2 : X.mg "zip" = none) (ha : PA X [e, e2] ta)
    (na : starEach [e, e2] X.env = (false, eval e X.env) :: starEach [e2] X.env := by rfl) (npl : (backTo pos2 (starEach [e2] X.env)).any (·.1) = false := by rfl) (nb : starEach [Expr.Call (.Name "zip" p2) [e, e2] [] pos2] X.env = (false, eval (Expr.Call (.Name "zip" p2) [e, e2] [] pos2) X.env) :: starEach [] X.env := by rfl) :
    PE X (.Call (.Name "list" p) [.Call (.Name "zip" p2) [e, e2] [] pos2] [] pos) (tLstZp X.K ta) := by
  refine ⟨fun pins s σ H Q I h => ?_⟩
  refine Call_ (ld_blt I hg hm boot_list (PyProof.Rows.callWith_type1 (args_cons ?_ nb) nb))
  refine Call_ (ld_blt I hg2 hm2 boot_zip (PyProof.Rows.callWith_type1 (thn (ha.run pos2 pins s σ H _ I h) fun us s1 ⟨vs, H1, I1, r1, a, b, xs, ys, ex, hq1, hq2, hz, q⟩ => ?_) na npl))
  subst ex
  cases r1 with
  | cons ra rr =>
  cases rr with
  | cons rb rn =>
  cases rn
  cases ra
  cases rb
  obtain ⟨its1, rv1, p1, _⟩ := I1.list hq1
  obtain ⟨its2, rv2, p2', _⟩ := I1.list hq2
  obtain ⟨oa, ea, _⟩ := p1.isList
  obtain ⟨ob, eb, _⟩ := p2'.isList
  refine call_zip_2 p1.isList p2'.isList fun h' iz iti ito li1 li2 hsz hk => args_nil ?_
  have D : PySem.ZipApart (s1.heap.objs.size + 4) (s1.heap.objs.size + 2) (s1.heap.objs.size + 3) s1.heap.objs.size (s1.heap.objs.size + 1) a b := PySem.W.ktu_apart s1.heap.objs.size a b (Heap.lt_size ea) (Heap.lt_size eb)
  refine call_list_zip (s := { s1 with heap := h' }) (m := s1.heap.objs.size) (I1.ok.hd hc) D iz ⟨.inl ⟨iz, _, _, ito⟩, iti, li1, li2, p1.isList.at fun o e => hk _ _ e, p2'.isList.at fun o e => hk _ _ e⟩ (by rw [List.size_toArray, List.size_toArray, ← rv1.length, ← rv2.length]; exact hz)
    ⟨Nat.le_add_right _ _, Nat.le_add_right _ _, Nat.le_refl _, Nat.le_add_right _ _⟩ fun h'' tk acc c' k e' za => ?_
  show ∃ _, _
  rw [hsz] at e' za ⊢
  have kk : ∀ b o, s1.heap.get? b = some o → h''.get? b = some o := fun b o e => k b o (Heap.lt_size e) (hk _ _ e)
  obtain ⟨l, l1, l2, l3, l4, l5⟩ := zacc_list za rv1 rv2
  have fr : ∀ b, s1.heap.objs.size ≤ b → H1 b = none := fun b hb => I1.hok.fresh hb
  have lo : ∀ p ∈ l, s1.heap.objs.size ≤ p.1 := fun p hp => Nat.le_trans (Nat.le_add_right _ 6) (l3 p hp)
  obtain ⟨y1, y2⟩ := layT_ok (I1.hok.kept kk) (fun p hp => fr _ (lo p hp)) l2 l4
  have nD : ∀ p ∈ l, p.1 ≠ s1.heap.objs.size + 5 := fun p hp => Nat.ne_of_gt (l3 p hp)
  have hD : layT H1 l (s1.heap.objs.size + 5) = none := by
    rw [layT_ne nD]
    exact fr _ (Nat.le_add_right _ _)
  have old : ∀ b, (∀ p ∈ l, p.1 ≠ b) → b ≠ s1.heap.objs.size + 5 → upd (layT H1 l) (s1.heap.objs.size + 5) (.lst (l.map fun p => V.ref p.1)) b = H1 b := fun b h1 h2 => by
    rw [upd_ne h2, layT_ne h1]
  have len : (l.map fun p => V.ref p.1).length ≤ sizeLine := by
    have := congrArg List.length l1
    rw [List.length_map, List.length_zipWith] at this
    rw [List.length_map, this]
    exact hz
  have hok := hok_track (o := .lst (l.map fun p => V.ref p.1)) y1 hD (show ObjOk X.prog X.w _ _ _ (.lst _) from ⟨len, acc.toList, c', l5, by rw [Array.toArray_toList]; exact e'⟩)
  refine ⟨.ref (s1.heap.objs.size + 5), _, I1.un (un_new kk (fun b hb => old b (fun p hp e => Nat.lt_irrefl _ (Nat.lt_of_lt_of_le (e ▸ hb) (lo p hp))) (Nat.ne_of_lt (Nat.lt_of_lt_of_le hb (Nat.le_add_right _ _)))) fun b u e => ?_) hok, rfl, q l _ (fun p hp => fr _ (lo p hp)) l2 l1 (fr _ (Nat.le_add_right _ _)) fun z => ?_⟩
  · have hb : b < s1.heap.objs.size := (I1.hok b u e).lt
    rw [old b (fun p hp e => Nat.lt_irrefl _ (Nat.lt_of_lt_of_le (e ▸ hb) (lo p hp))) (Nat.ne_of_lt (Nat.lt_of_lt_of_le hb (Nat.le_add_right _ _)))]
    exact e
  · obtain ⟨p, hp, e⟩ := List.mem_map.mp z
    exact nD p hp e
end DK
set_option Elab.async false
set_option linter.all false
set_option autoImplicit false
set_option maxRecDepth 100000
/-! DK3: max(d.values()). -/
namespace DK
open PySem PySem.Spec PySem.Calls L2
open PyProof.Rows hiding St
def tMaxVals (td : TE) : TE := fun σ H Q => td σ H fun x H1 => ∃ a kvs is, x = V.ref a ∧ H1 a = some (.dK kvs) ∧ kvs.map (·.2) = is.map V.int ∧ is ≠ [] ∧ ∀ m, m ∈ is → (∀ j ∈ is, j ≤ m) → Q (.int m) H1
abbrev viewO (a : Addr) : Obj := { cls := .type "dict_values", data := .fields #[.ref a] }
theorem pe_maxVals {X : Cx} {o : Expr} {p pos apos mpos : Pos} {td : TE} (hc : X.calm = true) (hg : Gl X "max") (hm : X.mg "max" = none) (hd : PE X o td) (hbase : attributeBase o "values" X.env (eval o X.env) = eval o X.env := by rfl) (hline : (apos.endLine == mpos.line) = true := by rfl)
    (hse : starEach [Expr.Call (.Attribute o "values" apos) [] [] mpos] X.env = [(false, eval (Expr.Call (.Attribute o "values" apos) [] [] mpos) X.env)] := by rfl) :
    PE X (.Call (.Name "max" p) [.Call (.Attribute o "values" apos) [] [] mpos] [] pos) (tMaxVals td) := by
  refine ⟨fun pins s σ H Q I h => ?_⟩
  refine wpAny_Call_Name_kw (ld_blt I hg hm (u := .builtin "max") (by first | rfl | decide +kernel) ?_ (by first | decide +kernel | decide) (by first | decide +kernel | decide))
  rw [hse]
  refine PySem.callWith_builtin1 (wpAny_Call_method0_late hbase hline (thn (hd.run pins s σ H _ I h) fun v s1 ⟨x, H1, I1, r1, a, kvs, is, ex, ha, hv, hne, q⟩ => ?_))
  subst ex
  cases r1
  obtain ⟨_, hsys, vs, rel, dof⟩ := dk_of I1.hok ha
  obtain ⟨ep, dat⟩ := dof.dictAt
  obtain ⟨ob, es, ho, ex, hdat, hko, hpr, hnd⟩ := id dat
  refine ⟨"dict", "dict.values", PySem.F.plainAttrs_dict, PySem.F.slot_dict_values, PySem.F.type_dict_values, ⟨ob, ho, ex.1⟩, fun b e => ?_, Calls.callWith_builtin rfl (PySem.evalArgs_none ?_)⟩
  · cases e
    exact ⟨ob, ho, ex.2.1⟩
  refine call_meetsIn PySem.F.slot_dict_values ⟨ob, ho, ex.1⟩ PySem.F.entry_dict_values (PySem.F.args_dict_values_1 _) (meets_dict_values (mixKind X.prog X.w) a hsys) ⟨⟨vs, dof⟩, ?_⟩
  have up : ∀ b u, s1.heap.get? b = some u → (s1.heap.push (viewO a)).get? b = some u := fun b u e => Heap.get?_push_of_some _ e
  have dat1 : (s1.heap.push (viewO a)).DictAt (mixKind X.prog X.w) a vs ep := dat.keep up
  have lens : vs.length = is.length := by
    have e1 := congrArg List.length hv
    rw [List.length_map, List.length_map, KV.length rel] at e1
    exact e1
  have pos : 0 < vs.length := by
    rw [lens]
    exact List.length_pos_iff.mpr hne
  have val : ∀ (i : Nat) (v : Value), (∃ k, vs[i]? = some (k, v)) → ∃ t, v = Value.int (is.getD i 0) t := fun i v ⟨k, hk⟩ => by
    obtain ⟨x, h1, h2⟩ := KV.at' rel hk
    have e1 : (kvs.map (·.2))[i]? = some x := by rw [List.getElem?_map, h1] <;> rfl
    rw [hv, List.getElem?_map] at e1
    obtain ⟨j, hj, e2⟩ := Option.map_eq_some_iff.mp e1
    subst e2
    obtain ⟨t, e3⟩ := h2
    exact ⟨t, by rw [e3, List.getD_eq_getElem?_getD, hj] <;> rfl⟩
  have lt : a < s1.heap.objs.size := Heap.lt_size ho
  have hsz : (s1.heap.push (viewO a)).objs.size = s1.heap.objs.size + 1 := Heap.size_push _ _
  refine call_max_walk (wpAny_pyIter_values (v := s1.heap.objs.size) (d := a) ⟨_, Heap.get?_push_size _ rfl, rfl, rfl⟩ dat1 ?_)
  refine ⟨_, _, _, _, _, _, _, rfl, Walks.dictValues (knd := mixKind X.prog X.w) (A := X.A.in1) (I.ok.hd hc) (s1.heap.push (viewO a)).objs.size a (by rw [hsz]; exact Nat.ne_of_lt (Nat.lt_succ_of_lt lt)) vs ep,
    ⟨⟨_, Heap.get?_push_size _ rfl, rfl, rfl⟩, dat1.keep fun b u e => Heap.get?_push_of_some _ e⟩, fun b hb => ?_, pos, CmpOf.ints_gt (fun i => is.getD i 0) val, fun v h' tk hP hk => ?_⟩
  · show b < ((s1.heap.push _).push _).objs.size
    rw [Heap.size_push, Heap.size_push]
    rw [hsz] at hb
    rcases List.mem_cons.mp hb with e | hb
    · rw [e]
      exact Nat.lt_succ_self _
    · rw [show b = a from List.mem_singleton.mp hb]
      exact Nat.lt_succ_of_lt (Nat.lt_succ_of_lt lt)
  · obtain ⟨t, rfl⟩ := val _ v hP
    obtain ⟨b1, b2⟩ := argBest_gt (fun i => is.getD i 0) (vs.length - 1)
    refine ⟨.int _, H1, I1.kept (t' := tk) fun b u e => hk b u (fun hmem => ?_) (Heap.get?_push_of_some _ (up b u e)), ⟨t, rfl⟩, q _ ?_ fun j hj => ?_⟩
    · have e1 : b = (s1.heap.push (viewO a)).objs.size := List.mem_singleton.mp hmem
      have e2 := Heap.lt_size e
      rw [hsz] at e1
      rw [e1] at e2
      exact absurd e2 (Nat.not_lt.mpr (Nat.le_succ _))
    · have hb : argBest (fun i j => decide (is.getD i 0 > is.getD j 0)) (vs.length - 1) < is.length := by omega
      rw [List.getD_eq_getElem?_getD, List.getElem?_eq_getElem hb]
      exact List.getElem_mem hb
    · obtain ⟨i, hi, e⟩ := List.mem_iff_getElem.mp hj
      have e2 : is.getD i 0 = j := by rw [List.getD_eq_getElem?_getD, List.getElem?_eq_getElem hi, ← e] <;> rfl
      rw [← e2]
      exact b2 i (by omega)
end DK
set_option Elab.async false
set_option linter.all false
set_option autoImplicit false
set_option maxRecDepth 100000
/-! DK4: sorted(.., key=lambda k: (0 - xs[k], k)). -/
namespace DK
open PySem PySem.Spec PySem.Calls L2 LamX
open PyProof.Rows hiding St
open PySem.W (kla_obj kla_fn KeyPure KeepsBut)
section
variable {prog : Program} {w : World} {A : Around} {E : Value → Shared → Prop} {s : Shared}
/-- such a lambda's body, at its parameter's value -/
theorem lam_body {env : Env} {x y : Str} {m : Str → Option Value} {c p : Addr} {items : Array Value} {j r : Int} {t tr : Tok} {k1 k2 : Nat} {p1 p2 p3 p4 p5 p6 p7 : Pos} {Q : Value → Shared → Prop}
    (hk : env.scope.kind = .function) (hx : env.kindOf x = some .local) (hy : env.kindOf y = some .free) (hn : s.heap.Ns env.locals m) (hm : m x = some (.int j t)) (hc : env.cells.lookup y = some c) (hv : s.heap.IsCell c (some (.ref p))) (hl : s.heap.IsList p items) (h0 : 0 ≤ j) (hj : j < 2 ^ 63) (hi : items[j.toNat]? = some (.int r tr))
    (hdx : (x == ("__debug__" : Str)) = false) (hdy : (y == ("__debug__" : Str)) = false) (hcy : (y == ("__classdict__" : Str)) = false)
    (he : starEach [Expr.BinOp (.Constant (.int 0) k1 p1) .Sub (.Subscript (.Name y p2) (.Name x p3) p4) p5, .Name x p6] env = [(false, eval (Expr.BinOp (.Constant (.int 0) k1 p1) .Sub (.Subscript (.Name y p2) (.Name x p3) p4) p5) env), (false, eval (.Name x p6) env)])
    (q : ∀ (tk : Nat) (t' : Tok), Q (.ref s.heap.objs.size) { s with heap := s.heap.push { cls := .type "tuple", data := .seq #[.int (0 - r) t', .int j t] }, toks := tk }) :
    wpAny (model prog w) A (eval (.Tuple [.BinOp (.Constant (.int 0) k1 p1) .Sub (.Subscript (.Name y p2) (.Name x p3) p4) p5, .Name x p6] k2 p7) env) Q E s := by
  refine wpAny_Tuple_spliced ?_
  rw [he]
  show wpAny _ _ (spliced ((false, eval (.BinOp (.Constant (.int 0) k1 p1) .Sub (.Subscript (.Name y p2) (.Name x p3) p4) p5) env) :: (false, eval (.Name x p6) env) :: [])) _ _ _
  refine spliced_cons (wpAny_BinOp (wpAny_Constant_int (Subscript_ (wpAny_Name (wpAny_loadName_free hk hy hc hv (wpAny_Name (wpAny_loadName_local hk hx hn hm (item_listR hl h0 hj hi (sub_int ?_) (by first | rfl | with_unfolding_all rfl))) hdx) hcy) hdy))))
  refine spliced_cons (wpAny_Name (wpAny_loadName_local hk hx hn hm ?_) hdx)
  refine spliced_nil ⟨by show 2 ≤ sizeLine; decide, ?_⟩
  exact q _ _
/-- a name of its own, x, and one captured, y -/
structure LamK (scope : Scope) (x y : Str) : Prop where
  kind : scope.kind = .function
  co : scope.isCoroutine = false
  gen : scope.isGenerator = false
  cell : ∀ z ∈ scope.names, z.2 ≠ .cell
  lx : scope.names.lookup x = some .local
  ly : scope.names.lookup y = some .free
  dx : (x == ("__debug__" : Str)) = false
  dy : (y == ("__debug__" : Str)) = false
  cy : (y == ("__classdict__" : Str)) = false
abbrev lamTree (x y : Str) (k1 k2 : Nat) (p1 p2 p3 p4 p5 p6 p7 : Pos) : Expr := .Tuple [.BinOp (.Constant (.int 0) k1 p1) .Sub (.Subscript (.Name y p2) (.Name x p3) p4) p5, .Name x p6] k2 p7
/-- the lambda called with a place -/
theorem lam_turn {f c' c p : Addr} {q x y : Str} {params : Arguments} {scope : Scope} {clos : List (Str × Addr)} {pm ctv : Value} {items : Array Value} {j r : Int} {t tr : Tok} {k1 k2 : Nat} {p1 p2 p3 p4 p5 p6 p7 : Pos} (S : LamK scope x y)
    (of : s.heap.get? f = some (kla_obj "<lambda>" q params (lamTree x y k1 k2 p1 p2 p3 p4 p5 p6 p7) scope clos pm c' ctv)) (hcd : ∃ (oc : Obj) (vs : Array Value) (t : Tok), s.heap.get? c' = some oc ∧ oc.data = .fields vs ∧ vs[1]? = some (.str q t)) (hroom : A.depth < recursionLimit) (nl : s.heap.NoLimit)
    (hbind : ∀ v : Value, bindArgs (kla_fn "<lambda>" q params (lamTree x y k1 k2 p1 p2 p3 p4 p5 p6 p7) scope clos pm (.ref c') ctv) ⟨[v], []⟩ = pure [(x, v)])
    (hc : clos.lookup y = some c) (hv : s.heap.IsCell c (some (.ref p))) (hl : s.heap.IsList p items) (h0 : 0 ≤ j) (hj : j < 2 ^ 63) (hi : items[j.toNat]? = some (.int r tr)) :
    wpAny (model prog w) A (call (.ref f) [.int j t]) (KeyPure (.tuple [.int (0 - r), .int j]) s) (fun _ _ => False) s := by
  obtain ⟨oc, vs, tq, hoc, hdc, hvc⟩ := hcd
  refine wpAny_call (PySem.W.kla_callFunE hroom of rfl S.co S.gen rfl ⟨c', oc, vs, tq, rfl, hoc, hdc, hvc⟩ ?_)
  rw [hbind]
  refine wpAny_pure (wpAny_newFunctionEnv S.cell (fun z hz => ?_) (fun h1 hns hsb => ⟨nl.fresh _ hsb, ?_⟩) S.kind)
  · rw [List.mem_singleton.mp hz]
    exact S.lx
  show codeAny _ _ (.expr _ (PySem.W.envX q scope s.heap.objs.size f (.ref c') clos)) _ _
  have kp : ∀ b o, s.heap.get? b = some o → h1.get? b = some o := fun b o e => hsb.extBut b o (Nat.ne_of_lt (Heap.lt_size e)) (Heap.get?_push_of_some _ e)
  refine PySem.W.kla_codeExpr (lam_body (t := t) (env := PySem.W.envX q scope s.heap.objs.size f (.ref c') clos) (s := { s with heap := h1, toks := s.toks + 1 }) (m := fun z => ([(x, Value.int j t)] : List (Str × Value)).reverse.lookup z) S.kind S.lx S.ly hns ?_ hc (hv.keeps kp) (hl.at fun o e => kp _ _ e) h0 hj hi S.dx S.dy S.cy ?_ fun tk t' => ?_)
  · show (match x == x with | true => some (Value.int j t) | false => none) = _
    rw [beq_self_eq_true]
  · rfl
  · refine ⟨h1.push { cls := .type "tuple", data := .seq #[.int (0 - r) t', .int j t] }, tk, rfl, fun b o e => Heap.get?_push_of_some _ (kp b o e), ?_⟩
    exact .tuple (as := []) (Heap.get?_push_size _ rfl) rfl rfl (.cons (as := []) (bs := []) (.int _ _) (.cons (as := []) (bs := []) (.int _ _) .nil))
/-- a range's items in a new list -/
theorem collect_range {r : Addr} {a b c : Int} {t u v : Tok} {n : Nat} {Q : List Value → Shared → Prop} (hh : A.handled = none) (hr : IsRange s.heap r a b c t u v) (hsmall : Builtin.Range.small a b c = true) (hn : Builtin.Range.rangeSize a b c = n) (hlen : n ≤ 2 ^ 24)
    (q : ∀ h' tk (acc : Array Value), (∀ b o, s.heap.get? b = some o → h'.get? b = some o) → s.heap.objs.size ≤ h'.objs.size → ItemsOf (fun i v => ∃ t, v = .int (a + i * c) t) acc n → Q acc.toList { s with heap := h', toks := tk }) :
    wpAny (model prog w) A (collect (.ref r)) Q E s := by
  unfold collect
  refine wpAny_bind (wpAny_runValue (codeAny_builtin PySem.F.entry_proto_collect ?_))
  rw [Around.under_plainId PySem.F.plain_proto_collect _]
  show wpAny _ A.in1 (newList [] >>= fun l => again (.builtin "list.__iadd__" ⟨[l, .ref r], []⟩)) _ _ s
  refine wpAny_bind (wpAny_newObj_type ?_)
  refine wpAny_pure ⟨plainId_quiet PySem.F.plain_list_iadd _, codeAny_builtin PySem.F.entry_list_iadd ?_⟩
  rw [Around.under_plainId PySem.F.plain_list_iadd _]
  have hS : (s.heap.push { cls := .type "list", data := .seq ([] : List Value).toArray }).get? s.heap.objs.size = some { cls := .type "list", data := .seq #[] } := Heap.get?_push_size _ rfl
  show wpAny _ A.in1 (Builtin.List.listExtendWith (.ref s.heap.objs.size) (.ref r) (.ref s.heap.objs.size)) _ _ _
  have key := wpAny_extend_range (prog := prog) (w := w) (A := A) (s := { s with heap := s.heap.push { cls := .type "list", data := .seq ([] : List Value).toArray } })
    (R := fun (x : Result) (s' : Shared) => ∃ (h' : Heap) (tk : Nat) (acc : Array Value) (c' : Nat), x = .ok (.ret (.ref s.heap.objs.size)) ∧ s' = { s with heap := h', toks := tk } ∧ (∀ b o, s.heap.get? b = some o → h'.get? b = some o) ∧
      h'.get? s.heap.objs.size = some { cls := .type "list", dict := none, data := .seq acc c', slots := #[] } ∧ ItemsOf (fun i v => ∃ t, v = .int (a + i * c) t) acc n)
    hh (Heap.get?_push_of_some _ hr) hsmall hn hlen s.heap.objs.size (.ref s.heap.objs.size) 0 hS
    (fun h' tk acc c' hk e hi => ⟨h', tk, acc, c', rfl, rfl, fun b o e => hk b o (Nat.ne_of_lt (Heap.lt_size e)) (Heap.get?_push_of_some _ e), e, hi⟩)
  refine wpAny_mono key (fun fin s' x => ?_) fun e s' x => ?_
  · cases fin with
    | done f =>
      obtain ⟨h', tk, acc, c', e, rfl, hk, e', hi⟩ := x
      cases e
      show wpAny _ A (load s.heap.objs.size >>= _) _ _ _
      exact wpAny_bind (wpAny_load e' (wpAny_pure (q h' tk acc hk (Nat.le_of_lt (Heap.lt_size e')) hi)))
    | again c1 =>
      refine ⟨x.1, codeAny_mono x.2 fun y s2 z => ?_⟩
      obtain ⟨h', tk, acc, c', rfl, rfl, hk, e', hi⟩ := z
      show wpAny _ A (load s.heap.objs.size >>= _) _ _ _
      exact wpAny_bind (wpAny_load e' (wpAny_pure (q h' tk acc hk (Nat.le_of_lt (Heap.lt_size e')) hi)))
  · obtain ⟨_, _, _, _, e', _⟩ := x
    cases e'
end
end DK
set_option Elab.async false
set_option linter.all false
set_option autoImplicit false
set_option maxRecDepth 100000
/-! DK5: the rule for sorted(.., key=lambda k: (0 - xs[k], k)). -/
namespace DK
open PySem PySem.Spec PySem.Calls L2 LamX
open PyProof.Rows hiding St
open PySem.W (kla_obj kla_fn KeyPure KeepsBut)
/-- all stays, a table grows at most -/
def ExtT (H H' : Hp) : Prop := (∀ b o, H b = some o → (∀ ps, o ≠ .tbl ps) → H' b = some o) ∧ ∀ b ps, H b = some (.tbl ps) → ∃ qs, H' b = some (.tbl qs)
theorem ExtT.refl (H : Hp) : ExtT H H := ⟨fun _ _ e _ => e, fun _ ps e => ⟨ps, e⟩⟩
section
variable {X : Cx} {pins : List (Addr × Obj)} {σ : L2.St} {H : Hp} {s : Shared}
/-- the lambda is made; what was there stays -/
theorem lam_make3 {T : List (Addr × Str)} {c P : Addr} {params : Arguments} {body : Expr} {scope : Scope} {pos : Pos} {E : Value → Shared → Prop} {Q : Value → Shared → Prop} (I : Inv X pins σ H s) (TB : TabB X.base X.mg c P) (hcode : X.env.code = .ref c)
    (hm : (P, X.env.qual ++ "<lambda>") ∈ T) (hu : ∀ p ∈ T, p.1 = P → p.2 = X.env.qual ++ "<lambda>") (hT : Tabs T H) (hdef : defaultsOf params X.env = ([], [])) (hfree : ∀ y ∈ scope.names, y.2 = .free → ∃ c, X.env.cells.lookup y.1 = some c)
    (h : ∀ (f c' : Addr) (pm ctv : Value) (H1 : Hp) (s' : Shared), Inv X pins σ H1 s' → ExtT H H1 → Tabs T H1 →
      s'.heap.get? f = some (kla_obj "<lambda>" (X.env.qual ++ "<lambda>") params body scope (cloFrom X.env.cells scope.names []) pm c' ctv) → H1 c' = some (CodeO c' (X.env.qual ++ "<lambda>")) → Q (.ref f) s') :
    wpAny (model X.prog X.w) X.A (eval (.Lambda params body scope pos) X.env) Q E s := by
  obtain ⟨ps, hP, ht, ha⟩ := hT _ hm
  refine PySem.W.kla_eval hdef ?_
  have bP : s.heap.BuiltinsAt X.mg P := TB.bm.keeps I.bk
  have hP' : s.heap.get? P = some { cls := .none, data := .fields ps } := I.hok P _ hP
  cases hc : codeAmong pos ps.toList with
  | none =>
    refine PySem.W.kla_makeFunction (mg := X.mg) (c := c) (P := P) (ps := ps) (closure_ok hfree) I.ok.glob (I.mod.glob.keeps I.bk) hcode (TB.code.keeps I.bk) hP' ht hc TB.gP bP fun c' ctv h' tk hx hge hlt hrec htb => ?_
    obtain ⟨c2, oc, vs, t, e2, hoc, hd, hv⟩ := hrec
    cases e2
    have nC : H c' = none := I.hok.fresh hge
    have I1 := inv_table (t' := tk) (more := #[rawInt pos.line, rawInt pos.col, .ref c']) (h' := h'.push (kla_obj "<lambda>" (X.env.qual ++ "<lambda>") params body scope (cloFrom X.env.cells scope.names []) ((X.mg "__name__").getD .none) c' ctv)) I hP
      (fun b o hb e => Heap.get?_push_of_some _ (hx b o hb e)) (Heap.get?_push_of_some _ htb) hge ⟨oc, vs, t, Heap.get?_push_of_some _ hoc, hd, hv⟩
    have hE : ∀ b o, H b = some o → (∀ ps, o ≠ .tbl ps) → upd (upd H P (.tbl (ps ++ #[rawInt pos.line, rawInt pos.col, .ref c']))) c' (CodeO c' (X.env.qual ++ "<lambda>")) b = some o := fun b o e n => by
      rw [upd_ne (ne_of_none e nC), upd_ne (fun z => n ps (Option.some.inj (e.symm.trans (by rw [z]; exact hP))))]
      exact e
    have eL : (ps ++ #[rawInt pos.line, rawInt pos.col, .ref c']).toList = ps.toList ++ [rawInt pos.line, rawInt pos.col, .ref c'] := by simp
    refine h h'.objs.size c' ((X.mg "__name__").getD .none) ctv _ _ I1 ⟨hE, fun b qs e => ?_⟩ (fun p hp => ?_) (Heap.get?_push_size _ rfl) upd_same
    · by_cases hb : b = P
      · rw [hb]
        exact ⟨_, by rw [upd_ne (ne_of_none hP nC), upd_same]⟩
      · exact ⟨qs, by rw [upd_ne (ne_of_none e nC), upd_ne hb]; exact e⟩
    · by_cases hb : p.1 = P
      · rw [hu p hp hb, hb]
        refine ⟨_, by rw [upd_ne (ne_of_none hP nC), upd_same], by rw [eL]; exact PySem.TriplesOk_snoc _ _ _ _ ht, fun p' cv hcv => ?_⟩
        rw [eL] at hcv
        rcases among_app _ ht hcv with z | z
        · obtain ⟨c0, e1, e2⟩ := ha p' cv z
          exact ⟨c0, e1, hE _ _ e2 codeO_ne⟩
        · exact ⟨c', z, upd_same⟩
      · obtain ⟨ps', a1, a2, a3⟩ := hT p hp
        refine ⟨ps', by rw [upd_ne (ne_of_none a1 nC), upd_ne hb]; exact a1, a2, fun p' cv hcv => ?_⟩
        obtain ⟨c0, e1, e2⟩ := a3 p' cv hcv
        exact ⟨c0, e1, hE _ _ e2 codeO_ne⟩
  | some cv =>
    obtain ⟨c', e, hco⟩ := ha pos cv hc
    subst e
    refine PySem.W.kla_makeFunctionHit (mg := X.mg) (c := c) (P := P) (ps := ps) (closure_ok hfree) I.ok.glob (I.mod.glob.keeps I.bk) hcode (TB.code.keeps I.bk) hP' ht hc bP fun ctv h' tk hx hsz => ?_
    exact h h'.objs.size c' ((X.mg "__name__").getD .none) ctv H _ (I.kept fun b o e => Heap.get?_push_of_some _ (hx b o e)) (ExtT.refl H) hT (Heap.get?_push_size _ rfl) hco
end
/-- the ints that a source holds: a list, or a range -/
def SrcI (K : PySem.W.Frag) (H : Hp) (a : Addr) (is : List Int) : Prop := SqL K H a (is.map V.int) ∨ ∃ n : Nat, H a = some (.rng 0 n) ∧ n ≤ 2 ^ 24 ∧ is = (List.range n).map fun (i : Nat) => (i : Int)
theorem seq_ext {K : PySem.W.Frag} {H H' : Hp} {a : Addr} {xs : List V} (h : SqL K H a xs) (e : ExtT H H') : SqL K H' a xs := by
  rcases h with (h | ⟨o, h⟩ ) | h
  · exact .inl (.inl (e.1 _ _ h fun _ z => by cases z))
  · exact .inl (.inr ⟨o, e.1 _ _ h fun _ z => by cases z⟩)
  · exact .inr h
theorem SrcI.ext {K : PySem.W.Frag} {H H' : Hp} {a : Addr} {is : List Int} (h : SrcI K H a is) (e : ExtT H H') : SrcI K H' a is := by
  rcases h with h | ⟨n, h1, h2⟩
  · exact .inl (seq_ext h e)
  · exact .inr ⟨n, e.1 _ _ h1 (fun _ z => by cases z), h2⟩
/-- the order: by what xs says, the greatest first, then by the place -/
def leBy (rs : List Int) (p q : Int) : Bool := decide (0 - rs.getD p.toNat 0 < 0 - rs.getD q.toNat 0 ∨ (0 - rs.getD p.toNat 0 = 0 - rs.getD q.toNat 0 ∧ p ≤ q))
def RI (v : Value) (i : Int) : Prop := ∃ t, v = .int i t
section
variable {prog : Program} {w : World} {A : Around} {E : Value → Shared → Prop} {s : Shared}
theorem args_sortedK (a f : Value) : argsOk "sorted" ⟨[a], [(Str.ofString "key", f)]⟩ := by
  unfold argsOk
  kernel_rfl
theorem args_sortK (a f : Value) : argsOk "list.sort" ⟨[a], [(Str.ofString "key", f)]⟩ := by
  unfold argsOk
  kernel_rfl
/-- sorted(src, key=f), f the lambda: over the heap -/
theorem sorted_by {src f : Addr} {is rs : List Int} {Q : Value → Shared → Prop} (hL : is.length ≤ sizeLine) (hu : A.units + 100 < cLine)
    (col : ∀ (E' : Value → Shared → Prop) (Q' : List Value → Shared → Prop), (∀ h' tk vs, (∀ b o, s.heap.get? b = some o → h'.get? b = some o) → s.heap.objs.size ≤ h'.objs.size → PySem.W.EachIs RI vs is → Q' vs { s with heap := h', toks := tk }) → wpAny (model prog w) A.in1 (collect (.ref src)) Q' E' s)
    (turn : ∀ (v : Value) (x : Int), RI v x → x ∈ is → ∀ (h : Heap) (tk : Nat), (∀ b o, s.heap.get? b = some o → h.get? b = some o) → wpAny (model prog w) A.in1.in1 (call (.ref f) [v]) (KeyPure (.tuple [.int (0 - rs.getD x.toNat 0), .int x]) { s with heap := h, toks := tk }) (fun _ _ => False) { s with heap := h, toks := tk })
    (q : ∀ (h' : Heap) (tk : Nat) (D : Addr) (out : List Value) (n : Nat), (∀ b o, s.heap.get? b = some o → h'.get? b = some o) → s.heap.objs.size ≤ D → h'.get? D = some { cls := .type "list", dict := none, data := .seq out.toArray n, slots := #[] } → PySem.W.EachIs RI out (is.mergeSort (leBy rs)) → Q (.ref D) { s with heap := h', toks := tk }) :
    wpAny (model prog w) A (call (.builtin "sorted") [.ref src] [(Str.ofString "key", .ref f)]) Q E s := by
  refine call_function_entry_kw kind_sorted plain_sorted entry_sorted (args_sortedK _ _) ?_
  unfold Builtin.«sorted»
  refine wpAny_bind (m := checkCount "sorted" 1 1 _) (wpAny_pure ?_)
  refine wpAny_bind (col _ _ fun h' tk vs k sz e => ?_)
  refine wpAny_bind (wpAny_newList ?_ (by rw [e.length]; exact hL))
  have ne : ∀ b o, s.heap.get? b = some o → b ≠ h'.objs.size := fun b o z => Nat.ne_of_lt (Heap.lt_size (k b o z))
  refine wpAny_bind (wpAny_holding (PySem.W.list_sort_key_data (b := false) (f := .ref f) (s := { s with heap := h'.push { cls := .type "list", data := .seq vs.toArray }, toks := tk }) (fun x => PyData.tuple [.int (0 - rs.getD x.toNat 0), .int x]) (Heap.get?_push_size _ rfl) e (PySem.W.AllAlike.of fun _ _ => rfl) (PySem.W.Sortable.tuples fun _ => ⟨_, _, rfl⟩) hL
    (fun x _ => ?_) (args_sortK _ _) rfl (fun v x r hx h1 tk1 kb => turn v x r hx h1 tk1 fun b o z => kb b o (ne b o z) (Heap.get?_push_of_some _ (k b o z))) fun out c h1 tk1 kb e1 l e2 => ?_))
  · show (A.in1.units + 1 + _ : Nat) < cLine
    have e1 : A.in1.units ≤ A.units + 1 := Nat.le_refl _
    have e2 : (PyData.tuple [.int (0 - rs.getD x.toNat 0), .int x]).depth = 1 := rfl
    show (A.in1.units + 1 + (PyData.tuple [.int (0 - rs.getD x.toNat 0), .int x]).depth : Nat) < cLine
    omega
  · have e3 : is.mergeSort (PySem.W.dataLe false fun x => PyData.tuple [.int (0 - rs.getD x.toNat 0), .int x]) = is.mergeSort (leBy rs) := by
      rw [PySem.W.dataLe_ii (fun x : Int => 0 - rs.getD x.toNat 0) (fun x => x)]
      rfl
    rw [e3] at e2
    refine wpAny_pure ⟨_, rfl, q h1 tk1 h'.objs.size out c (fun b o z => kb b o (ne b o z) (Heap.get?_push_of_some _ (k b o z))) sz e1 e2⟩
end
/-- sorted(src, key=lambda k: (0 - xs[k], k)), xs in the slot i -/
def tSortLam (K : PySem.W.Frag) (T : List (Addr × Str)) (i : Nat) (ts : TE) : TE := fun σ H Q => ts σ H fun x H1 => ∃ (a : Addr) (is : List Int) (p : Addr) (rs : List Int), x = V.ref a ∧ SrcI K H1 a is ∧ Tabs T H1 ∧ σ[i]? = some (some (V.ref p)) ∧ SqL K H1 p (rs.map V.int) ∧ (∀ j ∈ is, 0 ≤ j ∧ j < rs.length) ∧ is.length ≤ sizeLine ∧
  ∀ H2, ExtT H1 H2 → Tabs T H2 → ∀ q, H2 q = none → Q (.ref q) (upd H2 q (.lst ((is.mergeSort (leBy rs)).map V.int)))
theorem each_vals {vs : List Value} {is : List Int} (h : PySem.W.EachIs RI vs is) : Vals (is.map V.int) vs := by
  induction vs generalizing is with
  | nil =>
    cases h
    exact .nil
  | cons v vs ih =>
    cases h with
    | cons h q => exact .cons h (ih q)
theorem vals_each {vs : List Value} : ∀ {is : List Int}, Vals (is.map V.int) vs → PySem.W.EachIs RI vs is := by
  induction vs with
  | nil =>
    intro is h
    cases is with
    | nil => exact .nil
    | cons i is => cases h
  | cons v vs ih =>
    intro is h
    cases is with
    | nil => cases h
    | cons i is =>
      cases h with
      | cons h q => exact .cons h (ih q)
theorem pe_sortLam {X : Cx} {T : List (Addr × Str)} {c P : Addr} {x y : Str} {i k : Nat} {e : Expr} {ts : TE} {params : Arguments} {scope : Scope} {k1 k2 : Nat} {p p1 p2 p3 p4 p5 p6 p7 lpos kpos pos : Pos} (hc : X.calm = true) (hg : Gl X "sorted") (hm : X.mg "sorted" = none) (he : PE X e ts)
    (TB : TabB X.base X.mg c P) (hcode : X.env.code = .ref c) (hmT : (P, X.env.qual ++ "<lambda>") ∈ T) (hu : ∀ p ∈ T, p.1 = P → p.2 = X.env.qual ++ "<lambda>") (hr : Room k X.A) (S : LamK scope x y) (hN : X.N[i]? = some y) (hcell : X.env.scope.names.lookup y = some .cell) (hfr : ∀ z ∈ scope.names, z.2 = .free → X.env.scope.names.lookup z.1 = some .cell) (hdef : defaultsOf params X.env = ([], []))
    (hbind : ∀ (q : Str) (cl : List (Str × Addr)) (pm cv ctv v : Value), bindArgs (kla_fn "<lambda>" q params (lamTree x y k1 k2 p1 p2 p3 p4 p5 p6 p7) scope cl pm cv ctv) ⟨[v], []⟩ = pure [(x, v)])
    (na : backTo pos (starEach [e] X.env) = (false, eval e X.env) :: backTo pos (starEach [] X.env) := by rfl) (hpl : (backTo pos (starEach [e] X.env)).any (·.1) = false := by rfl) :
    PE X (.Call (.Name "sorted" p) [e] [⟨some "key", .Lambda params (lamTree x y k1 k2 p1 p2 p3 p4 p5 p6 p7) scope lpos, kpos⟩] pos) (tSortLam X.K T i ts) := by
  refine ⟨fun pins s σ H Q I h => ?_⟩
  have has : ∀ z ∈ scope.names, z.2 = .free → ∃ c, X.env.cells.lookup z.1 = some c := fun z hz ez => I.ok.has _ (.inl (hfr z hz ez))
  refine wpAny_Call_Name_kw (ld_blt I hg hm (u := .builtin "sorted") (by first | rfl | decide +kernel) ?_ (by decide) (by decide))
  refine PyProof.Rows.callWith_kw ?_ na hpl (by rfl) (by rfl)
  show wpAny _ _ (spliced (backTo pos (starEach [e] X.env))) _ _ s
  rw [na]
  refine spliced_cons (thn (he.run pins s σ H _ I h) fun u s1 ⟨v, H1, I1, r1, a, is, ap, rs, ev, hs, hT, hσ, hq, hj, hz, q⟩ => spliced_nil ?_)
  subst ev
  cases r1
  show wpAny _ _ (evalAll [do let v ← eval (.Lambda params (lamTree x y k1 k2 p1 p2 p3 p4 p5 p6 p7) scope lpos) X.env; standAt pos; pure v]) _ _ _
  refine wpAny_evalAll_cons (wpAny_bind (lam_make3 I1 TB hcode hmT hu hT hdef has fun f c' pm ctv H2 s2 I2 eT T2 of hco => wpAny_bind (wpAny_standAt (wpAny_pure (wpAny_evalAll_nil ?_)))))
  show wpAny _ _ (call (.builtin "sorted") [.ref a] [(Str.ofString "key", .ref f)]) _ _ _
  obtain ⟨its, rv, pl, hlen⟩ := I2.list (seq_ext hq eT)
  -- the captured list's cell
  obtain ⟨m, hn, hl⟩ := I2.loc
  obtain ⟨u0, r0, l0⟩ := hl i y (.ref ap) hN hσ (.inr (.inl hcell))
  cases r0
  obtain ⟨ca, hca, hcv⟩ : ∃ ca, X.env.cells.lookup y = some ca ∧ s2.heap.IsCell ca (some (.ref ap)) := by
    rcases l0 with ⟨z, _⟩ | ⟨_, ca, z1, z2⟩
    · have z : X.env.scope.names.lookup y = some .local := z
      rw [hcell] at z
      cases z
    · exact ⟨ca, z1, z2⟩
  have hclo : (cloFrom X.env.cells scope.names []).lookup y = some ca := by
    have hy : (y, NameKind.free) ∈ scope.names := PySem.mem_of_lookup S.ly
    obtain ⟨c0, h0⟩ := mem_lookup (cloFrom_has (cells := X.env.cells) (acc := []) hy)
    rcases cloFrom_mem (PySem.mem_of_lookup h0) with hm | ⟨h1, h2⟩
    · cases hm
    · have e2 : c0 = ca := by
        rw [h2, hca] <;> rfl
      rw [h0, e2]
  obtain ⟨⟨oc, ovs, tq, hoc, hdc, hvc⟩, _, _⟩ := I2.hok c' _ hco
  have rl := rv.length
  rw [List.length_map] at rl
  have fin : ∀ (h' : Heap) (tk : Nat) (D : Addr) (out : List Value) (n : Nat), (∀ b o, s2.heap.get? b = some o → h'.get? b = some o) → s2.heap.objs.size ≤ D → h'.get? D = some { cls := .type "list", dict := none, data := .seq out.toArray n, slots := #[] } → PySem.W.EachIs RI out (is.mergeSort (leBy rs)) → EP X pins σ Q (.ref D) { s2 with heap := h', toks := tk } := fun h' tk D out n kk hD e1 e2 => by
    refine ⟨.ref D, upd H2 D (.lst ((is.mergeSort (leBy rs)).map V.int)), I2.laid kk hD (show ObjOk X.prog X.w _ _ _ (.lst _) from ⟨?_, out, n, each_vals e2, e1⟩), rfl, q H2 eT T2 D (I2.hok.fresh hD)⟩
    rw [List.length_map, List.length_mergeSort]
    exact hz
  refine sorted_by hz ?_ (fun E' Q' hq' => ?_) (fun v x hx hxm h1 tk1 kk => ?_) fin
  · have := hr.un
    omega
  · rcases hs.ext eT with hs2 | ⟨n, e1, e2, e3⟩
    · obtain ⟨it2, rv2, pl2, hz2⟩ := I2.list hs2
      refine PyProof.Rows.collect_list pl2.isList (hq' _ _ _ (fun b o e => ?_) ?_ (vals_each rv2)) (by rw [← rv2.length]; exact hz2)
      · exact (Heap.get?_update_other _ _ (Nat.ne_of_gt (Heap.lt_size e))).trans (Heap.get?_push_of_some _ e)
      · rw [Heap.size_update, Heap.size_push]
        exact Nat.le_succ _
    · obtain ⟨t1, t2, t3, e4⟩ := I2.hok a _ e1
      refine collect_range (n := n) (I2.ok.hd hc) e4 (small_one (by omega) (by omega) (by omega) (by omega)) (by have := rangeSize_nat 0 (n : Int); simpa using this) e2 fun h' tk acc kk sz hi => hq' _ _ _ kk sz ?_
      subst e3
      refine vals_each (vals_of_at (by rw [List.length_map, List.length_map, List.length_range, Array.length_toList, hi.1]) fun j x u z1 z2 => ?_)
      rw [Array.getElem?_toList] at z2
      obtain ⟨t, z3⟩ := hi.2 j u z2
      have hj : j < n := by
        have := (Array.getElem?_eq_some_iff.mp z2).1
        rw [hi.1] at this
        exact this
      rw [List.getElem?_map, List.getElem?_map, List.getElem?_range hj] at z1
      cases z1
      refine ⟨t, ?_⟩
      rw [z3]
      congr 1
      show (0 : Int) + (j : Int) * 1 = (j : Int)
      omega
  · obtain ⟨t0, ex⟩ := hx
    subst ex
    obtain ⟨j0, j1⟩ := hj x hxm
    have hlt : x.toNat < rs.length := by omega
    obtain ⟨w0, g1, g2⟩ := rv.get (i := x.toNat) (x := V.int (rs.getD x.toNat 0)) (by rw [List.getElem?_map, List.getElem?_eq_getElem hlt, List.getD_eq_getElem?_getD, List.getElem?_eq_getElem hlt] <;> rfl)
    obtain ⟨t9, g2⟩ := g2
    subst g2
    refine lam_turn (s := { s2 with heap := h1, toks := tk1 }) S (kk _ _ of) ⟨oc, ovs, tq, kk _ _ hoc, hdc, hvc⟩ hr.depth (I2.nolimit.keeps kk) (fun v => hbind _ _ _ _ _ v) hclo (hcv.keeps kk) (pl.isList.at fun o e => kk _ _ e) j0 ?_ (by rw [List.getElem?_toArray]; exact g1)
    rw [List.length_map] at hlen
    have l63 := line63
    omega
end DK
set_option Elab.async false
set_option linter.all false
set_option autoImplicit false
set_option maxRecDepth 100000
/-! DL12: defs with defaults, keyword calls, tables of defs, list(reversed(range)), list(zip), xs[::-1], max(d.values()). -/
namespace DL
open PySem PySem.Spec L2
open PyProof.Rows hiding St
section
variable {P : Program} {w : World} {K : PySem.W.Frag} {mg : Str → Option Value} {base : Heap}
theorem _root_.L2.FunD.okD {x qual : Str} {params : Arguments} {body : List Stmt} {scope : Scope} {dvs : List V} {kws : List (Str × V)} {f : Addr} {fd : FuncData} {N ps : List Str} {k : Nat} {bs : List Nat} {T : FT} {t : TSd} (F : FunD K x qual params body scope dvs kws f fd) (S : FnScope N ps scope) (hT : ∀ args QD, T args QD → args.length = ps.length)
    (hb : ∀ (cdv : Value) (A : Around) (outer : List Env) (s : Shared) (H : Hp) (E : XK), Room k (A.deeper (envOfC qual scope s.heap.objs.size f cdv)) → PSs (cxOf CX0 P w K mg base N qual scope f cdv A outer s H E).nox body (LS K bs t))
    (ht : ∀ args QD, T args QD → t { nx := fun E => QD (.dat .non) (mask bs ps.length E), rt := fun r E => QD r (mask bs ps.length E) } (args ++ List.replicate (N.length - args.length) .no)) : FnOk P w K mg base CX0 (k + 1) f fd ps (FnSp K bs T) := by
  refine F.ok S (fun vs H Q E ⟨P', ad, args, QD, ok, h, _⟩ => ?_) (fun cdv A outer s H vs Q E hr ⟨P', ad, args, QD, ok, h, q⟩ => ⟨_, (hb cdv A outer s H E hr).nox, ?_⟩)
  · have := ok.len
    rw [List.length_map] at this
    rw [this, hT args QD h]
  · have hl : vs.length = ps.length := by
      have := ok.len
      rw [List.length_map] at this
      rw [this, hT args QD h]
    have hbor : ∀ i ∈ bs, (vs.map some)[i]? = some (some (V.ref (ad i))) := fun i hi => by
      obtain ⟨_, _, _, e⟩ := ok.bor i hi
      exact e
    refine ⟨⟨H, P', ad⟩, _, _, ok.start, ht args QD h, ⟨fun σ' H' E' ok' _ z => ?_, fun _ _ _ _ _ z => z.elim, fun _ _ _ _ _ z => z.elim, fun σ' H' E' v r ro z => ?_⟩⟩
    · refine q .non H' (.dat .non) _ (RtOk.mask (r := .dat .non) ⟨ok', .non⟩ hbor) ?_
      rw [hl]
      exact z
    · refine q v H' r _ (RtOk.mask ro hbor) ?_
      rw [hl]
      exact z
/-- f(e, .., k = v, ..) that writes some or all: g puts the written ones and the defaults in the parameters' order -/
theorem _root_.L2.FunD.kbinds1 {x qual : Str} {params : Arguments} {body : List Stmt} {scope : Scope} {dvs : List V} {kws : List (Str × V)} {f : Addr} {fd : FuncData} {ps : List Str} (F : FunD K x qual params body scope dvs kws f fd) (n : Nat) (ks : List Str) (g : List Value → List Value → List Value → List Value) (gV : List V → List V → List V → List V) (hd : dvs ≠ [])
    (hrel : ∀ {vs ds zs : List V} {us its ws : List Value}, Vals vs us → Vals ds its → Vals zs ws → Vals (gV vs ds zs) (g us its ws))
    (h : ∀ (T : Addr) (kV doc pm : Value) (an : Option Addr) (cdv ct : Value) (us its ws : List Value), us.length = n → its.length = dvs.length → ws.length = ks.length →
      ∃ k, bindArgs (PySem.W.fnOf x qual params body scope (.ref T) kV doc pm an cdv ct) ⟨us, ks.zip ws⟩ = seqItems? (.ref T) >>= k ∧ k (some its.toArray) = pure (ps.zip (g us its ws))) :
    ∃ its : List Value, KBn K fd ps n ks (fun us ws => g us its ws) (fun vs zs => gV vs dvs zs) := by
  obtain ⟨oc, od, dV, kV, doc, pm, an, cdv, ct, osl, rfl, lk, hcd, hD, hK⟩ := F.ex
  rcases hD with ⟨e, _⟩ | ⟨_, T, o, its, m, rfl, lT, oT, rT⟩
  · exact absurd e hd
  · refine ⟨its, ⟨fun s us ws X l1 l2 => ?_, fun r1 r2 => hrel r1 rT r2⟩⟩
    obtain ⟨k, e1, e2⟩ := h T kV doc pm an cdv ct us its ws l1 rT.length.symm l2
    refine BindsTo.of_looks fun M => ?_
    rw [e1]
    exact looks_items X lT oT (.of_pure e2)
/-- such a call of a def without defaults -/
theorem _root_.L2.FunD.kbindsN {x qual : Str} {params : Arguments} {body : List Stmt} {scope : Scope} {kws : List (Str × V)} {f : Addr} {fd : FuncData} {ps : List Str} (F : FunD K x qual params body scope [] kws f fd) (n : Nat) (ks : List Str) (g : List Value → List Value → List Value) (gV : List V → List V → List V)
    (hrel : ∀ {vs zs : List V} {us ws : List Value}, Vals vs us → Vals zs ws → Vals (gV vs zs) (g us ws))
    (h : ∀ (kV doc pm : Value) (an : Option Addr) (cdv ct : Value) (us ws : List Value), us.length = n → ws.length = ks.length → bindArgs (PySem.W.fnOf x qual params body scope .none kV doc pm an cdv ct) ⟨us, ks.zip ws⟩ = pure (ps.zip (g us ws))) :
    KBn K fd ps n ks g gV := by
  obtain ⟨oc, od, dV, kV, doc, pm, an, cdv, ct, osl, rfl, lk, hcd, hD, hK⟩ := F.ex
  rcases hD with ⟨_, rfl⟩ | ⟨e, _⟩
  · exact ⟨fun s us ws X l1 l2 => BindsTo.of_looks fun M => .of_pure (h kV doc pm an cdv ct us ws l1 l2), fun r1 r2 => hrel r1 r2⟩
  · exact absurd rfl e
end
/-- a call with keywords of a def that keeps its promise: n values by place, names ks, gD the whole row -/
structure Dk (P : Program) (w : World) (K : PySem.W.Frag) (mg : Str → Option Value) (base : Heap) (k : Nat) (x : Str) (ps : List Str) (T : FT) (n : Nat) (ks : List Str) (gD : List D → List D → List D) : Prop where
  ex : ∃ (f : Addr) (fd : FuncData) (g : List Value → List Value → List Value) (gV : List V → List V → List V), FnOk P w K mg base CX0 k f fd ps (FnSp K [] T) ∧ mg x = some (.ref f) ∧ PySem.W.keepIn K (.ref f) = true ∧ KBn K fd ps n ks g gV ∧ (∀ (G : Hp) (vs zs : List V) (ds es : List D), Dats K G vs ds → Dats K G zs es → Dats K G (gV vs zs) (gD ds es))
section
variable {X : Cx} {bs : List Nat} {e : Expr} {es : List Expr} {kws : List Keyword} {te : TD} {t tk : TDL} {nm : Option Str} {kpos pos p : Pos}
theorem _root_.L2.PK.imp {X : Cx} {e : List Keyword} {t u : TA} (h : PK X e t) (w : ∀ σ H Q, u σ H Q → t σ H Q) : PK X e u := ⟨fun p pins s σ H Q I q => h.run p pins s σ H Q I (w σ H Q q)⟩
theorem dk_nil : PK X [] (liftL X.K bs dNil) := pk_nil.imp fun σ H Q0 ⟨c, E, Q, ok, q, f⟩ => f _ E _ H ok Step.refl .nil q
theorem dk_cons (ha : PE X e (lift X.K bs te)) (hr : PK X kws (liftL X.K bs t)) : PK X (⟨nm, e, kpos⟩ :: kws) (liftL X.K bs (dCons te t)) :=
  (pk_cons ha hr).imp fun σ H Q0 ⟨c, E, Q, ok, q, f⟩ => ⟨c, E, _, ok, q, fun av E1 v H1 ok1 s1 a1 q1 => ⟨c, E1, _, ok1, q1, fun avs E2 vs H2 ok2 s2 a2 q2 => f _ E2 _ H2 ok2 (s1.trans s2) (.cons (a1.mono s2) a2) q2⟩⟩
def dCallK (bs : List Nat) (T : FT) (n m : Nat) (gD : List D → List D → List D) (t tk : TDL) : TD := fun E Q => t E fun avs E1 => tk E1 fun bvs E2 => ∃ ds es E3 E4, avs.length = n ∧ bvs.length = m ∧ forces bs E2 avs = some (ds, E3) ∧ forces bs E3 bvs = some (es, E4) ∧ T ((gD ds es).map .dat) fun r _ => Q (.val r.data) E4
theorem forces_length {bs : List Nat} : ∀ {avs : List AV} {E E' : DEnv} {ds : List D}, forces bs E avs = some (ds, E') → ds.length = avs.length
  | [], E, E', ds, l => by
    cases l
    rfl
  | x :: xs, E, E', ds, l => by
    dsimp only [forces] at l
    cases e1 : force bs E x with
    | none =>
      rw [e1] at l
      cases l
    | some p =>
      obtain ⟨d, E1⟩ := p
      rw [e1] at l
      dsimp only at l
      cases e2 : forces bs E1 xs with
      | none =>
        rw [e2] at l
        cases l
      | some q =>
        obtain ⟨es, E2⟩ := q
        rw [e2] at l
        cases l
        rw [List.length_cons, List.length_cons, forces_length e2]
theorem callK_lift {T : FT} {n m : Nat} {gD : List D → List D → List D} {gV : List V → List V → List V} {Ex : XK} (hg : ∀ (G : Hp) (vs zs : List V) (ds es : List D), Dats X.K G vs ds → Dats X.K G zs es → Dats X.K G (gV vs zs) (gD ds es)) (σ : St) (H : Hp) (Q0 : VK) (h : lift X.K bs (dCallK bs T n m gD t tk) σ H Q0) : tCallN n m (FnSp X.K [] T) gV Ex (liftL X.K bs t) (liftL X.K bs tk) σ H Q0 := by
  obtain ⟨c, E, Q, ok, q, fi⟩ := h
  refine ⟨c, E, _, ok, q, fun avs E1 vs H1 ok1 s1 a1 q1 => ⟨c, E1, _, ok1, q1, fun bvs E2 zs H2 ok2 s2 a2 ⟨ds, es, E3, E4, n1, n2, fo, fo2, z⟩ => ?_⟩⟩
  obtain ⟨f1, f2, f3⟩ := forces_ok ok2 (avs_mono a1 s2) fo
  obtain ⟨g1, g2, g3⟩ := forces_ok f1 (avs_mono a2 f2) fo2
  have z' := sub_st g1 (hg _ _ _ _ _ (f3.mono g2.s) g3)
  rw [List.append_nil] at z'
  refine ⟨by rw [f3.length, forces_length fo, n1], by rw [g3.length, forces_length fo2, n2], _, _, _, _, z', z, fun v H' r E' ro hq => ?_⟩
  obtain ⟨sm, tb, ro⟩ := sub_ret g1 ro
  have st : Step c c σ E4 H2 E4 H' := ⟨vis_grow sm, fun b e => by
    obtain ⟨o, eo, no⟩ := g1.hidP b e
    rw [eo, (sm _ _ eo).k no]⟩
  have pre := ((s1.trans s2).trans f2).trans g2
  rcases ro with ⟨d, rfl, hd⟩ | ⟨ds, a, ws, rfl, o, n, s2⟩
  · exact fi (.val d) E4 v H' (g1.grow sm tb) (pre.trans st) hd hq
  · obtain ⟨o1, o2⟩ := o.dat n
    exact fi (.val (.lst ds)) E4 v H' o1 (pre.trans st) o2 hq
theorem de_calK {j k n : Nat} {x : Str} {ps ks : List Str} {T : FT} {gD : List D → List D → List D} (d : Dk X.prog X.w X.K X.mg X.base j x ps T n ks gD) (hr : Room k X.A) (ha : PA X (e :: es) (liftL X.K bs t)) (hkw : PK X kws (liftL X.K bs tk)) (hjk : j ≤ k := by decide) (hgl : Gl X x := by rfl) (hall : (backToKw pos (keywordEach kws X.env)).all (·.1.isSome) = true := by rfl) (hks : (backToKw pos (keywordEach kws X.env)).filterMap (·.1) = ks := by rfl)
    (hdb : (x == ("__debug__" : Str)) = false := by decide) (he : starEach (e :: es) X.env = (false, eval e X.env) :: starEach es X.env := by rfl)
    (hpl : ((backTo pos (starEach (e :: es) X.env)).any (·.1) || (backToKw pos (keywordEach kws X.env)).any (·.1.isNone)) = false := by rfl) :
    PE X (.Call (.Name x p) (e :: es) kws pos) (lift X.K bs (dCallK bs T n ks.length gD t tk)) := by
  obtain ⟨f, fd, g, gV, F, hm, hk, hb, hg⟩ := d.ex
  exact (pe_callN F (hr.mono hjk) hgl hm hk hb pass0 ha hkw hall hks hdb he hpl).imp (callK_lift hg)
/-- f(k = v, ..) -/
theorem pe_callN0 {CX : CXT} {k : Nat} {f : Addr} {fd : FuncData} {ps ks : List Str} {sp : Sp} {E : XK} {x : Str} {tk : TA} {g : List Value → List Value → List Value} {gV : List V → List V → List V} (F : FnOk X.prog X.w X.K X.mg X.base CX k f fd ps sp) (hr : Room k X.A) (hg : Gl X x) (hm : X.mg x = some (.ref f)) (hk : PySem.W.keepIn X.K (.ref f) = true) (hb : KBn X.K fd ps 0 ks g gV) (hx : Passes CX X E)
    (hkw : PK X kws tk) (hall : (backToKw pos (keywordEach kws X.env)).all (·.1.isSome) = true := by rfl) (hks : (backToKw pos (keywordEach kws X.env)).filterMap (·.1) = ks := by rfl) (hdb : (x == ("__debug__" : Str)) = false := by decide)
    (hpl : ((backTo pos (starEach [] X.env)).any (·.1) || (backToKw pos (keywordEach kws X.env)).any (·.1.isNone)) = false := by rfl) :
    PE X (.Call (.Name x p) [] kws pos) (tCallN 0 ks.length sp gV E tNil tk) := by
  refine ⟨fun pins s σ H Q I h => ?_⟩
  refine wpAny_Call_Name_kw (ld_glob I hg hm ?_ hdb)
  refine PySem.W.callWith_KW0 (h₀ := X.base) I.ok.mod.kin hk hall ?_ hpl
  refine thn (hkw.run pos pins s σ H _ I h) fun ws s2 ⟨zs, H2, I2, rz, l1, l2, q2⟩ => ⟨I2.kIn, ?_⟩
  rw [hks]
  exact run_fnN F hr hb hx I2 .nil rz l1 l2 q2
theorem de_calK0 {j k : Nat} {x : Str} {ps ks : List Str} {T : FT} {gD : List D → List D → List D} (d : Dk X.prog X.w X.K X.mg X.base j x ps T 0 ks gD) (hr : Room k X.A) (hkw : PK X kws (liftL X.K bs tk)) (hjk : j ≤ k := by decide) (hgl : Gl X x := by rfl) (hall : (backToKw pos (keywordEach kws X.env)).all (·.1.isSome) = true := by rfl) (hks : (backToKw pos (keywordEach kws X.env)).filterMap (·.1) = ks := by rfl)
    (hdb : (x == ("__debug__" : Str)) = false := by decide) (hpl : ((backTo pos (starEach [] X.env)).any (·.1) || (backToKw pos (keywordEach kws X.env)).any (·.1.isNone)) = false := by rfl) :
    PE X (.Call (.Name x p) [] kws pos) (lift X.K bs (dCallK bs T 0 ks.length gD dNil tk)) := by
  obtain ⟨f, fd, g, gV, F, hm, hk, hb, hg⟩ := d.ex
  exact (pe_callN0 F (hr.mono hjk) hgl hm hk hb pass0 hkw hall hks hdb hpl).imp fun σ H Q0 h => by
    obtain ⟨c, E, Q, ok, q, fi⟩ := callK_lift (t := dNil) hg σ H Q0 h
    exact fi _ E _ H ok Step.refl .nil q
def dCallKO (bs : List Nat) (T : FT) (n m : Nat) (gD : List D → List D → List D) (t tk : TDL) : TDO := fun E Q => t E fun avs E1 => tk E1 fun bvs E2 => ∃ ds es E3 E4, avs.length = n ∧ bvs.length = m ∧ forces bs E2 avs = some (ds, E3) ∧ forces bs E3 bvs = some (es, E4) ∧ T ((gD ds es).map .dat) fun r _ => ∃ es, r = .own es ∧ Q es E4
theorem callK_liftO {T : FT} {n m : Nat} {gD : List D → List D → List D} {gV : List V → List V → List V} {Ex : XK} (hg : ∀ (G : Hp) (vs zs : List V) (ds es : List D), Dats X.K G vs ds → Dats X.K G zs es → Dats X.K G (gV vs zs) (gD ds es)) (σ : St) (H : Hp) (Q0 : VK) (h : liftO X.K bs (dCallKO bs T n m gD t tk) σ H Q0) : tCallN n m (FnSp X.K [] T) gV Ex (liftL X.K bs t) (liftL X.K bs tk) σ H Q0 := by
  obtain ⟨c, E, Q, ok, q, fi⟩ := h
  refine ⟨c, E, _, ok, q, fun avs E1 vs H1 ok1 s1 a1 q1 => ⟨c, E1, _, ok1, q1, fun bvs E2 zs H2 ok2 s2 a2 ⟨ds, es, E3, E4, n1, n2, fo, fo2, z⟩ => ?_⟩⟩
  obtain ⟨f1, f2, f3⟩ := forces_ok ok2 (avs_mono a1 s2) fo
  obtain ⟨g1, g2, g3⟩ := forces_ok f1 (avs_mono a2 f2) fo2
  have z' := sub_st g1 (hg _ _ _ _ _ (f3.mono g2.s) g3)
  rw [List.append_nil] at z'
  refine ⟨by rw [f3.length, forces_length fo, n1], by rw [g3.length, forces_length fo2, n2], _, _, _, _, z', z, fun v H' r E' ro ⟨es, er, hq⟩ => ?_⟩
  subst er
  obtain ⟨sm, tb, ro⟩ := sub_ret g1 ro
  have pre := ((s1.trans s2).trans f2).trans g2
  rcases ro with ⟨d, e, hd⟩ | ⟨ds', a, ws, e, o, n, s2⟩
  · cases e
  · cases e
    exact fi es E4 v H' a ws o n (pre.trans ⟨s2, fun b e => by
      obtain ⟨o, eo, no⟩ := g1.hidP b e
      rw [eo, (sm _ _ eo).k no]⟩) hq
theorem de_calKO {j k n : Nat} {x : Str} {ps ks : List Str} {T : FT} {gD : List D → List D → List D} (d : Dk X.prog X.w X.K X.mg X.base j x ps T n ks gD) (hr : Room k X.A) (ha : PA X (e :: es) (liftL X.K bs t)) (hkw : PK X kws (liftL X.K bs tk)) (hjk : j ≤ k := by decide) (hgl : Gl X x := by rfl) (hall : (backToKw pos (keywordEach kws X.env)).all (·.1.isSome) = true := by rfl) (hks : (backToKw pos (keywordEach kws X.env)).filterMap (·.1) = ks := by rfl)
    (hdb : (x == ("__debug__" : Str)) = false := by decide) (he : starEach (e :: es) X.env = (false, eval e X.env) :: starEach es X.env := by rfl)
    (hpl : ((backTo pos (starEach (e :: es) X.env)).any (·.1) || (backToKw pos (keywordEach kws X.env)).any (·.1.isNone)) = false := by rfl) :
    PE X (.Call (.Name x p) (e :: es) kws pos) (liftO X.K bs (dCallKO bs T n ks.length gD t tk)) := by
  obtain ⟨f, fd, g, gV, F, hm, hk, hb, hg⟩ := d.ex
  exact (pe_callN F (hr.mono hjk) hgl hm hk hb pass0 ha hkw hall hks hdb he hpl).imp (callK_liftO hg)
theorem de_calK0O {j k : Nat} {x : Str} {ps ks : List Str} {T : FT} {gD : List D → List D → List D} (d : Dk X.prog X.w X.K X.mg X.base j x ps T 0 ks gD) (hr : Room k X.A) (hkw : PK X kws (liftL X.K bs tk)) (hjk : j ≤ k := by decide) (hgl : Gl X x := by rfl) (hall : (backToKw pos (keywordEach kws X.env)).all (·.1.isSome) = true := by rfl) (hks : (backToKw pos (keywordEach kws X.env)).filterMap (·.1) = ks := by rfl)
    (hdb : (x == ("__debug__" : Str)) = false := by decide) (hpl : ((backTo pos (starEach [] X.env)).any (·.1) || (backToKw pos (keywordEach kws X.env)).any (·.1.isNone)) = false := by rfl) :
    PE X (.Call (.Name x p) [] kws pos) (liftO X.K bs (dCallKO bs T 0 ks.length gD dNil tk)) := by
  obtain ⟨f, fd, g, gV, F, hm, hk, hb, hg⟩ := d.ex
  exact (pe_callN0 F (hr.mono hjk) hgl hm hk hb pass0 hkw hall hks hdb hpl).imp fun σ H Q0 h => by
    obtain ⟨c, E, Q, ok, q, fi⟩ := callK_liftO (t := dNil) hg σ H Q0 h
    exact fi _ E _ H ok Step.refl .nil q
theorem Dats.getD' {K : PySem.W.Frag} {G : Hp} : ∀ {vs : List V} {ds : List D}, Dats K G vs ds → ∀ i : Nat, Dat K G (vs.getD i .non) (ds.getD i .non)
  | _, _, .nil, _ => .non
  | _, _, .cons h _, 0 => h
  | _, _, .cons _ q, i + 1 => Dats.getD' q i
theorem vals_getD : ∀ {vs : List V} {us : List Value}, Vals vs us → ∀ i : Nat, RelV (vs.getD i .non) (us.getD i .none)
  | _, _, .nil, _ => rfl
  | _, _, .cons h _, 0 => h
  | _, _, .cons _ q, i + 1 => vals_getD q i
/-! a table of defs -/
/-- the def that the table at p holds under z -/
def TabFn (P : Program) (w : World) (K : PySem.W.Frag) (mg : Str → Option Value) (base : Heap) (j : Nat) (p : Addr) (ps : List Str) (z : Str) (T : FT) : Prop := ∃ (f : Addr) (fd : FuncData), KDct K w p z (.ref f) ∧ FnOk P w K mg base CX0 j f fd ps (FnSp K [] T) ∧ PySem.W.keepIn K (.ref f) = true ∧ Binds K fd ps []
def dDisp (bs : List Nat) (keys : List Str) (T : Str → FT) (ti : TD) (t : TDL) : TD := fun E Q => ti E fun av E1 => ∃ z, look E1 av = some (.str z) ∧ z ∈ keys ∧ dCall bs (T z) [] t E1 Q
theorem de_disp {x : Str} {ei : Expr} {ti : TD} {k j : Nat} {pa : Addr} {ps keys : List Str} {T : Str → FT} {p1 p2 : Pos} (hm : X.mg x = some (.ref pa)) (ht : ∀ z ∈ keys, TabFn X.prog X.w X.K X.mg X.base j pa ps z (T z)) (hr : Room k X.A) (hi : PE X ei (lift X.K bs ti)) (ha : PA X (e :: es) (liftL X.K bs t)) (hjk : j ≤ k := by decide) (hgl : Gl X x := by rfl) (hs : PlainIx ei := by exact fun _ _ => rfl)
    (hdb : (x == ("__debug__" : Str)) = false := by decide) (he : starEach (e :: es) X.env = (false, eval e X.env) :: starEach es X.env := by rfl) (hpl : (backTo pos (starEach es X.env)).any (·.1) = false := by rfl) :
    PE X (.Call (.Subscript (.Name x p1) ei p2) (e :: es) [] pos) (lift X.K bs (dDisp bs keys T ti t)) := by
  refine ⟨fun pins s σ H Q I h => ?_⟩
  obtain ⟨c, E, QD, ok, q, fi⟩ := h
  have hf : PE X (.Subscript (.Name x p1) ei p2) (tOp (rIxD X.K X.w) (tC (.ref pa)) (lift X.K bs ti)) := pe_ix ix_kdict (pe_glob hgl hm rfl hdb) hi hs
  refine Call_ (thn (hf.run pins s σ H (fun v H1 => ∃ (z : Str) (f : Addr) (fd : FuncData), v = .ref f ∧ FnOk X.prog X.w X.K X.mg X.base CX0 j f fd ps (FnSp X.K [] (T z)) ∧ PySem.W.keepIn X.K (.ref f) = true ∧ Binds X.K fd ps [] ∧ lift X.K bs (dCall bs (T z) [] t) σ H1 Q) I ?_) fun u s1 ⟨v, H1, I1, r1, z, f, fd, ev, F, hk, hb, q1⟩ => ?_)
  · refine ⟨c, E, _, ok, q, fun av E1 v H1 ok1 s1 a1 ⟨z, l, hz, q1⟩ => ?_⟩
    obtain ⟨f, fd, h1, h2, h3, h4⟩ := ht z hz
    have hv := shal_str (look_ok ok1 a1 l)
    subst hv
    refine ⟨pa, z, .ref f, rfl, rfl, h1, z, f, fd, rfl, h2, h3, h4, c, E1, QD, ok1, q1, fun av' E' v' H' ok' s' a' w => fi av' E' v' H' ok' (s1.trans s') a' w⟩
  · subst ev
    obtain rfl : u = Value.ref f := r1
    have q2 := call_lift (Ex := E0) (X := X) (dvs := []) (dd := []) Dats.nil σ H1 Q q1
    refine PySem.W.callWith_K (h₀ := X.base) I1.ok.mod.kin hk (thn (ha.run pos pins s1 σ H1 _ I1 q2) fun us s2 ⟨vs, H2, I2, r, q3⟩ => ⟨I2.kIn, ?_⟩) he hpl
    exact run_fn F (hr.mono hjk) hb .nil pass0 I2 r q3
/-- x in d, x not in d: a written dict -/
def rdKd (K : PySem.W.Frag) (pa : Addr) (neg : Bool) : RD2 := fun d e Q => ∃ (z : Str) (r : Option Value), d = .str z ∧ e = .raw (.ref pa) ∧ PySem.W.nsIn K pa z = some r ∧ Q (.bl (if neg then !r.isSome else r.isSome))
theorem ok_inKd {K : PySem.W.Frag} {pa : Addr} : R2Ok K (fun x y H Q => ∃ (z : Str) (r : Option Value), x = .str z ∧ y = .ref pa ∧ PySem.W.nsIn K pa z = some r ∧ Q (.bl r.isSome) H) (rdKd K pa false) := fun G H x y d e QD Q0 s hx hy ⟨z, r, e1, e2, h, q⟩ f => by
  subst e1 e2
  have ex := shal_str hx
  subst ex
  cases (show Dat K G y (.raw (.ref pa)) from hy)
  exact ⟨z, r, rfl, rfl, h, f _ _ (.bl _) q⟩
theorem ok_ninKd {K : PySem.W.Frag} {pa : Addr} : R2Ok K (fun x y H Q => ∃ (z : Str) (r : Option Value), x = .str z ∧ y = .ref pa ∧ PySem.W.nsIn K pa z = some r ∧ Q (.bl (!r.isSome)) H) (rdKd K pa true) := fun G H x y d e QD Q0 s hx hy ⟨z, r, e1, e2, h, q⟩ f => by
  subst e1 e2
  have ex := shal_str hx
  subst ex
  cases (show Dat K G y (.raw (.ref pa)) from hy)
  exact ⟨z, r, rfl, rfl, h, f _ _ (.bl _) q⟩
theorem de_gref {x : Str} {pa : Addr} (hm : X.mg x = some (.ref pa)) (hg : Gl X x := by rfl) (hd : (x == ("__debug__" : Str)) = false := by decide) : PE X (.Name x pos) (lift X.K bs (dC (.raw (.ref pa)))) :=
  de_const (pe_glob (v := .ref pa) hg hm rfl hd) fun _ => .raw _
/-! list(reversed(range)), list(zip), xs[::-1], max(d.values()) -/
def dListRv (tr : TDR) : TDO := fun E Q => tr E fun a b E1 => RgOk a b ∧ Q (rangeD a (b - a).toNat).reverse E1
theorem rv_data {K : PySem.W.Frag} {G : Hp} (a b : Int) : Dats K G (DK.rvV a b) (rangeD a (b - a).toNat).reverse := by
  have e : (rangeD a (b - a).toNat).reverse = (List.range (b - a).toNat).map fun i => D.int (a + (((b - a).toNat : Nat) : Int) - 1 + (i : Nat) * (-1)) := by
    unfold rangeD
    refine List.ext_getElem? fun i => ?_
    by_cases hi : i < (b - a).toNat
    · rw [List.getElem?_reverse (by rw [List.length_map, List.length_range]; exact hi), List.getElem?_map, List.getElem?_map, List.length_map, List.length_range, List.getElem?_range (by omega), List.getElem?_range hi]
      simp only [Option.map_some, Option.some.injEq, D.int.injEq]
      omega
    · rw [List.getElem?_eq_none (by rw [List.length_reverse, List.length_map, List.length_range]; omega), List.getElem?_eq_none (by rw [List.length_map, List.length_range]; omega)]
  rw [e]
  unfold DK.rvV
  generalize List.range (b - a).toNat = l
  induction l with
  | nil => exact .nil
  | cons x r ih => exact .cons (.int _) ih
theorem de_listRv {tr : TDR} {p2 pos2 : Pos} (hc : X.calm = true) (hg : Gl X "list") (hm : X.mg "list" = none) (hg2 : Gl X "reversed") (hm2 : X.mg "reversed" = none) (he : PRg X e (liftR X.K bs tr))
    (na : starEach [e] X.env = (false, eval e X.env) :: starEach [] X.env := by rfl) (nb : starEach [Expr.Call (.Name "reversed" p2) [e] [] pos2] X.env = (false, eval (Expr.Call (.Name "reversed" p2) [e] [] pos2) X.env) :: starEach [] X.env := by rfl) :
    PE X (.Call (.Name "list" p) [.Call (.Name "reversed" p2) [e] [] pos2] [] pos) (liftO X.K bs (dListRv tr)) :=
  (DK.pe_listRv hc hg hm hg2 hm2 he na nb).imp fun σ H Q0 ⟨c, E, Q, ok, q, f⟩ => ⟨c, E, _, ok, q, fun a b E1 H1 ok1 s1 ⟨hr, z⟩ => ⟨hr, fun p np => by
    obtain ⟨o1, o2, o3⟩ := mk_own ok1 np (rv_data a b)
    exact f _ E1 (.ref p) _ p _ o1 o2 (s1.trans (own_step ok1 np o3)) z⟩⟩
def dRevL (te : TD) : TDO := fun E Q => te E fun av E1 => ∃ d ds, look E1 av = some d ∧ itemsOf d = some ds ∧ Q ds.reverse E1
theorem Dats.rev' {K : PySem.W.Frag} {G : Hp} {vs : List V} {ds : List D} (h : Dats K G vs ds) : Dats K G vs.reverse ds.reverse := by
  induction vs generalizing ds with
  | nil =>
    cases h
    exact .nil
  | cons v vs ih =>
    cases h with
    | cons h q =>
    rw [List.reverse_cons, List.reverse_cons]
    exact (ih q).append (.cons h .nil)
theorem de_revL {k : Nat} {p1 p2 p3 : Pos} (he : PE X e (lift X.K bs te)) : PE X (.Subscript e (.Slice none none (some (.UnaryOp .USub (.Constant (.int 1) k p1) p2)) p3) pos) (liftO X.K bs (dRevL te)) :=
  (pe_revL he).imp fun σ H Q0 ⟨c, E, Q, ok, q, f⟩ => ⟨c, E, _, ok, q, fun av E1 v H1 ok1 s1 a1 ⟨d, ds, lk, it, z⟩ => by
    obtain ⟨a, vs, rfl, h1, h2⟩ := items_shal vis_le (look_ok ok1 a1 lk) it
    refine ⟨a, vs, rfl, h1, fun p np => ?_⟩
    obtain ⟨o1, o2, o3⟩ := mk_own ok1 np h2.rev'
    exact f _ E1 (.ref p) _ p _ o1 o2 (s1.trans (own_step ok1 np o3)) z⟩
def dMaxV (te : TD) : TD := fun E Q => te E fun av E1 => ∃ kvs is, look E1 av = some (.dct kvs) ∧ kvs.map (·.2) = is.map D.int ∧ is ≠ [] ∧ ∀ m, m ∈ is → (∀ j ∈ is, j ≤ m) → Q (.val (.int m)) E1
theorem DatK.vals {K : PySem.W.Frag} {G : Hp} : ∀ {vs : List (Key × V)} {es : List (Key × D)} {is : List Int}, DatK K G vs es → es.map (·.2) = is.map D.int → vs.map (·.2) = is.map V.int
  | _, _, [], .nil, _ => rfl
  | _, _, _ :: _, .nil, e => by cases e
  | _, _, [], .cons _ _, e => by cases e
  | _, _, i :: is, .cons h q, e => by
    injection e with e1 e2
    have e1 : _ = D.int i := e1
    subst e1
    cases h
    exact congrArg (V.int i :: ·) (DatK.vals q e2)
theorem de_maxV {apos mpos : Pos} (hc : X.calm = true) (hm : X.mg "max" = none) (hd : PE X e (lift X.K bs te)) (hg : Gl X "max" := by rfl) (hbase : attributeBase e "values" X.env (eval e X.env) = eval e X.env := by rfl) (hline : (apos.endLine == mpos.line) = true := by rfl)
    (hse : starEach [Expr.Call (.Attribute e "values" apos) [] [] mpos] X.env = [(false, eval (Expr.Call (.Attribute e "values" apos) [] [] mpos) X.env)] := by rfl) :
    PE X (.Call (.Name "max" p) [.Call (.Attribute e "values" apos) [] [] mpos] [] pos) (lift X.K bs (dMaxV te)) :=
  (DK.pe_maxVals hc hg hm hd hbase hline hse).imp fun σ H Q0 ⟨c, E, Q, ok, q, f⟩ => ⟨c, E, _, ok, q, fun av E1 v H1 ok1 s1 a1 ⟨kvs, is, lk, hv, hn, z⟩ => by
    obtain ⟨a, ws, e1, e2, e3⟩ := look_ok ok1 a1 lk
    exact ⟨a, ws, is, e1, e2, e3.vals hv, hn, fun m h1 h2 => f (.val (.int m)) E1 _ H1 ok1 s1 (.int m) (z m h1 h2)⟩⟩
theorem layT_at : ∀ {l : List (Addr × List V)} {H : Hp}, (l.map (·.1)).Nodup → ∀ q ∈ l, DK.layT H l q.1 = some (.tup q.2)
  | [], _, _, q, hq => nomatch hq
  | p :: r, H, d, q, hq => by
    obtain ⟨d1, d2⟩ := List.nodup_cons.mp d
    rcases List.mem_cons.mp hq with e | hq
    · subst e
      show DK.layT (upd H q.1 (.tup q.2)) r q.1 = _
      rw [DK.layT_ne fun p hp e => d1 (List.mem_map.mpr ⟨p, hp, e⟩), upd_same]
    · exact layT_at d2 q hq
theorem layT_same {l : List (Addr × List V)} {H : Hp} (n : ∀ p ∈ l, H p.1 = none) : L2.Same H (DK.layT H l) := fun b o e => by
  rw [DK.layT_ne fun p hp z => by
    have := n p hp
    rw [z, e] at this
    cases this]
  exact e
theorem zip_data {K : PySem.W.Frag} {G : Hp} : ∀ {l : List (Addr × List V)} {xs ys : List V} {ds es : List D}, l.map (·.2) = List.zipWith (fun x y => [x, y]) xs ys → Dats K G xs ds → Dats K G ys es → (∀ q ∈ l, G q.1 = some (.tup q.2)) → Dats K G (l.map fun p => V.ref p.1) (List.zipWith (fun u v => D.tup [u, v]) ds es)
  | [], _, _, _, _, e, .nil, _, _ => .nil
  | [], _, _, _, _, e, .cons h q, .nil, _ => .nil
  | [], _, _, _, _, e, .cons h q, .cons h2 q2, _ => by cases e
  | p :: l, _, _, _, _, e, .nil, _, _ => by cases e
  | p :: l, _, _, _, _, e, .cons h q, .nil, _ => by cases e
  | p :: l, _, _, _, _, e, .cons h q, .cons h2 q2, g => by
    injection e with e1 e2
    have e1 : p.2 = _ := e1
    refine .cons ?_ (zip_data e2 q q2 fun z hz => g z (List.mem_cons_of_mem _ hz))
    have := g p List.mem_cons_self
    rw [e1] at this
    exact .tup this (.cons h (.cons h2 .nil))
def dListZp (bs : List Nat) (t : TDL) : TDO := fun E Q => t E fun avs E1 => ∃ x y d e E2 E3, avs = [x, y] ∧ force bs E1 x = some (d, E2) ∧ force bs E2 y = some (e, E3) ∧ ∃ ds es, itemsOf d = some ds ∧ itemsOf e = some es ∧ min ds.length es.length ≤ sizeLine ∧ Q (List.zipWith (fun u v => D.tup [u, v]) ds es) E3
theorem de_listZp {e2 : Expr} {p2 pos2 : Pos} (hc : X.calm = true) (hg : Gl X "list") (hm : X.mg "list" = none) (hg2 : Gl X "zip") (hm2 : X.mg "zip" = none) (ha : PA X [e, e2] (liftL X.K bs t))
    (na : starEach [e, e2] X.env = (false, eval e X.env) :: starEach [e2] X.env := by rfl) (npl : (backTo pos2 (starEach [e2] X.env)).any (·.1) = false := by rfl) (nb : starEach [Expr.Call (.Name "zip" p2) [e, e2] [] pos2] X.env = (false, eval (Expr.Call (.Name "zip" p2) [e, e2] [] pos2) X.env) :: starEach [] X.env := by rfl) :
    PE X (.Call (.Name "list" p) [.Call (.Name "zip" p2) [e, e2] [] pos2] [] pos) (liftO X.K bs (dListZp bs t)) :=
  (DK.pe_listZp hc hg hm hg2 hm2 ha na npl nb).imp fun σ H Q0 ⟨c, E, Q, ok, q, f⟩ => ⟨c, E, _, ok, q, fun avs E1 vs H1 ok1 s1 a1 ⟨x, y, d, e, E2, E3, ex, fo1, fo2, ds, es, i1, i2, hz, z⟩ => by
    subst ex
    cases a1 with
    | cons a1 a2 =>
    cases a2 with
    | cons a2 a3 =>
    cases a3
    obtain ⟨f1, f2, f3⟩ := force_ok ok1 a1 fo1
    obtain ⟨g1, g2, g3⟩ := force_ok f1 (a2.mono f2) fo2
    obtain ⟨a, xs, rfl, h1, h2⟩ := items_ok f3 i1
    obtain ⟨b, ys, rfl, k1, k2⟩ := items_ok g3 i2
    refine ⟨a, b, xs, ys, rfl, (Same.trans g2.s vis_le).seq h1, vis_le.seq k1, by rw [h2.length, k2.length]; exact hz, fun l q nl nd el nq fq => ?_⟩
    have sm0 := layT_same nl
    have hq : DK.layT H1 l q = none := by
      rw [DK.layT_ne fun p hp e => fq (List.mem_map.mpr ⟨p, hp, e⟩)]
      exact nq
    have g4 := g1.growF sm0
    have dd : Dats X.K (vis c σ E3 (DK.layT H1 l)) (l.map fun p => V.ref p.1) (List.zipWith (fun u v => D.tup [u, v]) ds es) :=
      zip_data el ((h2.mono g2.s).mono (vis_grow (.of sm0))) (k2.mono (vis_grow (.of sm0))) fun p hp => vis_at.mpr ⟨g1.new (nl p hp), layT_at nd p hp⟩
    obtain ⟨o1, o2, o3⟩ := mk_own g4 hq dd
    have st0 : Step c c σ E3 H1 E3 (DK.layT H1 l) := ⟨vis_grow (.of sm0), fun b e => by
      obtain ⟨o, eo, _⟩ := g1.hidP b e
      rw [eo, sm0 _ _ eo]⟩
    exact f _ E3 (.ref q) _ q _ o1 o2 ((((s1.trans f2).trans g2).trans st0).trans (own_step g4 hq o3)) z⟩
end
end DL
set_option Elab.async false
set_option linter.all false
set_option autoImplicit false
set_option maxRecDepth 100000
/-! DL13: defs that make a lambda; sorted by it. -/
namespace DL
open PySem PySem.Spec L2 LamX
open PyProof.Rows hiding St
/-- what is asked of such a def -/
structure LamFn (K : PySem.W.Frag) (mg : Str → Option Value) (base : Heap) (n : Str) (f : Addr) : Prop where
  at_ : f = He.fAd K (n, none)
  tb : TabB base mg (He.cT K (n, none)).1 (He.cT K (n, none)).2
  mem : ((He.cT K (n, none)).2, n ++ ".<locals>." ++ "<lambda>") ∈ tabsK K
  uniq : ∀ p ∈ tabsK K, p.1 = (He.cT K (n, none)).2 → p.2 = n ++ ".<locals>." ++ "<lambda>"
section
variable {P : Program} {w : World} {K : PySem.W.Frag} {mg : Str → Option Value} {base : Heap}
theorem _root_.L2.FunD.okDL {x qual : Str} {params : Arguments} {body : List Stmt} {scope : Scope} {dvs : List V} {kws : List (Str × V)} {f : Addr} {fd : FuncData} {N ps : List Str} {k : Nat} {bs : List Nat} {T : FT} {t : TSd} (F : FunD K x qual params body scope dvs kws f fd) (S : FnScope N ps scope) (hT : ∀ args QD, T args QD → args.length = ps.length) (ha : f = He.fAd K (x, none))
    (hb : ∀ (cdv : Value) (A : Around) (outer : List Env) (s : Shared) (H : Hp) (E : XK), cdv = .ref (He.cT K (x, none)).1 → Room k (A.deeper (envOfC qual scope s.heap.objs.size f cdv)) → PSs (cxOf CX0 P w K mg base N qual scope f cdv A outer s H E).nox body (LS K bs t))
    (ht : ∀ args QD, T args QD → t { nx := fun E => QD (.dat .non) (mask bs ps.length E), rt := fun r E => QD r (mask bs ps.length E) } (args ++ List.replicate (N.length - args.length) .no)) : FnOk P w K mg base CX0 (k + 1) f fd ps (FnSp K bs T) := by
  obtain ⟨oc, od, dV, kV, doc, pm, an, cdv, ct, osl, rfl, lk, hcd, _, _⟩ := F.ex
  have hcv : cdv = .ref (He.cT K (x, none)).1 := by
    obtain ⟨c, e⟩ := He.codeIn_ref hcd
    have z := He.codeOf_eq (p := (x, none)) (c := c) (by rw [← ha]; exact lk) e
    rw [e]
    show Value.ref c = .ref (He.codeOf K (x, none))
    rw [z]
  refine fn_of lk hcd S (fun vs H Q E ⟨P', ad, args, QD, ok, h, _⟩ => ?_) fun A outer s H vs Q E hr ⟨P', ad, args, QD, ok, h, q⟩ => ⟨_, (hb cdv A outer s H E hcv hr).nox, ?_⟩
  · have := ok.len
    rw [List.length_map] at this
    rw [this, hT args QD h]
  · have hl : vs.length = ps.length := by
      have := ok.len
      rw [List.length_map] at this
      rw [this, hT args QD h]
    have hbor : ∀ i ∈ bs, (vs.map some)[i]? = some (some (V.ref (ad i))) := fun i hi => by
      obtain ⟨_, _, _, e⟩ := ok.bor i hi
      exact e
    refine ⟨⟨H, P', ad⟩, _, _, ok.start, ht args QD h, ⟨fun σ' H' E' ok' _ z => ?_, fun _ _ _ _ _ z => z.elim, fun _ _ _ _ _ z => z.elim, fun σ' H' E' v r ro z => ?_⟩⟩
    · refine q .non H' (.dat .non) _ (RtOk.mask (r := .dat .non) ⟨ok', .non⟩ hbor) ?_
      rw [hl]
      exact z
    · refine q v H' r _ (RtOk.mask ro hbor) ?_
      rw [hl]
      exact z
end
theorem Same.ofT {H H' : Hp} (e : DK.ExtT H H') : Same H H' := fun b o q => ⟨fun n => e.1 b o q n, fun ps z => e.2 b ps (by rw [q, z])⟩
section
variable {X : Cx} {bs : List Nat} {e ea : Expr} {te ti : TD} {i k : Nat} {n x y : Str} {f : Addr} {params : Arguments} {scope : Scope} {k1 k2 : Nat} {p pr p1 p2 p3 p4 p5 p6 p7 lpos kpos pos rpos : Pos}
/-- the list's ints, the captured list's ints; the places in their order -/
def SortOk (i : Nat) (E1 : DEnv) (is : List Int) (Q : List D → DEnv → Prop) : Prop := ∃ (dr : D) (rs : List Int), look E1 (.slot i) = some dr ∧ intsD dr rs ∧ (∀ j ∈ is, 0 ≤ j ∧ j < rs.length) ∧ is.length ≤ sizeLine ∧ Q ((is.mergeSort (DK.leBy rs)).map .int) E1
def dSortL (i : Nat) (te : TD) : TDO := fun E Q => te E fun av E1 => ∃ d is, look E1 av = some d ∧ intsD d is ∧ SortOk i E1 is Q
def dSortR (i : Nat) (te : TD) : TDO := fun E Q => te E fun av E1 => ∃ m : Nat, look E1 av = some (.int m) ∧ m ≤ 2 ^ 24 ∧ SortOk i E1 ((List.range m).map fun (j : Nat) => (j : Int)) Q
theorem sort_fin {c : Ct} {σ : St} {E1 : DEnv} {H1 H2 : Hp} {q : Addr} {K : PySem.W.Frag} (ok1 : StOk K bs c σ H1 E1) (eT : DK.ExtT H1 H2) (tT : Tabs (tabsK K) H2) (nq : H2 q = none) (js : List Int) :
    OwnL K bs c σ (upd H2 q (.lst (js.map V.int))) E1 (.ref q) (js.map .int) q (js.map V.int) ∧ ¬ c.P q ∧ Step c (c.hide q) σ E1 H1 E1 (upd H2 q (.lst (js.map V.int))) := by
  have sm := Same.ofT eT
  have ok2 := ok1.grow sm tT
  obtain ⟨o1, o2, o3⟩ := mk_own ok2 nq (Dats.ints js)
  have st0 : Step c c σ E1 H1 E1 H2 := ⟨vis_grow sm, fun b e => by
    obtain ⟨o, eo, no⟩ := ok1.hidP b e
    rw [eo, (sm _ _ eo).k no]⟩
  exact ⟨o1, o2, st0.trans (own_step ok2 nq o3)⟩
theorem free_by {s1 s2 : List (Str × NameKind)} (h : (s1.all fun z => !decide (z.2 = .free) || decide (s2.lookup z.1 = some .cell)) = true) : ∀ z ∈ s1, z.2 = .free → s2.lookup z.1 = some .cell := fun z hz e => by
  have := List.all_eq_true.mp h z hz
  rw [decide_eq_true e] at this
  simpa using this
theorem de_sortL (L : LamFn X.K X.mg X.base n f) (hq : X.env.qual = n ++ ".<locals>.") (hcode : X.env.code = .ref (He.cT X.K (n, none)).1) (hc : X.calm = true) (hm : X.mg "sorted" = none) (hr : Room k X.A) (S : DK.LamK scope x y) (hN : X.N[i]? = some y) (hcell : X.env.scope.names.lookup y = some .cell) (hfr : (scope.names.all fun z => !decide (z.2 = .free) || decide (X.env.scope.names.lookup z.1 = some .cell)) = true)
    (he : PE X e (lift X.K bs te)) (hdef : defaultsOf params X.env = ([], []) := by rfl)
    (hbind : ∀ (q : Str) (cl : List (Str × Addr)) (pm cv ctv v : Value), bindArgs (PySem.W.kla_fn "<lambda>" q params (DK.lamTree x y k1 k2 p1 p2 p3 p4 p5 p6 p7) scope cl pm cv ctv) ⟨[v], []⟩ = pure [(x, v)] := by exact fun _ _ _ _ _ _ => rfl) (hg : Gl X "sorted" := by rfl)
    (na : backTo pos (starEach [e] X.env) = (false, eval e X.env) :: backTo pos (starEach [] X.env) := by rfl) (hpl : (backTo pos (starEach [e] X.env)).any (·.1) = false := by rfl) :
    PE X (.Call (.Name "sorted" p) [e] [⟨some "key", .Lambda params (DK.lamTree x y k1 k2 p1 p2 p3 p4 p5 p6 p7) scope lpos, kpos⟩] pos) (liftO X.K bs (dSortL i te)) :=
  (DK.pe_sortLam (i := i) (T := tabsK X.K) hc hg hm he L.tb hcode (by rw [hq]; exact L.mem) (fun p hp e => by rw [hq]; exact L.uniq p hp e) hr S hN hcell (free_by hfr) hdef hbind na hpl).imp fun σ H Q0 ⟨c, E, Q, ok, q, f⟩ => ⟨c, E, _, ok, q, fun av E1 v H1 ok1 s1 a1 ⟨d, is, lk, hi, dr, rs, l2, h2, h3, h4, z⟩ => by
    obtain ⟨a, rfl, e1⟩ := ints_ok vis_le (look_ok ok1 a1 lk) hi
    have hs : ∃ vr, σ[i]? = some (some vr) := by
      dsimp only [look] at l2
      cases q : E1[i]? with
      | none =>
        rw [q] at l2
        cases l2
      | some s =>
        obtain ⟨w, w1, w2⟩ := ok1.slot i s q
        rw [q] at l2
        cases s with
        | no => cases l2
        | dat d =>
          obtain ⟨x, ex, _⟩ := w2
          exact ⟨x, by rw [w1, ex]⟩
        | ml d =>
          obtain ⟨x, _, ex, _⟩ := w2
          exact ⟨_, by rw [w1, ex]⟩
        | md d =>
          obtain ⟨x, _, ex, _⟩ := w2
          exact ⟨_, by rw [w1, ex]⟩
    obtain ⟨vr, hs⟩ := hs
    obtain ⟨b, rfl, e2⟩ := ints_ok vis_le (look_ok (av := .slot i) ok1 hs l2) h2
    refine ⟨a, is, b, rs, rfl, .inl e1, ok1.tabs, hs, e2, h3, h4, fun H2 eT tT q nq => ?_⟩
    obtain ⟨o1, o2, o3⟩ := sort_fin ok1 eT tT nq (is.mergeSort (DK.leBy rs))
    exact f _ E1 _ _ q _ o1 o2 (s1.trans o3) z⟩
theorem cr_range1 : CallR X (.type "range") (fun vs H Q => ∃ i, vs = [V.int i] ∧ ∀ p, H p = none → Q (.ref p) (upd H p (.rng 0 i))) := by
  intro pins s σ H vs us Q I r h
  obtain ⟨i, rfl, q⟩ := h
  cases r with
  | cons ri rn =>
  cases rn
  obtain ⟨t, rfl⟩ := ri
  refine call_range_1 ⟨.ref s.heap.objs.size, upd H s.heap.objs.size (.rng 0 i), I.laid (t' := s.toks + 1 + 1) (fun b o e => Heap.get?_push_of_some _ e) (Nat.le_refl _) ?_, rfl, q _ (I.hok.fresh (Nat.le_refl _))⟩
  exact ⟨s.toks, t, s.toks + 1, Heap.get?_push_size _ rfl⟩
theorem de_sortR (L : LamFn X.K X.mg X.base n f) (hq : X.env.qual = n ++ ".<locals>.") (hcode : X.env.code = .ref (He.cT X.K (n, none)).1) (hc : X.calm = true) (hm : X.mg "sorted" = none) (hm2 : X.mg "range" = none) (hr : Room k X.A) (S : DK.LamK scope x y) (hN : X.N[i]? = some y) (hcell : X.env.scope.names.lookup y = some .cell) (hfr : (scope.names.all fun z => !decide (z.2 = .free) || decide (X.env.scope.names.lookup z.1 = some .cell)) = true)
    (he : PE X ea (lift X.K bs te)) (hdef : defaultsOf params X.env = ([], []) := by rfl)
    (hbind : ∀ (q : Str) (cl : List (Str × Addr)) (pm cv ctv v : Value), bindArgs (PySem.W.kla_fn "<lambda>" q params (DK.lamTree x y k1 k2 p1 p2 p3 p4 p5 p6 p7) scope cl pm cv ctv) ⟨[v], []⟩ = pure [(x, v)] := by exact fun _ _ _ _ _ _ => rfl) (hg : Gl X "sorted" := by rfl) (hg2 : Gl X "range" := by rfl)
    (na : backTo pos (starEach [Expr.Call (.Name "range" pr) [ea] [] rpos] X.env) = (false, eval (Expr.Call (.Name "range" pr) [ea] [] rpos) X.env) :: backTo pos (starEach [] X.env) := by rfl) (hpl : (backTo pos (starEach [Expr.Call (.Name "range" pr) [ea] [] rpos] X.env)).any (·.1) = false := by rfl)
    (he2 : starEach [ea] X.env = (false, eval ea X.env) :: starEach [] X.env := by rfl) :
    PE X (.Call (.Name "sorted" p) [.Call (.Name "range" pr) [ea] [] rpos] [⟨some "key", .Lambda params (DK.lamTree x y k1 k2 p1 p2 p3 p4 p5 p6 p7) scope lpos, kpos⟩] pos) (liftO X.K bs (dSortR i te)) :=
  (DK.pe_sortLam (i := i) (T := tabsK X.K) hc hg hm (pe_callTy cr_range1 hg2 hm2 boot_range (pa_cons he pa_nil he2) (by decide) (by decide) he2 (by rfl)) L.tb hcode (by rw [hq]; exact L.mem) (fun p hp e => by rw [hq]; exact L.uniq p hp e) hr S hN hcell (free_by hfr) hdef hbind na hpl).imp fun σ H Q0 ⟨c, E, Q, ok, q, f⟩ => ⟨c, E, _, ok, q, fun av E1 v H1 ok1 s1 a1 ⟨m, lk, hm, dr, rs, l2, h2, h3, h4, z⟩ => ⟨m, by rw [shal_int (look_ok ok1 a1 lk)], fun rp nr => by
    have ok1' := ok1.growF (same_upd0 (o := .rng 0 m) nr)
    have sr : Step c c σ E1 H1 E1 (upd H1 rp (.rng 0 m)) := ⟨vis_grow (same_upd nr), fun b e => by
      obtain ⟨o, eo, _⟩ := ok1.hidP b e
      rw [eo, same_upd0 nr _ _ eo]⟩
    have hs : ∃ vr, σ[i]? = some (some vr) := by
      dsimp only [look] at l2
      cases q : E1[i]? with
      | none =>
        rw [q] at l2
        cases l2
      | some s =>
        obtain ⟨w, w1, w2⟩ := ok1.slot i s q
        rw [q] at l2
        cases s with
        | no => cases l2
        | dat d =>
          obtain ⟨x, ex, _⟩ := w2
          exact ⟨x, by rw [w1, ex]⟩
        | ml d =>
          obtain ⟨x, _, ex, _⟩ := w2
          exact ⟨_, by rw [w1, ex]⟩
        | md d =>
          obtain ⟨x, _, ex, _⟩ := w2
          exact ⟨_, by rw [w1, ex]⟩
    obtain ⟨vr, hs⟩ := hs
    obtain ⟨b, rfl, e2⟩ := ints_ok vis_le (look_ok (av := .slot i) ok1' hs l2) h2
    refine ⟨rp, (List.range m).map fun (j : Nat) => (j : Int), b, rs, rfl, .inr ⟨m, upd_same, hm, rfl⟩, ok1'.tabs, hs, e2, h3, h4, fun H2 eT tT q nq => ?_⟩
    obtain ⟨o1, o2, o3⟩ := sort_fin ok1' eT tT nq (((List.range m).map fun (j : Nat) => (j : Int)).mergeSort (DK.leBy rs))
    exact f _ E1 _ _ q _ o1 o2 ((s1.trans sr).trans o3) z⟩⟩
end
end DL
set_option Elab.async false
set_option linter.all false
set_option autoImplicit false
set_option maxRecDepth 100000
/-! DL14: readings of comprehensions over what is known. -/
namespace DL
open PySem PySem.Spec L2
open PyProof.Rows hiding St
section
variable {bs vs : List Nat} {g : TDG} {tk : TDB} {te : TD} {E1 : DEnv} {Q : List D → DEnv → Prop} {α : Type} {xs : List α} {emb : α → D}
/-- what is left of a comprehension behind its iterable -/
def LcRest (bs vs : List Nat) (g : TDG) (tk : TDB) (te : TD) (ds : List D) (E1 : DEnv) (Q : List D → DEnv → Prop) : Prop := ds.length ≤ sizeLine ∧ (vs.all fun i => !bs.contains i) = true ∧ ∃ I : Nat → List D → DEnv → Prop, I 0 [] (wipeE E1 vs) ∧
  (∀ k acc d E', ds[k]? = some d → I k acc E' → g d E' fun E2 => tk E2 fun b E3 => if b = true then te E3 fun av E4 => ∃ y E5, force bs E4 av = some (y, E5) ∧ I (k + 1) (acc ++ [y]) (wipeE E5 vs) else I (k + 1) acc (wipeE E3 vs)) ∧
  ∀ acc E', I ds.length acc E' → Q acc E'
def LcStep (bs vs : List Nat) (g : TDG) (tk : TDB) (te : TD) (d : D) (E0 : DEnv) (r : Option D) : Prop := ∀ R : Option D → DEnv → Prop, R r E0 → g d E0 fun E2 => tk E2 fun b E3 => if b = true then te E3 fun av E4 => ∃ y E5, force bs E4 av = some (y, E5) ∧ R (some y) (wipeE E5 vs) else R none (wipeE E3 vs)
/-- nothing but the row changes -/
theorem lc_fm (F : α → Option D) (hl : xs.length ≤ sizeLine) (hv : (vs.all fun i => !bs.contains i) = true) (step : ∀ (i : Nat) (x : α), xs[i]? = some x → LcStep bs vs g tk te (emb x) (wipeE E1 vs) (F x)) (q : Q (xs.filterMap F) (wipeE E1 vs)) : LcRest bs vs g tk te (xs.map emb) E1 Q := by
  refine ⟨by rw [List.length_map]; exact hl, hv, fun k acc E => acc = (xs.take k).filterMap F ∧ E = wipeE E1 vs, ⟨rfl, rfl⟩, fun k acc d E' e ⟨h1, h2⟩ => ?_, fun acc E' ⟨h1, h2⟩ => ?_⟩
  · subst h1 h2
    rw [List.getElem?_map] at e
    obtain ⟨x, ex, ed⟩ := Option.map_eq_some_iff.mp e
    subst ed
    have tk1 : (xs.take (k + 1)).filterMap F = (xs.take k).filterMap F ++ (F x).toList := by
      rw [List.take_add_one, ex, List.filterMap_append]
      cases h : F x <;> simp [h]
    have z := step k x ex (fun r E => (xs.take k).filterMap F ++ r.toList = (xs.take (k + 1)).filterMap F ∧ E = wipeE E1 vs) ⟨tk1.symm, rfl⟩
    exact z |> fun z => by
      simp only [Option.toList_some, Option.toList_none, List.append_nil] at z
      exact z
  · subst h2
    rw [List.length_map, List.take_length] at h1
    rw [h1]
    exact q
theorem lc_map (f : α → D) (hl : xs.length ≤ sizeLine) (hv : (vs.all fun i => !bs.contains i) = true) (step : ∀ (i : Nat) (x : α), xs[i]? = some x → LcStep bs vs g tk te (emb x) (wipeE E1 vs) (some (f x))) (q : Q (xs.map f) (wipeE E1 vs)) : LcRest bs vs g tk te (xs.map emb) E1 Q :=
  lc_fm (fun x => some (f x)) hl hv step (by rw [List.filterMap_eq_map']; exact q)
theorem lc_mapE (f : α → D) (r : List D) (E0 : DEnv) (er : xs.map f = r) (hl : xs.length ≤ sizeLine) (step : ∀ (i : Nat) (x : α), xs[i]? = some x → LcStep bs vs g tk te (emb x) E0 (some (f x))) (q : Q r E0) (hE : wipeE E1 vs = E0 := by rfl) (hv : (vs.all fun i => !bs.contains i) = true := by rfl) : LcRest bs vs g tk te (xs.map emb) E1 Q := by
  subst er hE
  exact lc_map f hl hv step q
theorem lc_fmE (F : α → Option D) (r : List D) (E0 : DEnv) (er : xs.filterMap F = r) (hl : xs.length ≤ sizeLine) (step : ∀ (i : Nat) (x : α), xs[i]? = some x → LcStep bs vs g tk te (emb x) E0 (F x)) (q : Q r E0) (hE : wipeE E1 vs = E0 := by rfl) (hv : (vs.all fun i => !bs.contains i) = true := by rfl) : LcRest bs vs g tk te (xs.map emb) E1 Q := by
  subst er hE
  exact lc_fm F hl hv step q
end
end DL
set_option Elab.async false
set_option linter.all false
set_option autoImplicit false
set_option maxRecDepth 100000
/-! DL15: a comprehension over a list of one's own, which stays one's own. -/
namespace DL
open PySem PySem.Spec L2
open PyProof.Rows hiding St
section
variable {X : Cx} {bs : List Nat} {tk : TDB} {g : TDG} {te : TD}
def dLcK (bs vs : List Nat) (i : Nat) (g : TDG) (tk : TDB) (te : TD) : TDO := fun E Q => ∃ ds, E[i]? = some (.ml ds) ∧ ds.length ≤ sizeLine ∧ (vs.all fun i => !bs.contains i) = true ∧ vs.contains i = false ∧ ∃ I : Nat → List D → DEnv → Prop, I 0 [] (wipeE E vs) ∧ (∀ k acc E', I k acc E' → E'[i]? = some (.ml ds)) ∧
  (∀ k acc d E', ds[k]? = some d → I k acc E' → g d E' fun E2 => tk E2 fun b E3 => if b = true then te E3 fun av E4 => ∃ y E5, force bs E4 av = some (y, E5) ∧ I (k + 1) (acc ++ [y]) (wipeE E5 vs) else I (k + 1) acc (wipeE E3 vs)) ∧
  ∀ acc E', I ds.length acc E' → Q acc E'
theorem lc_liftK {vs : List Nat} {i0 : Nat} (σ : St) (H : Hp) (Q0 : VK) (h : liftO X.K bs (dLcK bs vs i0 g tk te) σ H Q0) : tLc (iList X.K (tVar i0)) (liftG X.K bs vs g) (liftB X.K bs tk) (lift X.K bs te) vs σ H Q0 := by
  obtain ⟨c, E1, Q, ok1, ⟨ds, e0, hz, hvb, hiv, I, i00, own, step, fin⟩, f⟩ := h
  have s1 : Step c c σ E1 H E1 H := Step.refl
  obtain ⟨w0, w1, a0, ws0, rfl, w2, _⟩ := ok1.slot i0 _ e0
  refine ⟨.ref a0, w1, a0, rfl, ⟨ws0, SqL.of w2⟩, fun D hD => ?_⟩
  have wi : (wipe σ vs)[i0]? = some (some (.ref a0)) := by
    rw [wipe_get, if_neg (fun z => by
      have z1 : vs.contains i0 = true := by simpa using z.1
      rw [hiv] at z1
      cases z1)]
    exact w1
  have hvs : ∀ v ∈ vs, v ∉ bs := fun v hv z => by
    have := List.all_eq_true.mp hvb v hv
    have z' : bs.contains v = true := by simpa using z
    rw [z'] at this
    cases this
  have h0 : c.H0 D = none := ok1.fresh0 hD
  have nP : ¬ c.P D := fun z => by
    obtain ⟨o, e, _⟩ := ok1.hidP D z
    rw [hD] at e
    cases e
  obtain ⟨l1, l2⟩ := ok1.lay (o := .lst []) hD
  obtain ⟨w1, w2⟩ := l1.wipes vs hvs
  refine ⟨fun i m H' => m = ds.length - i ∧ i ≤ ds.length ∧ ∃ acc accV E', StOk X.K bs (c.hide D) (wipe σ vs) H' E' ∧ Same (vis c σ E1 H) (vis (c.hide D) (wipe σ vs) E' H') ∧ H' D = some (.lst accV) ∧ Dats X.K (vis (c.hide D) (wipe σ vs) E' H') accV acc ∧ acc.length ≤ i ∧ (∀ j s, j ∈ vs → E'[j]? = some s → s = .no) ∧ (∀ b, c.P b → H' b = H b) ∧ I i acc E',
    ⟨_, rfl, Nat.zero_le _, [], [], _, w1, l2.trans w2, upd_same, .nil, Nat.le_refl _, fun j s hj e => wipeE_no hj e, fun b z => upd_ne (fun (y : b = D) => nP (y ▸ z)), i00⟩, ?_⟩
  rintro i m H' ⟨rfl, hi, acc, accV, E', ok', s', eD, dA, la, hno, pk, hI⟩
  obtain ⟨w9, w3, a9, ws, w4, w5, w6, _⟩ := ok'.slot i0 _ (own i acc E' hI)
  rw [wi] at w3
  cases w3
  cases w4
  have z1 : ∀ d, ds[i]? = some d → (Itl X.K a0).go i H' ∧ ∀ x H'', (Itl X.K a0).yld i H' x H'' → L2.Same H' H'' ∧ Dat X.K (vis (c.hide D) (wipe σ vs) E' H'') x d := fun d e => by
    obtain ⟨v, v1, v2⟩ := w6.get e
    refine ⟨⟨ws, v, SqL.of w5, v1⟩, fun x H'' ⟨y1, y2⟩ => ?_⟩
    subst y1
    have y3 := y2 ws (SqL.of w5)
    rw [v1] at y3
    cases y3
    exact ⟨L2.Same.refl _, v2⟩
  have z2 : i = ds.length → (Itl X.K a0).stop i H' := fun e => ⟨ws, SqL.of w5, by rw [w6.length, e]; exact Nat.le_refl _⟩
  by_cases hlt : i < ds.length
  · have e := List.getElem?_eq_getElem hlt
    obtain ⟨g1, g2⟩ := z1 _ e
    refine .inr ⟨g1, fun H2 => ∃ acc accV E', StOk X.K bs (c.hide D) (wipe σ vs) H2 E' ∧ Same (vis c σ E1 H) (vis (c.hide D) (wipe σ vs) E' H2) ∧ H2 D = some (.lst accV) ∧ Dats X.K (vis (c.hide D) (wipe σ vs) E' H2) accV acc ∧ acc.length ≤ i + 1 ∧ (∀ j s, j ∈ vs → E'[j]? = some s → s = .no) ∧ (∀ b, c.P b → H2 b = H b) ∧ I (i + 1) acc E', fun H2 hN => ⟨_, by omega, rfl, hlt, hN⟩, fun x H2 y => ?_⟩
    obtain ⟨y1, y2⟩ := g2 x H2 y
    refine ⟨c.hide D, E', _, _, ok'.growF y1, y2, step i acc _ E' e hI, fun σ2 E2 ok2 s2 l2 k2 z => ?_⟩
    have ew : wipe σ2 vs = wipe σ vs := wipe_eq (by rw [l2, wipe_length]) fun j hj => (k2 j hj).1
    have out : ∀ (E6 : DEnv) (H6 : Hp), StOk X.K bs (c.hide D) σ2 H6 E6 → StOk X.K bs (c.hide D) (wipe σ vs) H6 (wipeE E6 vs) ∧ Same (vis (c.hide D) σ2 E6 H6) (vis (c.hide D) (wipe σ vs) (wipeE E6 vs) H6) := fun E6 H6 ok6 => by
      have q := ok6.wipes vs hvs
      rw [ew] at q
      exact q
    refine ⟨ew, c.hide D, E2, _, ok2, z, fun b E3 H3 ok3 s3 z => ?_⟩
    have sm3 := (vis_grow (c := c.hide D) (σ := wipe σ vs) (E := E') (.of y1)).trans (s2.trans s3.s)
    have e3 : H3 D = some (.lst accV) := by
      rw [s3.p D (.inr rfl)]
      exact y1 _ _ eD
    have pk3 : ∀ b, c.P b → H3 b = H b := fun b z => by
      rw [s3.p b (.inl z), ← pk b z]
      obtain ⟨o, eo, no⟩ := ok'.hidP b (.inl z)
      rw [eo, y1 _ _ eo]
    cases b with
    | true =>
      refine iteT ⟨c.hide D, E3, _, ok3, it1 z, fun av E4 v H4 ok4 s4 a4 ⟨y, E5, fo, hI'⟩ => ?_⟩
      obtain ⟨f1, f2, f3⟩ := force_ok ok4 a4 fo
      have e4 : H4 D = some (.lst accV) := by
        rw [s4.p D (.inr rfl)]
        exact e3
      have hlen : accV.length < sizeLine := by
        rw [dA.length]
        omega
      obtain ⟨p1, p2⟩ := f1.updP (vs := accV ++ [v]) (D0 := D) (.inr rfl) h0 e4
      obtain ⟨o1, o2⟩ := out _ _ p1
      have sm5 := (sm3.trans (s4.trans f2).s)
      have sm6 : Same (vis (c.hide D) (wipe σ vs) E' H') (vis (c.hide D) (wipe σ vs) (wipeE E5 vs) (upd H4 D (.lst (accV ++ [v])))) := by
        refine sm5.trans ?_
        rw [← p2]
        exact o2
      refine ⟨accV, e4, hlen, acc ++ [y], accV ++ [v], wipeE E5 vs, o1, s'.trans sm6, upd_same, (dA.mono sm6).append (.cons ?_ .nil), by rw [List.length_append]; exact Nat.succ_le_succ la, fun j s hj e => wipeE_no hj e, fun b z => ?_, hI'⟩
      · rw [← p2] at f3
        exact f3.mono o2
      · rw [upd_ne (fun (y : b = D) => nP (y ▸ z)), s4.p b (.inl z)]
        exact pk3 b z
    | false =>
      obtain ⟨o1, o2⟩ := out _ _ ok3
      have sm6 := sm3.trans o2
      exact iteF ⟨acc, accV, wipeE E3 vs, o1, s'.trans sm6, e3, dA.mono sm6, Nat.le_succ_of_le la, fun j s hj e => wipeE_no hj e, pk3, it0 z⟩
  · have ei : i = ds.length := by omega
    subst ei
    refine .inl ⟨z2 rfl, ?_⟩
    obtain ⟨u1, u2⟩ := ok'.unwipe hno
    refine f acc E' (.ref D) H' D accV ⟨rfl, eD, h0, u1, by rw [u2]; exact dA⟩ nP (s1.trans ⟨?_, pk⟩) (fin acc E' hI)
    rw [u2]
    exact s'
end
section
variable {X : Cx} {bs : List Nat} {elt tg : Expr} {ifs : List Expr} {scope : Scope} {own : List (Str × Nat)} {pos p : Pos} {x : Str} {i : Nat} {g : TDG} {tk : TDB} {te : TD}
theorem de_lcK (hc : X.calm = true) (hN : X.N.Nodup) (hi : PE X (.Name x p) (tVar i)) (ok : BlkOk X.N X.env.scope scope own)
    (hg : ∀ (s : Shared) (H : Hp) (C : Addr) (cl : List (Str × Addr)) (fp : List Addr), PG (X.blk s H scope (compEnvC scope cl C X.env) fp) tg (liftG X.K bs (own.map (·.2)) g)) (ht : ∀ (s : Shared) (H : Hp) (C : Addr) (cl : List (Str × Addr)) (fp : List Addr), PTs (X.blk s H scope (compEnvC scope cl C X.env) fp) ifs (liftB X.K bs tk))
    (he : ∀ (s : Shared) (H : Hp) (C : Addr) (cl : List (Str × Addr)) (fp : List Addr), PE (X.blk s H scope (compEnvC scope cl C X.env) fp) elt (lift X.K bs te)) (hs : ∀ z, foldedSetIterable (.Name x p) X.env z = pure z := by intro _; rfl) :
    PE X (.ListComp elt [⟨tg, .Name x p, ifs, 0⟩] scope pos) (liftO X.K bs (dLcK bs (own.map (·.2)) i g tk te)) := (pe_lc hc hN (pi_list hi) ok hg ht he hs).imp lc_liftK
variable {vs : List Nat} {E1 : DEnv} {Q : List D → DEnv → Prop} {α : Type} {xs : List α} {emb : α → D}
theorem lcK_mapE (f : α → D) (r : List D) (E0 : DEnv) (er : xs.map f = r) (hl : xs.length ≤ sizeLine) (he : E1[i]? = some (.ml (xs.map emb))) (he0 : E0[i]? = some (.ml (xs.map emb))) (step : ∀ (k : Nat) (x : α), xs[k]? = some x → LcStep bs vs g tk te (emb x) E0 (some (f x))) (q : Q r E0) (hE : wipeE E1 vs = E0 := by rfl) (hv : (vs.all fun i => !bs.contains i) = true := by rfl) (hiv : vs.contains i = false := by rfl) : dLcK bs vs i g tk te E1 Q := by
  subst er hE
  refine ⟨_, he, by rw [List.length_map]; exact hl, hv, hiv, fun k acc E => acc = (xs.take k).map f ∧ E = wipeE E1 vs, ⟨rfl, rfl⟩, fun k acc E' ⟨_, h2⟩ => by rw [h2]; exact he0, fun k acc d E' e ⟨h1, h2⟩ => ?_, fun acc E' ⟨h1, h2⟩ => ?_⟩
  · subst h1 h2
    rw [List.getElem?_map] at e
    obtain ⟨x, ex, ed⟩ := Option.map_eq_some_iff.mp e
    subst ed
    have tk1 : (xs.take (k + 1)).map f = (xs.take k).map f ++ [f x] := by
      rw [List.take_add_one, ex, List.map_append]
      rfl
    have z := step k x ex (fun r E => (xs.take k).map f ++ r.toList = (xs.take (k + 1)).map f ∧ E = wipeE E1 vs) ⟨tk1.symm, rfl⟩
    exact z |> fun z => by
      simp only [Option.toList_some, Option.toList_none, List.append_nil] at z
      exact z
  · subst h2
    rw [List.length_map, List.take_length] at h1
    rw [h1]
    exact q
end
end DL
set_option Elab.async false
set_option linter.all false
set_option autoImplicit false
set_option maxRecDepth 100000
set_option maxHeartbeats 800000
namespace K71
open PySem PySem.Spec L2 DL
open PyProof.Rows hiding St
def topS (i : Nat) : Stmt := PySem.Challenge.pw_chestbreaks_k71_parted_in_units.main.body.getD i (.Pass ⟨0, 0, 0, 0⟩)
/-! the plain law -/
def letters : Str := "abcdefghijklmnopqrstuvwxyz"
def nameOk (x : Str) : Prop := 1 ≤ x.length ∧ x.length ≤ 8 ∧ ∀ n ∈ x.cps.toList, n ∈ letters.cps.toList
instance (x : Str) : Decidable (nameOk x) := by
  unfold nameOk
  infer_instance
def rowD (p : Str × Int) : D := .tup [.str p.1, .int p.2]
def shD (ps : List (Str × Int)) : D := .lst (ps.map rowD)
structure Good (ps : List (Str × Int)) : Prop where
  nm : ∀ p ∈ ps, nameOk p.1
  nd : (ps.map (·.1)).Nodup
  lo : ∀ p ∈ ps, 0 ≤ p.2
  hi : ∀ p ∈ ps, p.2 ≤ 1000000
  n1 : 1 ≤ ps.length
  n2 : ps.length ≤ 24
  pos : ∃ p ∈ ps, 0 < p.2
def ordF (rs : List Int) : List Int := (List.range rs.length).map fun (j : Nat) => (j : Int)
def ord (z : Str) (rs : List Int) : List Int := if z = "first" then ordF rs else if z = "last" then (ordF rs).reverse else (ordF rs).mergeSort (DK.leBy rs)
def turns : List Str := ["first", "last", "greatest"]
def addAt (us : List Int) (l : List Int) : List Int := l.foldl (fun u j => u.set j.toNat (u.getD j.toNat 0 + 1)) us
def wholeP (ps : List (Str × Int)) : Int := (ps.map (·.2)).sum
def unitsP (m : Int) (ps : List (Str × Int)) : List Int := ps.map fun p => m * p.2 / wholeP ps
def restsP (m : Int) (ps : List (Str × Int)) : List Int := ps.map fun p => m * p.2 % wholeP ps
def bareP (ps : List (Str × Int)) : List Int := ((List.range ps.length).map fun (j : Nat) => (j : Int)).filter fun j => decide ((ps.getD j.toNat ("", 0)).2 = 0)
def oddP (us rs : List Int) (left : Int) (z : Str) (bare : List Int) : List Int := addAt us (((ord z rs).filter fun j => !decide (j ∈ bare)).take left.toNat)
def partP (m : Int) (ps : List (Str × Int)) (z : Str) : List Int := oddP (unitsP m ps) (restsP m ps) (m - (unitsP m ps).sum) z (bareP ps)
def dueP (m : Int) (ps : List (Str × Int)) (z : Str) : List D := List.zipWith (fun x u => D.tup [x, u]) (ps.map fun p => D.str p.1) ((partP m ps z).map .int)
theorem ordF_D (rs : List Int) : (ordF rs).map D.int = rangeD 0 (((rs.map D.int).length : Int) - 0).toNat := by
  unfold ordF rangeD
  have e : (((rs.map D.int).length : Int) - 0).toNat = rs.length := by
    rw [List.length_map]
    omega
  rw [e, List.map_map]
  refine List.map_congr_left fun j _ => ?_
  show D.int (j : Int) = D.int (0 + (j : Int))
  rw [Int.zero_add]
theorem ordF_length (rs : List Int) : (ordF rs).length = rs.length := by
  unfold ordF
  rw [List.length_map, List.length_range]
theorem ordF_mem {rs : List Int} {j : Int} (h : j ∈ ordF rs) : 0 ≤ j ∧ j < rs.length := by
  unfold ordF at h
  obtain ⟨i, hi, e⟩ := List.mem_map.mp h
  have := List.mem_range.mp hi
  omega
theorem ord_last (rs : List Int) : ord "last" rs = (ordF rs).reverse := (if_neg (by decide)).trans (if_pos rfl)
theorem ord_first (rs : List Int) : ord "first" rs = ordF rs := if_pos rfl
theorem ord_great (rs : List Int) : ord "greatest" rs = (ordF rs).mergeSort (DK.leBy rs) := (if_neg (by decide)).trans (if_neg (by decide))
theorem ord_mem {z : Str} {rs : List Int} {j : Int} (h : j ∈ ord z rs) : 0 ≤ j ∧ j < rs.length := by
  unfold ord at h
  split at h
  · exact ordF_mem h
  · split at h
    · exact ordF_mem (List.mem_reverse.mp h)
    · exact ordF_mem (List.mem_mergeSort.mp h)
theorem ord_length (z : Str) (rs : List Int) : (ord z rs).length = rs.length := by
  unfold ord
  split
  · exact ordF_length rs
  · split
    · rw [List.length_reverse, ordF_length]
    · rw [List.length_mergeSort, ordF_length]
/-- what was seen so far -/
def seenP (ps : List (Str × Int)) : List (Key × D) := ps.map fun p => (.inr p.1, .int p.2)
theorem seen_val {ps : List (Str × Int)} {x : Str} (h : x ∉ ps.map (·.1)) : valD (seenP ps) (.inr x) = none := by
  unfold valD seenP
  rw [Option.map_eq_none_iff, List.find?_eq_none]
  intro q hq
  obtain ⟨p, hp, e⟩ := List.mem_map.mp hq
  subst e
  simp only [decide_eq_true_eq, Sum.inr.injEq]
  exact fun z => h (List.mem_map.mpr ⟨p, hp, z⟩)
theorem seen_put {ps : List (Str × Int)} {p : Str × Int} (h : p.1 ∉ ps.map (·.1)) : putD (seenP ps) (.inr p.1) (.int p.2) = seenP (ps ++ [p]) := by
  unfold putD
  rw [if_neg, seenP, seenP, List.map_append]
  · rfl
  · intro z
    obtain ⟨q, hq, e⟩ := List.any_eq_true.mp z
    obtain ⟨r, hr, e2⟩ := List.mem_map.mp (show q ∈ ps.map _ from hq)
    subst e2
    simp only [decide_eq_true_eq, Sum.inr.injEq] at e
    exact h (List.mem_map.mpr ⟨r, hr, e⟩)
theorem take_get {α : Type} {l : List α} {k : Nat} {x : α} (h : l[k]? = some x) : l.take (k + 1) = l.take k ++ [x] := by
  rw [List.take_add_one, h]
  rfl
theorem nd_take {ps : List (Str × Int)} {k : Nat} {p : Str × Int} (nd : (ps.map (·.1)).Nodup) (h : ps[k]? = some p) : p.1 ∉ (ps.take k).map (·.1) := fun z => by
  rw [List.map_take] at z
  obtain ⟨j, hj, e⟩ := List.getElem_of_mem z
  rw [List.length_take] at hj
  rw [List.getElem_take] at e
  have hk : (ps.map (·.1))[k]? = some p.1 := by rw [List.getElem?_map, h] <;> rfl
  have hk2 : k < (ps.map (·.1)).length := (List.getElem?_eq_some_iff.mp hk).1
  have e2 : (ps.map (·.1))[k] = p.1 := (List.getElem?_eq_some_iff.mp hk).2
  exact List.pairwise_iff_getElem.mp nd j k (by omega) hk2 (by omega) (e.trans e2.symm)
theorem addAt_snoc (us l : List Int) (j : Int) : addAt us (l ++ [j]) = (addAt us l).set j.toNat ((addAt us l).getD j.toNat 0 + 1) := by
  unfold addAt
  rw [List.foldl_append]
  rfl
theorem addAt_length (us : List Int) : ∀ l : List Int, (addAt us l).length = us.length := fun l => by
  unfold addAt
  induction l generalizing us with
  | nil => rfl
  | cons j l ih =>
    rw [List.foldl_cons, ih, List.length_set]
theorem ixN_ok {n : Nat} {j : Int} (h0 : 0 ≤ j) (h1 : j < n) : ixN n j = some j.toNat := by
  unfold ixN
  rw [if_pos h0, if_pos h1]
theorem cut_to {xs : List D} {k : Int} (h : 0 ≤ k) : DL.cutD xs none (some k) = xs.take k.toNat := by
  unfold DL.cutD HT.sIx
  dsimp only
  rw [if_neg (by omega), Nat.sub_zero, List.drop_zero]
  by_cases e : k.toNat ≤ xs.length
  · rw [Nat.min_eq_left e]
  · rw [Nat.min_eq_right (by omega), List.take_of_length_le (Nat.le_refl _), List.take_of_length_le (by omega)]
theorem getD_map {us : List Int} {j : Nat} (h : j < us.length) : (us.map D.int)[j]? = some (.int (us.getD j 0)) := by
  rw [List.getElem?_map, List.getElem?_eq_getElem h, List.getD_eq_getElem?_getD, List.getElem?_eq_getElem h] <;> rfl
theorem fm_filter (l : List Int) (bare : List Int) : l.filterMap (fun j => if j ∈ bare then none else some (D.int j)) = (l.filter fun j => !decide (j ∈ bare)).map D.int := by
  induction l with
  | nil => rfl
  | cons j l ih =>
    by_cases hb : j ∈ bare
    · rw [List.filterMap_cons, if_pos hb, List.filter_cons, if_neg (by simp [hb])]
      exact ih
    · rw [List.filterMap_cons, if_neg hb, List.filter_cons, if_pos (by simp [hb]), List.map_cons, ← ih]
theorem whole_pos {ps : List (Str × Int)} (hg : Good ps) : 0 < wholeP ps := by
  obtain ⟨p, hp, h⟩ := hg.pos
  have lo := hg.lo
  unfold wholeP
  clear hg
  induction ps with
  | nil => cases hp
  | cons q r ih =>
    rw [List.map_cons, List.sum_cons]
    have nn : ∀ l : List (Str × Int), (∀ p ∈ l, 0 ≤ p.2) → 0 ≤ (l.map (·.2)).sum := fun l => by
      induction l with
      | nil => exact fun _ => Int.le_refl _
      | cons a l ih =>
        intro h
        rw [List.map_cons, List.sum_cons]
        have h1 := h a List.mem_cons_self
        have h2 := ih fun p hp => h p (List.mem_cons_of_mem _ hp)
        omega
    rcases List.mem_cons.mp hp with e | hp
    · subst e
      have := nn r fun p hp => lo p (List.mem_cons_of_mem _ hp)
      omega
    · have h1 := ih hp fun p hp => lo p (List.mem_cons_of_mem _ hp)
      have h2 := lo q List.mem_cons_self
      omega
theorem sum_le {l : List Int} {b : Int} (h : ∀ x ∈ l, x ≤ b) : l.sum ≤ l.length * b := by
  induction l with
  | nil => simp
  | cons a l ih =>
    have h1 := h a List.mem_cons_self
    have h2 := ih fun x hx => h x (List.mem_cons_of_mem _ hx)
    rw [List.sum_cons, List.length_cons, Int.natCast_succ, Int.add_mul, Int.one_mul]
    omega
theorem whole_le {ps : List (Str × Int)} (hg : Good ps) : wholeP ps ≤ 24000000 := by
  have h := sum_le (l := ps.map (·.2)) (b := 1000000) fun x hx => by
    obtain ⟨p, hp, e⟩ := List.mem_map.mp hx
    subst e
    exact hg.hi p hp
  rw [List.length_map] at h
  have := hg.n2
  unfold wholeP
  omega
/-- the exact parts, rounded down, and the rests -/
theorem units_sum (m : Int) (ps : List (Str × Int)) (W : Int) : (ps.map fun p => m * p.2 / W).sum * W + (ps.map fun p => m * p.2 % W).sum = m * (ps.map (·.2)).sum := by
  induction ps with
  | nil => simp
  | cons p r ih =>
    simp only [List.map_cons, List.sum_cons, Int.add_mul, Int.mul_add]
    have h := Int.emod_add_mul_ediv (m * p.2) W
    rw [Int.mul_comm W] at h
    omega
theorem rests_nn (m : Int) {W : Int} (hW : 0 < W) : ∀ ps : List (Str × Int), 0 ≤ (ps.map fun p => m * p.2 % W).sum
  | [] => Int.le_refl _
  | p :: r => by
    rw [List.map_cons, List.sum_cons]
    have h1 := Int.emod_nonneg (m * p.2) (Int.ne_of_gt hW)
    have h2 := rests_nn m hW r
    omega
theorem left_nn {m : Int} {ps : List (Str × Int)} (hg : Good ps) : 0 ≤ m - (unitsP m ps).sum := by
  have hW := whole_pos hg
  have h1 := units_sum m ps (wholeP ps)
  have h2 := rests_nn m hW ps
  have h3 : (unitsP m ps).sum * wholeP ps ≤ m * wholeP ps := by
    show (ps.map fun p => m * p.2 / wholeP ps).sum * wholeP ps ≤ m * (ps.map (·.2)).sum
    omega
  have h4 := Int.le_of_mul_le_mul_right h3 hW
  omega
theorem part_small {ps : List (Str × Int)} (hg : Good ps) {p : Str × Int} (h : p ∈ ps) (m : Int) : IntMulOk m p.2 := mulR (by have := hg.lo p h; omega) (by have := hg.hi p h; omega)
theorem whole_div {ps : List (Str × Int)} (hg : Good ps) (i : Int) : CDivW i (wholeP ps) := divW (b := 40) (whole_pos hg) (by have := whole_le hg; have := whole_pos hg; omega)
theorem row_at {ps : List (Str × Int)} {i : Nat} (h : i < ps.length) : ixD (.lst (ps.map rowD)) ((0 : Int) + (i : Nat)) = some (rowD (ps.getD i ("", 0))) := by
  show atI (ps.map rowD) _ = _
  unfold atI
  rw [ixN_ok (by omega) (by rw [List.length_map]; omega)]
  show (ps.map rowD)[((0 : Int) + (i : Nat)).toNat]? = _
  have e : ((0 : Int) + (i : Nat)).toNat = i := by omega
  rw [e, List.getElem?_map, List.getElem?_eq_getElem h, List.getD_eq_getElem?_getD, List.getElem?_eq_getElem h] <;> rfl
theorem bare_fm (ps : List (Str × Int)) : (List.range ps.length).filterMap (fun i => if (ps.getD i ("", 0)).2 = 0 then some (D.int ((0 : Int) + (i : Nat))) else none) = (bareP ps).map D.int := by
  unfold bareP
  generalize List.range ps.length = l
  induction l with
  | nil => rfl
  | cons i l ih =>
    by_cases h : (ps.getD i ("", 0)).2 = 0
    · rw [List.filterMap_cons, if_pos h, List.map_cons, List.filter_cons, if_pos (by simp only [Int.toNat_natCast]; exact decide_eq_true h), List.map_cons, ← ih, Int.zero_add]
    · rw [List.filterMap_cons, if_neg h, List.map_cons, List.filter_cons, if_neg (by simp only [Int.toNat_natCast]; simpa using h)]
      exact ih
/-! names -/
def L (j : Int) : Nat := letters.cps.toList.getD j.toNat 0
theorem L_mem {j : Int} (h1 : j < 26) : L j ∈ letters.cps.toList := by
  have key : ∀ a : Fin 26, letters.cps.toList.getD a.val 0 ∈ letters.cps.toList := by decide +kernel
  exact key ⟨j.toNat, by omega⟩
theorem L_inj {i j : Int} (a0 : 0 ≤ i) (a1 : i < 26) (b0 : 0 ≤ j) (b1 : j < 26) (e : L i = L j) : i = j := by
  have key : ∀ a b : Fin 26, letters.cps.toList.getD a.val 0 = letters.cps.toList.getD b.val 0 → a = b := by decide +kernel
  have := congrArg Fin.val (key ⟨i.toNat, by omega⟩ ⟨j.toNat, by omega⟩ e)
  have : i.toNat = j.toNat := this
  omega
theorem let_ix {j : Int} (h0 : 0 ≤ j) (h1 : j < 26) : ixD (.str letters) j = some (.str ⟨#[L j]⟩) := by
  have hl : letters.length ≤ sizeLine := by
    rw [sizeLine_eq]
    decide
  have h26 : letters.cps.toList.length = 26 := by decide +kernel
  show (if letters.length ≤ sizeLine then (atI letters.cps.toList j).map fun n => D.str ⟨#[n]⟩ else none) = _
  rw [if_pos hl]
  unfold atI L
  rw [ixN_ok h0 (by rw [h26]; omega)]
  show (letters.cps.toList[j.toNat]?).map _ = _
  have hj : j.toNat < letters.cps.toList.length := by
    rw [h26]
    omega
  rw [List.getD_eq_getElem?_getD, List.getElem?_eq_getElem hj]
  rfl
theorem joinL_nil : ∀ ls : List (List Nat), TL.joinL [] ls = ls.flatten
  | [] => rfl
  | [p] => by simp [TL.joinL]
  | p :: q :: r => by
    show p ++ ([] ++ TL.joinL [] (q :: r)) = _
    rw [joinL_nil (q :: r)]
    rfl
theorem stem_cps (cs : List Nat) : (Txt.join "" (cs.map fun c => (⟨#[c]⟩ : Str))).cps.toList = cs := by
  have h := TL.tl_join "" (cs.map fun c => (⟨#[c]⟩ : Str))
  rw [TL.join_eq]
  refine h.trans ?_
  show TL.joinL [] _ = _
  rw [joinL_nil, List.map_map]
  induction cs with
  | nil => rfl
  | cons c cs ih =>
    rw [List.map_cons, List.flatten_cons, ih (TL.tl_join "" _)]
    rfl
theorem app_cps (x y : Str) : (x ++ y).cps.toList = x.cps.toList ++ y.cps.toList := by
  show (x.cps ++ y.cps).toList = _
  simp
theorem cut_cps (x : Str) {k : Int} (h : 0 ≤ k) : (cutS x none (some k)).cps.toList = x.cps.toList.take k.toNat := by
  have hx : x.length = x.cps.toList.length := (Array.length_toList).symm
  unfold cutS HT.sIx
  dsimp only
  rw [if_neg (by omega), Nat.sub_zero, List.drop_zero, List.toList_toArray]
  by_cases e : k.toNat ≤ x.length
  · rw [Nat.min_eq_left e]
  · rw [Nat.min_eq_right (by omega), List.take_of_length_le (by rw [← hx]; exact Nat.le_refl _), List.take_of_length_le (by rw [← hx]; omega)]
theorem len_cps (x : Str) : x.length = x.cps.toList.length := (Array.length_toList).symm
def NmP (st : Int) (i : Nat) (x : Str) : Prop := ∃ pre : List Nat, x.cps.toList = pre ++ [L ((st + 7 * (i : Int)) % 26), L 0] ∧ pre.length ≤ 6 ∧ ∀ c ∈ pre, c ∈ letters.cps.toList
theorem NmP.ok {st : Int} {i : Nat} {x : Str} (h : NmP st i x) : nameOk x := by
  obtain ⟨pre, e, hl, hm⟩ := h
  have hx : x.length = x.cps.toList.length := (Array.length_toList).symm
  refine ⟨?_, ?_, fun c hc => ?_⟩
  · rw [hx, e, List.length_append]
    show 1 ≤ pre.length + 2
    omega
  · rw [hx, e, List.length_append]
    show pre.length + 2 ≤ 8
    omega
  · rw [e] at hc
    rcases List.mem_append.mp hc with hc | hc
    · exact hm c hc
    · rcases List.mem_cons.mp hc with hc | hc
      · rw [hc]
        exact L_mem (Int.emod_lt_of_pos _ (by decide))
      · rw [List.mem_singleton.mp hc]
        exact L_mem (by decide)
theorem names_nd {st : Int} {xs : List Str} (hl : xs.length ≤ 24) (h : ∀ (i : Nat) (x : Str), xs[i]? = some x → NmP st i x) : xs.Nodup := by
  refine List.pairwise_iff_getElem.mpr fun i j hi hj hij e => ?_
  obtain ⟨p1, e1, _, _⟩ := h i _ (List.getElem?_eq_getElem hi)
  obtain ⟨p2, e2, _, _⟩ := h j _ (List.getElem?_eq_getElem hj)
  rw [e, e2] at e1
  have e3 := (List.append_inj' e1 rfl).2
  injection e3 with e4 _
  have e5 := L_inj (Int.emod_nonneg _ (by decide)) (Int.emod_lt_of_pos _ (by decide)) (Int.emod_nonneg _ (by decide)) (Int.emod_lt_of_pos _ (by decide)) e4
  omega
theorem range_get {n k : Nat} {d : D} (h : (rangeD 0 n)[k]? = some d) : k < n ∧ d = .int (k : Nat) := by
  unfold rangeD at h
  rw [List.getElem?_map] at h
  by_cases hk : k < n
  · rw [List.getElem?_range hk] at h
    cases h
    exact ⟨hk, by simp⟩
  · rw [List.getElem?_eq_none (by rw [List.length_range]; omega)] at h
    cases h
theorem zip_rows : ∀ (xs : List Str) (vs : List Int), List.zipWith (fun u v => D.tup [u, v]) (xs.map D.str) (vs.map D.int) = (xs.zip vs).map rowD
  | [], _ => rfl
  | _ :: _, [] => rfl
  | x :: xs, v :: vs => by
    show D.tup [.str x, .int v] :: List.zipWith _ (xs.map D.str) (vs.map D.int) = rowD (x, v) :: (xs.zip vs).map rowD
    rw [zip_rows xs vs]
    rfl
theorem good_zip {xs : List Str} {vs : List Int} {j : Nat} {w : Int} (hl : vs.length = xs.length) (n1 : 1 ≤ xs.length) (n2 : xs.length ≤ 24) (nd : xs.Nodup) (ok : ∀ x ∈ xs, nameOk x) (hv : ∀ v ∈ vs, 0 ≤ v ∧ v ≤ 1000000) (hj : j < vs.length) (w0 : 0 < w) (w1 : w ≤ 1000000) : Good (xs.zip (vs.set j w)) := by
  have hls : (vs.set j w).length = xs.length := by rw [List.length_set, hl]
  have e1 : (xs.zip (vs.set j w)).map (·.1) = xs := List.map_fst_zip (by omega)
  have e2 : (xs.zip (vs.set j w)).map (·.2) = vs.set j w := List.map_snd_zip (by omega)
  have m2 : ∀ p ∈ xs.zip (vs.set j w), 0 ≤ p.2 ∧ p.2 ≤ 1000000 := fun p hp => by
    have : p.2 ∈ vs.set j w := by
      rw [← e2]
      exact List.mem_map_of_mem hp
    rcases List.mem_or_eq_of_mem_set this with h | h
    · exact hv _ h
    · omega
  refine ⟨fun p hp => ok _ ?_, by rw [e1]; exact nd, fun p hp => (m2 p hp).1, fun p hp => (m2 p hp).2, ?_, ?_, ?_⟩
  · rw [← e1]
    exact List.mem_map_of_mem hp
  · rw [List.length_zip, hls]
    omega
  · rw [List.length_zip, hls]
    omega
  · have : w ∈ (xs.zip (vs.set j w)).map (·.2) := by
      rw [e2]
      exact List.mem_set hj w
    obtain ⟨p, hp, e⟩ := List.mem_map.mp this
    exact ⟨p, hp, by rw [e]; exact w0⟩
theorem int_ix {vs : List Int} {j : Int} (h0 : 0 ≤ j) (h1 : j < vs.length) : ixD (.lst (vs.map .int)) j = some (.int (vs.getD j.toNat 0)) := by
  show atI (vs.map D.int) j = _
  unfold atI
  rw [ixN_ok h0 (by rw [List.length_map]; exact h1)]
  exact getD_map (by omega)
/-! the law's own reckoning is the same -/
theorem leBy_total (rs : List Int) : PySem.W.TotalLe (DK.leBy rs) := by
  constructor
  · intro a b c h1 h2
    unfold DK.leBy at *
    rw [decide_eq_true_iff] at *
    omega
  · intro a b
    unfold DK.leBy
    rw [decide_eq_true_iff, decide_eq_true_iff]
    omega
theorem sort_filter (rs l : List Int) (p : Int → Bool) : (l.mergeSort (DK.leBy rs)).filter p = (l.filter p).mergeSort (DK.leBy rs) := by
  refine PySem.W.sort_unique (leBy_total rs) ((PySem.W.sort_pairwise (leBy_total rs) l).filter p) fun c => ?_
  rw [List.filter_filter, List.filter_filter]
  have h := congrArg (List.filter p) (PySem.W.sort_stable (leBy_total rs) l c)
  rw [List.filter_filter, List.filter_filter] at h
  simp only [Bool.and_comm] at h ⊢
  exact h
def placesP (ps : List (Str × Int)) : List Int := ((List.range ps.length).map fun (j : Nat) => (j : Int)).filter fun j => decide (0 < (ps.getD j.toNat ("", 0)).2)
def placesZ (z : Str) (m : Int) (ps : List (Str × Int)) : List Int := if z = "first" then placesP ps else if z = "last" then (placesP ps).reverse else (placesP ps).mergeSort (DK.leBy (restsP m ps))
theorem rests_length (m : Int) (ps : List (Str × Int)) : (restsP m ps).length = ps.length := by
  unfold restsP
  rw [List.length_map]
theorem units_length (m : Int) (ps : List (Str × Int)) : (unitsP m ps).length = ps.length := by
  unfold unitsP
  rw [List.length_map]
theorem places_eq {ps : List (Str × Int)} (hg : Good ps) (m : Int) : placesP ps = (ordF (restsP m ps)).filter fun j => !decide (j ∈ bareP ps) := by
  unfold placesP ordF
  rw [rests_length]
  refine List.filter_congr fun j hj => ?_
  obtain ⟨i, hi, e⟩ := List.mem_map.mp hj
  have hi := List.mem_range.mp hi
  have hp : ps.getD j.toNat ("", 0) ∈ ps := by
    have : j.toNat < ps.length := by omega
    rw [List.getD_eq_getElem?_getD, List.getElem?_eq_getElem this]
    exact List.getElem_mem _
  have lo := hg.lo _ hp
  have hb : j ∈ bareP ps ↔ (ps.getD j.toNat ("", 0)).2 = 0 := by
    unfold bareP
    rw [List.mem_filter]
    exact ⟨fun h => of_decide_eq_true h.2, fun h => ⟨hj, decide_eq_true h⟩⟩
  by_cases h : (ps.getD j.toNat ("", 0)).2 = 0
  · rw [decide_eq_true (hb.mpr h), decide_eq_false (by omega)]
    rfl
  · rw [decide_eq_false (fun z => h (hb.mp z)), decide_eq_true (by omega)]
    rfl
theorem placesZ_eq {ps : List (Str × Int)} (hg : Good ps) (m : Int) (z : Str) : placesZ z m ps = (ord z (restsP m ps)).filter fun j => !decide (j ∈ bareP ps) := by
  unfold placesZ ord
  rw [places_eq hg m]
  split
  · rfl
  · split
    · rw [List.filter_reverse]
    · rw [sort_filter]
theorem partP_eq {ps : List (Str × Int)} (hg : Good ps) (m : Int) (z : Str) : partP m ps z = addAt (unitsP m ps) ((placesZ z m ps).take (m - (unitsP m ps).sum).toNat) := by
  unfold partP oddP
  rw [placesZ_eq hg]
theorem map_getD {us : List Int} {n : Nat} (h : us.length = n) : ((List.range n).map fun i => D.int (us.getD i 0)) = us.map .int := by
  refine List.ext_getElem? fun i => ?_
  rw [List.getElem?_map, List.getElem?_map]
  by_cases hi : i < n
  · rw [List.getElem?_range hi, List.getElem?_eq_getElem (by omega)]
    show some (D.int (us.getD i 0)) = some (D.int us[i])
    rw [List.getD_eq_getElem?_getD, List.getElem?_eq_getElem (by omega)]
    rfl
  · rw [List.getElem?_eq_none (by rw [List.length_range]; omega), List.getElem?_eq_none (by omega)] <;> rfl
theorem units_get (m : Int) {ps : List (Str × Int)} {j : Nat} (h : j < ps.length) : (unitsP m ps).getD j 0 = m * (ps.getD j ("", 0)).2 / wholeP ps := by
  unfold unitsP
  rw [List.getD_eq_getElem?_getD, List.getElem?_map, List.getD_eq_getElem?_getD, List.getElem?_eq_getElem h] <;> rfl
theorem rests_get (m : Int) {ps : List (Str × Int)} {j : Nat} (h : j < ps.length) : (restsP m ps).getD j 0 = m * (ps.getD j ("", 0)).2 % wholeP ps := by
  unfold restsP
  rw [List.getD_eq_getElem?_getD, List.getElem?_map, List.getD_eq_getElem?_getD, List.getElem?_eq_getElem h] <;> rfl
theorem places_fm (ps : List (Str × Int)) : (List.range ps.length).filterMap (fun i => if 0 < (ps.getD i ("", 0)).2 then some (D.int ((0 : Int) + (i : Nat))) else none) = (placesP ps).map D.int := by
  unfold placesP
  generalize List.range ps.length = l
  induction l with
  | nil => rfl
  | cons i l ih =>
    by_cases h : 0 < (ps.getD i ("", 0)).2
    · rw [List.filterMap_cons, if_pos h, List.map_cons, List.filter_cons, if_pos (by simp only [Int.toNat_natCast]; exact decide_eq_true h), List.map_cons, ← ih, Int.zero_add]
    · rw [List.filterMap_cons, if_neg h, List.map_cons, List.filter_cons, if_neg (by simp only [Int.toNat_natCast]; simpa using h)]
      exact ih
theorem placesP_mem {ps : List (Str × Int)} {j : Int} (h : j ∈ placesP ps) : 0 ≤ j ∧ j < ps.length := by
  unfold placesP at h
  obtain ⟨i, hi, e⟩ := List.mem_map.mp (List.mem_filter.mp h).1
  have := List.mem_range.mp hi
  omega
theorem placesZ_mem {z : Str} {m : Int} {ps : List (Str × Int)} {j : Int} (h : j ∈ placesZ z m ps) : 0 ≤ j ∧ j < ps.length := by
  unfold placesZ at h
  split at h
  · exact placesP_mem h
  · split at h
    · exact placesP_mem (List.mem_reverse.mp h)
    · exact placesP_mem (List.mem_mergeSort.mp h)
/-! what is told, compared -/
def dueQ (m : Int) (ps : List (Str × Int)) (z : Str) : List (Str × Int) := (ps.map (·.1)).zip (partP m ps z)
theorem dueP_eq (m : Int) (ps : List (Str × Int)) (z : Str) : dueP m ps z = (dueQ m ps z).map rowD := by
  unfold dueP dueQ
  rw [← zip_rows, List.map_map]
  rfl
def pyRows (qs : List (Str × Int)) : List PyData := qs.map fun p => .tuple [.str p.1, .int p.2]
theorem rows_py : ∀ qs : List (Str × Int), toPys (qs.map rowD) = some (pyRows qs)
  | [] => rfl
  | p :: qs => by
    show (match toPy (rowD p), toPys (qs.map rowD) with
      | some p, some ps => some (p :: ps)
      | _, _ => none) = _
    rw [rows_py qs]
    rfl
theorem lst_py (qs : List (Str × Int)) : toPy (.lst (qs.map rowD)) = some (.list (pyRows qs)) := by
  show (toPys (qs.map rowD)).map PyData.list = _
  rw [rows_py]
  rfl
theorem depth_rows : ∀ qs : List (Str × Int), PyData.depthAll (pyRows qs) ≤ 1
  | [] => Nat.zero_le _
  | p :: qs => by
    show max (PyData.depth (.tuple [.str p.1, .int p.2])) (PyData.depthAll (pyRows qs)) ≤ 1
    have h1 : PyData.depth (.tuple [.str p.1, .int p.2]) = 1 := rfl
    have h2 := depth_rows qs
    rw [h1]
    exact Nat.max_le.mpr ⟨Nat.le_refl _, h2⟩
theorem letters_small : ∀ c ∈ letters.cps.toList, c < 128 := by decide +kernel
theorem strOk_name {x : Str} (h : nameOk x) : PyData.strOk x = true := by
  have hs := letters_small
  obtain ⟨_, _, h⟩ := h
  unfold PyData.strOk
  rw [← Array.all_toList, List.all_eq_true]
  intro c hc
  have := hs c (h c hc)
  exact decide_eq_true (by omega)
theorem can_rows : ∀ qs : List (Str × Int), (∀ p ∈ qs, nameOk p.1) → PyData.canLayAll0 (pyRows qs) = true
  | [], _ => rfl
  | p :: qs, h => by
    have h1 := h p List.mem_cons_self
    have h2 := can_rows qs fun q hq => h q (List.mem_cons_of_mem _ hq)
    have h3 := strOk_name h1
    show (PyData.canLay0 (.tuple [.str p.1, .int p.2]) && PyData.canLayAll0 (pyRows qs)) = true
    rw [h2]
    show ((PyData.strOk p.1 && (true && true)) && true) = true
    rw [h3]
    rfl
/-! the sum -/
theorem sum_set {us : List Int} {j : Nat} (h : j < us.length) (v : Int) : (us.set j v).sum = us.sum - us.getD j 0 + v := by
  induction us generalizing j with
  | nil => exact absurd h (Nat.not_lt_zero _)
  | cons a us ih =>
    cases j with
    | zero =>
      show v + us.sum = a + us.sum - a + v
      omega
    | succ j =>
      have := ih (j := j) (Nat.lt_of_succ_lt_succ h)
      show a + (us.set j v).sum = a + us.sum - us.getD j 0 + v
      rw [this]
      omega
theorem addAt_sum (us : List Int) : ∀ l : List Int, (∀ j ∈ l, j.toNat < us.length) → (addAt us l).sum = us.sum + l.length := fun l => by
  induction l generalizing us with
  | nil =>
    intro _
    show us.sum = us.sum + 0
    omega
  | cons j l ih =>
    intro h
    have hj := h j List.mem_cons_self
    show (addAt (us.set j.toNat (us.getD j.toNat 0 + 1)) l).sum = _
    rw [ih _ fun k hk => by rw [List.length_set]; exact h k (List.mem_cons_of_mem _ hk), sum_set hj, List.length_cons]
    omega
theorem rests_le (m : Int) {W : Int} (hW : 0 < W) : ∀ ps : List (Str × Int), (∀ p ∈ ps, 0 ≤ p.2) → (ps.map fun p => m * p.2 % W).sum ≤ (ps.countP fun p => decide (0 < p.2)) * (W - 1)
  | [], _ => by simp
  | p :: r, h => by
    have ih := rests_le m hW r fun q hq => h q (List.mem_cons_of_mem _ hq)
    have h0 := h p List.mem_cons_self
    rw [List.map_cons, List.sum_cons, List.countP_cons]
    by_cases hp : 0 < p.2
    · have h1 := Int.emod_lt_of_pos (m * p.2) hW
      rw [if_pos (decide_eq_true hp), Int.natCast_add, Int.add_mul]
      show _ ≤ _ + ((1 : Nat) : Int) * (W - 1)
      omega
    · have e : p.2 = 0 := by omega
      rw [if_neg (by simp [hp]), e, Int.mul_zero, Int.zero_emod]
      simpa using ih
theorem places_count (ps : List (Str × Int)) : (placesP ps).length = ps.countP fun p => decide (0 < p.2) := by
  have e : ps = (List.range ps.length).map fun i => ps.getD i ("", 0) := by
    refine List.ext_getElem? fun i => ?_
    rw [List.getElem?_map]
    by_cases hi : i < ps.length
    · rw [List.getElem?_range hi, List.getElem?_eq_getElem hi]
      show some _ = some (ps.getD i ("", 0))
      rw [List.getD_eq_getElem?_getD, List.getElem?_eq_getElem hi]
      rfl
    · rw [List.getElem?_eq_none (by omega), List.getElem?_eq_none (by rw [List.length_range]; omega)]
      rfl
  have e2 : ps.countP (fun p => decide (0 < p.2)) = ((List.range ps.length).map fun i => ps.getD i ("", 0)).countP fun p => decide (0 < p.2) := by rw [← e]
  rw [e2]
  unfold placesP
  rw [← List.countP_eq_length_filter, List.countP_map, List.countP_map]
  rfl
theorem placesZ_length (z : Str) (m : Int) (ps : List (Str × Int)) : (placesZ z m ps).length = (placesP ps).length := by
  unfold placesZ
  split
  · rfl
  · split
    · exact List.length_reverse
    · exact List.length_mergeSort _
theorem left_le {m : Int} {ps : List (Str × Int)} (hg : Good ps) : m - (unitsP m ps).sum ≤ (placesP ps).length := by
  have hW := whole_pos hg
  have h1 := units_sum m ps (wholeP ps)
  have h2 := rests_le m hW ps hg.lo
  rw [← places_count] at h2
  have h3 : (m - (unitsP m ps).sum) * wholeP ps ≤ (placesP ps).length * (wholeP ps - 1) := by
    rw [Int.sub_mul]
    show m * (ps.map (·.2)).sum - (ps.map fun p => m * p.2 / wholeP ps).sum * wholeP ps ≤ _
    omega
  have h4 : (m - (unitsP m ps).sum) * wholeP ps ≤ (placesP ps).length * wholeP ps := by
    rw [Int.mul_sub] at h3
    omega
  exact Int.le_of_mul_le_mul_right h4 hW
theorem part_sum {m : Int} {ps : List (Str × Int)} (hg : Good ps) (z : Str) : (partP m ps z).sum = m := by
  rw [partP_eq hg, addAt_sum]
  · have h1 := left_nn (m := m) hg
    have h2 := left_le (m := m) hg
    rw [List.length_take, placesZ_length, Nat.min_eq_left (by omega)]
    omega
  · intro j hj
    have := placesZ_mem (List.mem_of_mem_take hj)
    rw [units_length]
    omega
theorem part_length {m : Int} {ps : List (Str × Int)} (hg : Good ps) (z : Str) : (partP m ps z).length = ps.length := by
  rw [partP_eq hg, addAt_length, units_length]
theorem shaped_rows {qs : List (Str × Int)} (h : ∀ p ∈ qs, nameOk p.1) : SeqAt.shaped (.list (pyRows qs)) = true := by
  have h1 := can_rows qs h
  have h2 := depth_rows qs
  show (PyData.canLayAll0 (pyRows qs) && decide (PyData.depthAll (pyRows qs) + 1 ≤ 64)) = true
  rw [h1, decide_eq_true (by omega)]
  rfl
theorem eqv_rows {qs : List (Str × Int)} (h : ∀ p ∈ qs, nameOk p.1) : PyData.eqv (.list (pyRows qs)) (.list (pyRows qs)) = true := SeqAt.eqv_refl _ (can_rows qs h)
theorem due_ok {m : Int} {ps : List (Str × Int)} (hg : Good ps) (z : Str) : ∀ p ∈ dueQ m ps z, nameOk p.1 := fun p hp => by
  obtain ⟨h1, _⟩ := List.of_mem_zip (show (p.1, p.2) ∈ (ps.map (·.1)).zip (partP m ps z) from hp)
  obtain ⟨q, hq, e⟩ := List.mem_map.mp h1
  rw [← e]
  exact hg.nm q hq
theorem due_snd {m : Int} {ps : List (Str × Int)} (hg : Good ps) (z : Str) : (dueQ m ps z).map (·.2) = partP m ps z := List.map_snd_zip (by rw [part_length hg, List.length_map]; exact Nat.le_refl _)
theorem due_length {m : Int} {ps : List (Str × Int)} (hg : Good ps) (z : Str) : (dueQ m ps z).length = ps.length := by
  unfold dueQ
  rw [List.length_zip, List.length_map, part_length hg, Nat.min_self]
theorem due_get {m : Int} {ps : List (Str × Int)} (hg : Good ps) (z : Str) : ((List.range ps.length).map fun i => D.tup [.str (ps.getD i ("", 0)).1, .int ((partP m ps z).getD i 0)]) = (dueQ m ps z).map rowD := by
  have hl := part_length (m := m) hg z
  refine List.ext_getElem? fun i => ?_
  rw [List.getElem?_map, List.getElem?_map]
  by_cases hi : i < ps.length
  · have e1 : (dueQ m ps z)[i]? = some (ps[i].1, (partP m ps z)[i]'(by omega)) := by
      unfold dueQ
      rw [List.getElem?_zip_eq_some]
      exact ⟨by rw [List.getElem?_map, List.getElem?_eq_getElem hi] <;> rfl, List.getElem?_eq_getElem (by omega)⟩
    rw [List.getElem?_range hi, e1]
    show some (D.tup [.str (ps.getD i ("", 0)).1, .int ((partP m ps z).getD i 0)]) = some (D.tup [.str ps[i].1, .int ((partP m ps z)[i]'(by omega))])
    rw [List.getD_eq_getElem?_getD, List.getElem?_eq_getElem hi, List.getD_eq_getElem?_getD, List.getElem?_eq_getElem (by omega)]
    rfl
  · rw [List.getElem?_eq_none (by rw [List.length_range]; omega), List.getElem?_eq_none (by rw [due_length hg]; omega)]
    rfl
/-! promises -/
def T_is_whole : FT := fun args Q => ∃ d b1 b2, args = [.dat d] ∧ isD .int d = some b1 ∧ isD .bool d = some b2 ∧ Q (.dat (.bl (b1 && !b2))) [.no]
def T_is_name : FT := fun args Q => ∃ x : Str, args = [.dat (.str x)] ∧ x.length ≤ sizeLine ∧ Q (.dat (.bl (decide (nameOk x)))) [.no]
def T_is_from : FT := fun args Q => ∃ i l h : Int, args = [.dat (.int i), .dat (.int l), .dat (.int h)] ∧ Q (.dat (.bl (decide (l ≤ i ∧ i ≤ h)))) [.no, .no, .no]
def T_is_pair : FT := fun args Q => ∃ (x : Str) (i l h : Int), args = [.dat (rowD (x, i)), .dat (.int l), .dat (.int h)] ∧ x.length ≤ sizeLine ∧ Q (.dat (.bl (decide (nameOk x ∧ l ≤ i ∧ i ≤ h)))) [.no, .no, .no]
def T_check_pairs : FT := fun args Q => ∃ ps, args = [.dat (shD ps), .dat (.int 24), .dat (.int 0), .dat (.int 1000000)] ∧ Good ps ∧ Q (.dat .non) [.no, .no, .no, .no]
def T_order (z : Str) : FT := fun args Q => ∃ rs : List Int, args = [.dat (.lst (rs.map .int))] ∧ rs.length ≤ 2 ^ 20 ∧ Q (.own ((ord z rs).map .int)) [.no]
def T_from_first : FT := T_order "first"
def T_from_last : FT := T_order "last"
def T_from_greatest : FT := T_order "greatest"
def T_want_turn : FT := fun args Q => ∃ z ∈ turns, args = [.dat (.str z)] ∧ Q (.dat .non) [.no]
def T_with_odd : FT := fun args Q => ∃ (us rs : List Int) (left : Int) (z : Str) (bare : List Int), args = [.dat (.lst (us.map .int)), .dat (.lst (rs.map .int)), .dat (.int left), .dat (.str z), .dat (.lst (bare.map .int))] ∧ z ∈ turns ∧ 0 ≤ left ∧ us.length = rs.length ∧ us.length ≤ 2 ^ 20 ∧ Q (.own ((oddP us rs left z bare).map .int)) [.no, .no, .no, .no, .no]
def T_parted : FT := fun args Q => ∃ (m : Int) (ps : List (Str × Int)) (z : Str), args = [.dat (.int m), .dat (shD ps), .dat (.str z)] ∧ Good ps ∧ 0 ≤ m ∧ m < 2 ^ 160 ∧ z ∈ turns ∧ Q (.own (dueP m ps z)) [.no, .no, .no]
def T__law_cell_at : FT := fun args Q => ∃ (ns : List Int) (k : Nat), args = [.dat (.scr ns), .dat (.int k)] ∧ Q (.dat (.int (ns.getD k 0))) [.no, .no]
def T__law_well : FT := fun args Q => ∃ i : Int, args = [.dat (.int i)] ∧ ∀ x y z : Int, Q (.own [.int x, .int y, .int z]) [.no]
def well : Sl → Prop := fun s => ∃ x y z : Int, s = .ml [.int x, .int y, .int z]
def T__law_draw : FT := fun args Q => ∃ (s : Sl) (n : Int), args = [s, .dat (.int n)] ∧ well s ∧ 0 < n ∧ n < 2 ^ 60 ∧ ∀ (v : Int) (s' : Sl), 0 ≤ v → v < n → well s' → Q (.dat (.int v)) [s', .no]
def T__law_names : FT := fun args Q => ∃ (s : Sl) (n : Nat), args = [s, .dat (.int n)] ∧ well s ∧ 1 ≤ n ∧ n ≤ 24 ∧ ∀ (s' : Sl) (xs : List Str), well s' → xs.length = n → xs.Nodup → (∀ x ∈ xs, nameOk x) → Q (.own (xs.map .str)) [s', .no]
def T__law_shares : FT := fun args Q => ∃ s : Sl, args = [s] ∧ well s ∧ ∀ (s' : Sl) (ps : List (Str × Int)), well s' → Good ps → Q (.own (ps.map rowD)) [s']
def T__law_units : FT := fun args Q => ∃ (m : Int) (ps : List (Str × Int)) (z : Str), args = [.dat (.int m), .dat (shD ps), .dat (.str z)] ∧ Good ps ∧ 0 ≤ m ∧ m < 2 ^ 160 ∧ z ∈ turns ∧ Q (.own ((partP m ps z).map .int)) [.no, .no, .no]
def T__law_weight : FT := fun args Q => ∃ s : Sl, args = [s] ∧ well s ∧ ∀ (v : Int) (s' : Sl), 0 ≤ v → v < 2 ^ 160 → well s' → Q (.dat (.int v)) [s']
def T__law_right : FT := fun args Q => ∃ (m : Int) (ps : List (Str × Int)) (z : Str) (k : Int), args = [.dat (shD ps), .dat (.int m), .dat (.str z), .dat (.int k)] ∧ Good ps ∧ 0 ≤ m ∧ m < 2 ^ 160 ∧ z ∈ turns ∧ Q (.dat (.bl true)) [.no, .no, .no, .no]
def T_law : FT := fun args Q => ∃ ns : List Int, args = [.dat (.scr ns)] ∧ ns.length ≤ 63 ∧ Q (.dat (.bl true)) [.no]
section
variable {P : Program} {w : World} {K : PySem.W.Frag} {mg : Str → Option Value} {base : Heap}
abbrev s_is_whole : Stmt := topS 6
theorem sc_is_whole : FnScope ["thing"] ["thing"] (defScope s_is_whole) := ⟨rfl, rfl, rfl, by decide +kernel, rfl, by decide +kernel, by decide +kernel⟩
theorem ok_is_whole {f : Addr} {fd : FuncData} (F : FunD K "is_whole" "is_whole" (defArgs s_is_whole) (defBody s_is_whole) (defScope s_is_whole) [] [] f fd) (m_isinstance : mg "isinstance" = none) (m_bool : mg "bool" = none) (m_int : mg "int" = none) : FnOk P w K mg base CX0 1 f fd ["thing"] (FnSp K [] T_is_whole) := by
  refine F.okD (bs := []) sc_is_whole (fun args QD h => ?_) (fun cdv A outer s H E hr => (dss_one (ds_ret (de_and (de_blt call_isi (ok_is .int) (by rfl) m_isinstance (by decide +kernel) (da_cons (de_var (pv 0)) (da_cons (de_cls (n := "int") m_int (by decide +kernel)) da_nil))) (pe_one (de_not (de_blt call_isi (ok_is .bool) (by rfl) m_isinstance (by decide +kernel) (da_cons (de_var (pv 0)) (da_cons (de_cls (n := "bool") m_bool (by decide +kernel)) da_nil))))))))) (fun args QD h => ?_)
  · obtain ⟨d, b1, b2, rfl, h1, h2, hq⟩ := h
    rfl
  · obtain ⟨d, b1, b2, rfl, h1, h2, hq⟩ := h
    refine ⟨⟨_, rfl⟩, _, rfl, _, _, rfl, h1, _, rfl, ?_⟩
    cases b1 with
    | true => exact iteT ⟨⟨_, rfl⟩, _, rfl, _, _, rfl, h2, _, rfl, _, _, rfl, hq⟩
    | false => exact iteF ⟨_, _, rfl, hq⟩

abbrev s_is_name : Stmt := topS 9
theorem sc_is_name : FnScope ["thing", "sign"] ["thing"] (defScope s_is_name) := ⟨rfl, rfl, rfl, by decide +kernel, rfl, by decide +kernel, by decide +kernel⟩
theorem ok_is_name {f : Addr} {fd : FuncData} (F : FunD K "is_name" "is_name" (defArgs s_is_name) (defBody s_is_name) (defScope s_is_name) [] [] f fd) (m_all : mg "all" = none) (c_LETTERS : ∃ t, mg "LETTERS" = some (.str "abcdefghijklmnopqrstuvwxyz" t)) (m_len : mg "len" = none) (m_isinstance : mg "isinstance" = none) (m_str : mg "str" = none) : FnOk P w K mg base CX0 1 f fd ["thing"] (FnSp K [] T_is_name) := by
  refine F.okD (bs := []) sc_is_name (fun args QD h => ?_) (fun cdv A outer s H E hr => (dss_cons (ds_if (PW.pt (dt_or (dt_not (dt_val (de_blt call_isi (ok_is .str) (by rfl) m_isinstance (by decide +kernel) (da_cons (de_var (pv 0)) (da_cons (de_cls (n := "str") m_str (by decide +kernel)) da_nil))))) (pw_or1 (dt_not (dt_chain op_le ok_B0 op_le ok_B0 de_int (de_blt call_len ok_len (by rfl) m_len (by decide +kernel) (da_cons (de_var (pv 0)) da_nil)) de_int))))) (dss_one (ds_ret de_bl)) dss_nil)
      (dss_one (ds_ret (de_blt (cr_all rfl) ok_all (by rfl) m_all (by decide +kernel) (da_cons (de_own (de_lc (own := [("sign", 1)]) rfl sc_is_name.nd (di_str (de_var (pv 0))) (blkOk_by (N := ["thing", "sign"]) (sc := defScope s_is_name) (by decide +kernel)) (fun _ _ _ _ _ => (dg_name (pg_name (i := 1) sc_is_name.nd rfl (Or.inl rfl)))) (fun _ _ _ _ _ => dts_nil) (fun _ _ _ _ _ => (de_cmp op_in_sign ok_inSign (de_var (pv 1)) (de_gstr c_LETTERS) (by rfl))))) da_nil)))))) (fun args QD h => ?_)
  · obtain ⟨x, rfl, hl, hq⟩ := h
    rfl
  · obtain ⟨x, rfl, hl, hq⟩ := h
    refine ⟨⟨_, rfl⟩, _, rfl, _, _, rfl, rfl, _, rfl, iteF ?_⟩
    have hL : lenD (.str x) = some x.length := if_pos hl
    have no : decide (nameOk x) = false → QD (.dat (.bl false)) [.no] := fun e => e ▸ hq
    refine ⟨⟨_, rfl⟩, _, rfl, _, _, rfl, hL, _, _, rfl, rfl, _, _, rfl, rfl, _, rfl, ?_⟩
    refine ite2 (fun h1 => ?_) (fun h1 => ?_)
    · have h1 : (1 : Int) ≤ (x.length : Int) := of_decide_eq_true h1
      refine ⟨_, _, rfl, rfl, _, _, rfl, rfl, _, rfl, ?_⟩
      by_cases h2 : ((x.length : Nat) : Int) ≤ 8
      · have e2 : decide (((x.length : Nat) : Int) ≤ 8) = true := decide_eq_true h2
        rw [e2]
        refine iteF ⟨⟨_, rfl⟩, x, rfl, lc_map (xs := x.cps.toList) (emb := fun n => D.str ⟨#[n]⟩) (fun n => .bl (decide (n ∈ letters.cps.toList))) (by rw [Array.length_toList]; exact hl) rfl (fun i n _ R hR => ⟨⟨_, rfl⟩, _, _, rfl, rfl, _, _, rfl, rfl, _, _, rfl, hR⟩) ?_⟩
        refine ⟨_, rfl, x.cps.toList.map fun n => decide (n ∈ letters.cps.toList), by rw [List.map_map]; rfl, _, _, rfl, ?_⟩
        have e : decide (nameOk x) = (x.cps.toList.map fun n => decide (n ∈ letters.cps.toList)).all id := by
          have h3 : 1 ≤ x.length := by omega
          have h4 : x.length ≤ 8 := by omega
          rw [Bool.eq_iff_iff, decide_eq_true_iff, List.all_eq_true]
          unfold nameOk
          simp [h3, h4]
        rw [e] at hq
        exact hq
      · have e2 : decide (((x.length : Nat) : Int) ≤ 8) = false := decide_eq_false h2
        rw [e2]
        exact iteT ⟨_, _, rfl, no (decide_eq_false fun z => h2 (by have := z.2.1; omega))⟩
    · exact ⟨false, rfl, iteT ⟨_, _, rfl, no (decide_eq_false fun z => h1 (decide_eq_true (by have := z.1; omega)))⟩⟩

abbrev s_is_from : Stmt := topS 10
theorem sc_is_from : FnScope ["thing", "low", "high"] ["thing", "low", "high"] (defScope s_is_from) := ⟨rfl, rfl, rfl, by decide +kernel, rfl, by decide +kernel, by decide +kernel⟩
theorem ok_is_from {f : Addr} {fd : FuncData} (F : FunD K "is_from" "is_from" (defArgs s_is_from) (defBody s_is_from) (defScope s_is_from) [] [] f fd) (d_is_whole : Dn P w K mg base 1 "is_whole" ["thing"] [] T_is_whole []) : FnOk P w K mg base CX0 2 f fd ["thing", "low", "high"] (FnSp K [] T_is_from) := by
  refine F.okD (bs := []) sc_is_from (fun args QD h => ?_) (fun cdv A outer s H E hr => (dss_one (ds_ret (de_and (de_cal d_is_whole hr (da_cons (de_var (pv 0)) da_nil)) (pe_one (de_chain op_le ok_B0 op_le ok_B0 (de_var (pv 1)) (de_var (pv 0)) (de_var (pv 2)))))))) (fun args QD h => ?_)
  · obtain ⟨i, l, u, rfl, hq⟩ := h
    rfl
  · obtain ⟨i, l, u, rfl, hq⟩ := h
    refine ⟨⟨_, rfl⟩, _, _, rfl, _, true, false, rfl, rfl, rfl, true, rfl, iteT ?_⟩
    refine ⟨⟨_, rfl⟩, ⟨_, rfl⟩, _, _, rfl, rfl, _, _, rfl, rfl, _, rfl, ?_⟩
    refine ite2 (fun hc => ?_) (fun hc => ?_)
    · have hc := of_decide_eq_true hc
      have e : decide (i ≤ u) = decide (l ≤ i ∧ i ≤ u) := by simp [hc]
      rw [← e] at hq
      exact ⟨⟨_, rfl⟩, _, _, rfl, rfl, _, _, rfl, rfl, _, _, rfl, hq⟩
    · have hc : ¬ l ≤ i := fun z => hc (decide_eq_true z)
      have e : decide (l ≤ i ∧ i ≤ u) = false := by simp [hc]
      rw [e] at hq
      exact ⟨_, _, rfl, hq⟩

abbrev s_is_pair : Stmt := topS 14
theorem sc_is_pair : FnScope ["row", "low", "high"] ["row", "low", "high"] (defScope s_is_pair) := ⟨rfl, rfl, rfl, by decide +kernel, rfl, by decide +kernel, by decide +kernel⟩
theorem ok_is_pair {f : Addr} {fd : FuncData} (F : FunD K "is_pair" "is_pair" (defArgs s_is_pair) (defBody s_is_pair) (defScope s_is_pair) [] [] f fd) (d_is_from : Dn P w K mg base 2 "is_from" ["thing", "low", "high"] [] T_is_from []) (d_is_name : Dn P w K mg base 1 "is_name" ["thing"] [] T_is_name []) (m_len : mg "len" = none) (m_isinstance : mg "isinstance" = none) (m_tuple : mg "tuple" = none) : FnOk P w K mg base CX0 3 f fd ["row", "low", "high"] (FnSp K [] T_is_pair) := by
  refine F.okD (bs := []) sc_is_pair (fun args QD h => ?_) (fun cdv A outer s H E hr => (dss_one (ds_ret (de_and (de_blt call_isi (ok_is .tuple) (by rfl) m_isinstance (by decide +kernel) (da_cons (de_var (pv 0)) (da_cons (de_cls (n := "tuple") m_tuple (by decide +kernel)) da_nil))) (de_and (de_cmp op_eq ok_eq (de_blt call_len ok_len (by rfl) m_len (by decide +kernel) (da_cons (de_var (pv 0)) da_nil)) de_int (nomark _)) (de_and (de_cal d_is_name hr (da_cons (de_ix ix_seq ok_ix (de_var (pv 0)) de_int) da_nil)) (pe_one (de_cal d_is_from hr (da_cons (de_ix ix_seq ok_ix (de_var (pv 0)) de_int) (da_cons (de_var (pv 1)) (da_cons (de_var (pv 2)) da_nil))))))))))) (fun args QD h => ?_)
  · obtain ⟨x, i, l, u, rfl, hl, hq⟩ := h
    rfl
  · obtain ⟨x, i, l, u, rfl, hl, hq⟩ := h
    refine ⟨⟨_, rfl⟩, _, rfl, _, _, rfl, rfl, _, rfl, iteT ?_⟩
    refine ⟨⟨_, rfl⟩, _, rfl, _, _, rfl, rfl, _, _, rfl, rfl, true, rfl, _, rfl, iteT ?_⟩
    refine ⟨⟨_, rfl⟩, _, _, rfl, rfl, _, _, rfl, rfl, _, _, rfl, x, rfl, hl, _, rfl, ?_⟩
    by_cases hn : nameOk x
    · have e : decide (nameOk x) = true := decide_eq_true hn
      have e2 : decide (nameOk x ∧ l ≤ i ∧ i ≤ u) = decide (l ≤ i ∧ i ≤ u) := by simp [hn]
      rw [e2] at hq
      rw [e]
      exact iteT ⟨⟨_, rfl⟩, _, _, rfl, rfl, _, _, rfl, rfl, ⟨_, rfl⟩, ⟨_, rfl⟩, _, _, rfl, i, l, u, rfl, _, _, rfl, hq⟩
    · have e : decide (nameOk x) = false := decide_eq_false hn
      have e2 : decide (nameOk x ∧ l ≤ i ∧ i ≤ u) = false := by simp [hn]
      rw [e2] at hq
      rw [e]
      exact iteF ⟨_, _, rfl, hq⟩

abbrev s_check_pairs : Stmt := topS 15
theorem sc_check_pairs : FnScope ["rows", "many", "low", "high", "seen", "at", "row"] ["rows", "many", "low", "high"] (defScope s_check_pairs) := ⟨rfl, rfl, rfl, by decide +kernel, rfl, by decide +kernel, by decide +kernel⟩
theorem ok_check_pairs {f : Addr} {fd : FuncData} (F : FunD K "check_pairs" "check_pairs" (defArgs s_check_pairs) (defBody s_check_pairs) (defScope s_check_pairs) [] [] f fd) (m_max : mg "max" = none) (m_len : mg "len" = none) (m_enumerate : mg "enumerate" = none) (d_is_pair : Dn P w K mg base 3 "is_pair" ["row", "low", "high"] [] T_is_pair []) (m_isinstance : mg "isinstance" = none) (m_list : mg "list" = none) : FnOk P w K mg base CX0 4 f fd ["rows", "many", "low", "high"] (FnSp K [] T_check_pairs) := by
  refine F.okD (bs := []) sc_check_pairs (fun args QD h => ?_) (fun cdv A outer s H E hr => (dss_cons (ds_if (dt_not (dt_val (de_blt call_isi (ok_is .list) (by rfl) m_isinstance (by decide +kernel) (da_cons (de_var (pv 0)) (da_cons (de_cls (n := "list") m_list (by decide +kernel)) da_nil))))) dss_never dss_nil)
      (dss_cons (ds_newD (ps_set (i := 4) sc_check_pairs.nd rfl (Or.inl rfl) pe_dnewK))
      (dss_cons (ds_for PassesOwn.never rfl (di_enum (by rfl) m_enumerate (de_var (pv 0))) (dg_tup (n := 2) (own := [5, 6]) rfl (dgs_cons (dg_name (pg_name (i := 5) sc_check_pairs.nd rfl (Or.inl rfl))) (dgs_cons (dg_name (pg_name (i := 6) sc_check_pairs.nd rfl (Or.inl rfl))) dgs_nil)))
      (dss_cons (ds_if (PW.pt (dt_or (dt_not (dt_val (de_cal d_is_pair hr (da_cons (de_var (pv 6)) (da_cons (de_var (pv 2)) (da_cons (de_var (pv 3)) da_nil)))))) (pw_or1 (dt_din (hu_of hr) (de_ix ix_seq ok_ix (de_var (pv 6)) de_int) (de_var (pv 4)))))) dss_never dss_nil)
      (dss_one (ds_dput (hu_of hr) (pv 4) (de_ix ix_seq ok_ix (de_var (pv 6)) de_int) (de_ix ix_seq ok_ix (de_var (pv 6)) de_int)))))
      (dss_one (ds_if (PW.pt (dt_or (dt_not (dt_chain op_le ok_B0 op_le ok_B0 de_int (de_blt call_len ok_len (by rfl) m_len (by decide +kernel) (da_cons (de_var (pv 0)) da_nil)) (de_var (pv 1)))) (pw_or1 (dt_cmp op_eq ok_eq (de_maxV rfl m_max (de_var (pv 4))) de_int (nomark _))))) dss_never dss_nil)))))) (fun args QD h => ?_)
  · obtain ⟨ps, rfl, hg, hq⟩ := h
    rfl
  · obtain ⟨ps, rfl, hg, hq⟩ := h
    refine ⟨⟨_, rfl⟩, _, rfl, _, _, rfl, rfl, _, rfl, iteF ?_⟩
    refine ⟨by show 4 < 7; decide, ⟨_, rfl⟩, _, _, rfl, _, rfl, ?_⟩
    refine ⟨fun k E => ∃ s5 s6, E = [.dat (shD ps), .dat (.int 24), .dat (.int 0), .dat (.int 1000000), .md (seenP (ps.take k)), s5, s6], ⟨_, _, rfl⟩, fun k d E' hk ⟨s5, s6, hI⟩ => ?_, fun E' ⟨s5, s6, hI⟩ => ?_⟩
    · subst hI
      obtain ⟨e, he, ed⟩ := enumD_get hk
      rw [List.getElem?_map] at he
      obtain ⟨p, hp, ep⟩ := Option.map_eq_some_iff.mp he
      subst ep ed
      have pm := List.mem_of_getElem? hp
      have hn := hg.nm p pm
      have nin := nd_take hg.nd hp
      refine ⟨_, rfl, rfl, _, _, rfl, _, _, rfl, rfl, ⟨_, rfl⟩, ⟨_, rfl⟩, ⟨_, rfl⟩, _, _, rfl, p.1, p.2, 0, 1000000, rfl, ?_, _, rfl, ?_⟩
      · have := hn.2.1
        rw [sizeLine_eq]
        omega
      · have e : decide (nameOk p.1 ∧ 0 ≤ p.2 ∧ p.2 ≤ 1000000) = true := decide_eq_true ⟨hn, hg.lo p pm, hg.hi p pm⟩
        rw [e]
        refine iteF ⟨⟨_, rfl⟩, _, _, rfl, rfl, _, _, rfl, rfl, ⟨_, rfl⟩, .inr p.1, seenP (ps.take k), rfl, rfl, ?_⟩
        rw [seen_val nin]
        refine ⟨false, rfl, iteF ?_⟩
        refine ⟨⟨_, rfl⟩, _, _, rfl, rfl, _, _, rfl, rfl, _, _, rfl, ⟨_, rfl⟩, ⟨_, rfl⟩, _, _, rfl, rfl, _, _, rfl, rfl, .inr p.1, seenP (ps.take k), rfl, rfl, ?_, .dat (.int ((0 + k : Nat) : Int)), .dat (rowD p), ?_⟩
        · unfold seenP
          rw [List.length_map, List.length_take, sizeLine_eq]
          have := hg.n2
          omega
        · rw [take_get hp, ← seen_put nin]
          rfl
    · subst hI
      rw [enumD_length, List.length_map, List.take_length]
      have n1 := hg.n1
      have n2 := hg.n2
      have e1 : decide ((1 : Int) ≤ ((ps.map rowD).length : Nat)) = true := decide_eq_true (by rw [List.length_map]; omega)
      have e2 : decide ((((ps.map rowD).length : Nat) : Int) ≤ 24) = true := decide_eq_true (by rw [List.length_map]; omega)
      refine ⟨⟨_, rfl⟩, _, rfl, _, _, rfl, rfl, _, _, rfl, rfl, _, _, rfl, rfl, _, rfl, ?_⟩
      rw [e1]
      refine iteT ⟨⟨_, rfl⟩, _, _, rfl, rfl, _, _, rfl, rfl, _, rfl, ?_⟩
      rw [e2]
      refine iteF ⟨⟨_, rfl⟩, _, ps.map (·.2), rfl, ?_, ?_, fun m h1 h2 => ?_⟩
      · unfold seenP
        rw [List.map_map, List.map_map]
        rfl
      · intro z
        have := congrArg List.length z
        rw [List.length_map] at this
        have z2 : ([] : List Int).length = 0 := rfl
        omega
      · obtain ⟨p, hp, hpos⟩ := hg.pos
        have hm := h2 p.2 (List.mem_map_of_mem hp)
        have e3 : decide (m = 0) = false := decide_eq_false (by omega)
        refine ⟨_, _, rfl, rfl, _, rfl, _, rfl, ?_⟩
        rw [e3]
        exact iteF hq

abbrev s_from_first : Stmt := topS 16
theorem sc_from_first : FnScope ["rests"] ["rests"] (defScope s_from_first) := ⟨rfl, rfl, rfl, by decide +kernel, rfl, by decide +kernel, by decide +kernel⟩
theorem ok_from_first {f : Addr} {fd : FuncData} (F : FunD K "from_first" "from_first" (defArgs s_from_first) (defBody s_from_first) (defScope s_from_first) [] [] f fd) (m_list : mg "list" = none) (m_range : mg "range" = none) (m_len : mg "len" = none) : FnOk P w K mg base CX0 1 f fd ["rests"] (FnSp K [] T_from_first) := by
  refine F.okD (bs := []) sc_from_first (fun args QD h => ?_) (fun cdv A outer s H E hr => (dss_one (ds_retO (de_listRg rfl (by rfl) m_list (drg_1 (by rfl) m_range (de_blt call_len ok_len (by rfl) m_len (by decide +kernel) (da_cons (de_var (pv 0)) da_nil))))))) (fun args QD h => ?_)
  · obtain ⟨rs, rfl, hl, hq⟩ := h
    rfl
  · obtain ⟨rs, rfl, hl, hq⟩ := h
    refine ⟨⟨_, rfl⟩, _, rfl, _, _, rfl, rfl, _, rfl, RgOk.of_le (Int.le_refl _) ?_ (by decide) (Int.natCast_nonneg _), ?_⟩
    · rw [List.length_map]
      omega
    · rw [ord_first, ordF_D] at hq
      exact hq

abbrev s_from_last : Stmt := topS 17
theorem sc_from_last : FnScope ["rests"] ["rests"] (defScope s_from_last) := ⟨rfl, rfl, rfl, by decide +kernel, rfl, by decide +kernel, by decide +kernel⟩
theorem ok_from_last {f : Addr} {fd : FuncData} (F : FunD K "from_last" "from_last" (defArgs s_from_last) (defBody s_from_last) (defScope s_from_last) [] [] f fd) (m_list : mg "list" = none) (m_reversed : mg "reversed" = none) (m_range : mg "range" = none) (m_len : mg "len" = none) : FnOk P w K mg base CX0 1 f fd ["rests"] (FnSp K [] T_from_last) := by
  refine F.okD (bs := []) sc_from_last (fun args QD h => ?_) (fun cdv A outer s H E hr => (dss_one (ds_retO (de_listRv rfl (by rfl) m_list (by rfl) m_reversed (drg_1 (by rfl) m_range (de_blt call_len ok_len (by rfl) m_len (by decide +kernel) (da_cons (de_var (pv 0)) da_nil))))))) (fun args QD h => ?_)
  · obtain ⟨rs, rfl, hl, hq⟩ := h
    rfl
  · obtain ⟨rs, rfl, hl, hq⟩ := h
    refine ⟨⟨_, rfl⟩, _, rfl, _, _, rfl, rfl, _, rfl, RgOk.of_le (Int.le_refl _) ?_ (by decide) (Int.natCast_nonneg _), ?_⟩
    · rw [List.length_map]
      omega
    · rw [ord_last, List.map_reverse, ordF_D] at hq
      exact hq

abbrev s_from_greatest : Stmt := topS 18
theorem sc_from_greatest : FnScope ["rests"] ["rests"] (defScope s_from_greatest) := ⟨rfl, rfl, rfl, by decide +kernel, rfl, by decide +kernel, by decide +kernel⟩
theorem ok_from_greatest {f : Addr} {fd : FuncData} (F : FunD K "from_greatest" "from_greatest" (defArgs s_from_greatest) (defBody s_from_greatest) (defScope s_from_greatest) [] [] f fd) (L : LamFn K mg base "from_greatest" f) (m_sorted : mg "sorted" = none) (m_range : mg "range" = none) (m_len : mg "len" = none) : FnOk P w K mg base CX0 1 f fd ["rests"] (FnSp K [] T_from_greatest) := by
  refine F.okDL (bs := []) sc_from_greatest (fun args QD h => ?_) L.at_ (fun cdv A outer s H E hcv hr => (dss_one (ds_retO (de_sortR (i := 0) L rfl hcv rfl m_sorted m_range hr ⟨rfl, rfl, rfl, by decide +kernel, rfl, rfl, by decide, by decide, by decide⟩ rfl rfl rfl (de_blt call_len ok_len (by rfl) m_len (by decide +kernel) (da_cons (de_var (pv 0)) da_nil)))))) (fun args QD h => ?_)
  · obtain ⟨rs, rfl, hl, hq⟩ := h
    rfl
  · obtain ⟨rs, rfl, hl, hq⟩ := h
    refine ⟨⟨_, rfl⟩, _, rfl, _, _, rfl, rfl, _, rfl, ?_, _, rs, rfl, .inl rfl, fun j hj => ?_, ?_, ?_⟩
    · rw [List.length_map]
      omega
    · obtain ⟨i, hi, e⟩ := List.mem_map.mp hj
      have := List.mem_range.mp hi
      rw [List.length_map] at this
      omega
    · rw [List.length_map, List.length_range, List.length_map, sizeLine_eq]
      omega
    · rw [ord_great] at hq
      show QD (.own (List.map D.int ((List.map (fun (j : Nat) => (j : Int)) (List.range (List.map D.int rs).length)).mergeSort (DK.leBy rs)))) [.no]
      rw [List.length_map]
      exact hq

abbrev s_want_turn : Stmt := topS 20
theorem sc_want_turn : FnScope ["to"] ["to"] (defScope s_want_turn) := ⟨rfl, rfl, rfl, by decide +kernel, rfl, by decide +kernel, by decide +kernel⟩
theorem ok_want_turn {f : Addr} {fd : FuncData} (F : FunD K "want_turn" "want_turn" (defArgs s_want_turn) (defBody s_want_turn) (defScope s_want_turn) [] [] f fd) {pt_TURNS : Addr} {et_TURNS : Array DictEntry} {nt_TURNS : Nat} (t_TURNS : mg "TURNS" = some (.ref pt_TURNS)) (kd_TURNS : KDict K w pt_TURNS et_TURNS nt_TURNS) (ns_TURNS : ∀ z ∈ (["first", "last", "greatest"] : List Str), ∃ u, PySem.W.nsIn K pt_TURNS z = some (some u)) (m_isinstance : mg "isinstance" = none) (m_str : mg "str" = none) : FnOk P w K mg base CX0 1 f fd ["to"] (FnSp K [] T_want_turn) := by
  refine F.okD (bs := []) sc_want_turn (fun args QD h => ?_) (fun cdv A outer s H E hr => (dss_one (ds_if (PW.pt (dt_or (dt_not (dt_val (de_blt call_isi (ok_is .str) (by rfl) m_isinstance (by decide +kernel) (da_cons (de_var (pv 0)) (da_cons (de_cls (n := "str") m_str (by decide +kernel)) da_nil))))) (pw_or1 (dt_cmp (op_notIn_kd kd_TURNS) (ok_ninKd (K := K) (pa := pt_TURNS)) (de_var (pv 0)) (de_gref t_TURNS) (by rfl))))) dss_never dss_nil))) (fun args QD h => ?_)
  · obtain ⟨z, hz, rfl, hq⟩ := h
    rfl
  · obtain ⟨z, hz, rfl, hq⟩ := h
    refine ⟨⟨_, rfl⟩, _, rfl, _, _, rfl, rfl, _, rfl, iteF ?_⟩
    obtain ⟨u, hu⟩ := ns_TURNS z hz
    exact ⟨⟨_, rfl⟩, _, _, rfl, rfl, z, _, rfl, rfl, hu, _, rfl, iteF hq⟩

abbrev s_with_odd : Stmt := topS 21
theorem sc_with_odd : FnScope ["units", "rests", "left", "to", "bare", "found", "at", "place"] ["units", "rests", "left", "to", "bare"] (defScope s_with_odd) := ⟨rfl, rfl, rfl, by decide +kernel, rfl, by decide +kernel, by decide +kernel⟩
theorem ok_with_odd {f : Addr} {fd : FuncData} (F : FunD K "with_odd" "with_odd" (defArgs s_with_odd) (defBody s_with_odd) (defScope s_with_odd) [] [] f fd) {pt_TURNS : Addr} {et_TURNS : Array DictEntry} {nt_TURNS : Nat} (t_TURNS : mg "TURNS" = some (.ref pt_TURNS)) (kd_TURNS : KDict K w pt_TURNS et_TURNS nt_TURNS) (ns_TURNS : ∀ z ∈ (["first", "last", "greatest"] : List Str), ∃ u, PySem.W.nsIn K pt_TURNS z = some (some u)) (m_list : mg "list" = none) (tf_TURNS : ∀ z ∈ (["first", "last", "greatest"] : List Str), TabFn P w K mg base 1 pt_TURNS ["rests"] z (T_order z)) : FnOk P w K mg base CX0 2 f fd ["units", "rests", "left", "to", "bare"] (FnSp K [] T_with_odd) := by
  refine F.okD (bs := []) sc_with_odd (fun args QD h => ?_) (fun cdv A outer s H E hr => (dss_cons (ds_setO (ps_set (i := 5) sc_with_odd.nd rfl (Or.inl rfl) (de_listOf (by rfl) m_list (de_var (pv 0)))))
      (dss_cons (ds_for PassesOwn.never rfl (di_list (de_own (de_slL (de_own (de_lc (own := [("place", 7)]) rfl sc_with_odd.nd (di_list (de_disp t_TURNS tf_TURNS hr (de_var (pv 3)) (da_cons (de_var (pv 1)) da_nil))) (blkOk_by (N := ["units", "rests", "left", "to", "bare", "found", "at", "place"]) (sc := defScope s_with_odd) (by decide +kernel)) (fun _ _ _ _ _ => (dg_name (pg_name (i := 7) sc_with_odd.nd rfl (Or.inl rfl)))) (fun _ _ _ _ _ => (dts_one (dt_cmp op_notIn_seq ok_inInts (de_var (pv 7)) (de_var (pv 4)) (by rfl)))) (fun _ _ _ _ _ => (de_var (pv 7))))) dp_none (dp_some (de_var (pv 2)))))) (dg_name (own := [6]) (pg_name (i := 6) sc_with_odd.nd rfl (Or.inl rfl)))
      (dss_one (ds_augIt (ps_augS (pv 5) (de_var (pv 6)) pget_list de_int ip_add set_list))))
      (dss_one (ds_retO (de_take (pv 5))))))) (fun args QD h => ?_)
  · obtain ⟨us, rs, left, z, bare, rfl, hz, h0, hl, hu, hq⟩ := h
    rfl
  · obtain ⟨us, rs, left, z, bare, rfl, hz, h0, hl, hu, hq⟩ := h
    refine ⟨⟨_, rfl⟩, _, _, rfl, .inl rfl, by show 5 < 8; decide, ?_⟩
    refine ⟨⟨_, rfl⟩, z, rfl, hz, ⟨_, rfl⟩, _, _, rfl, rs, rfl, by omega, ?_⟩
    refine ⟨_, _, rfl, _, rfl, ?_⟩
    refine lc_fm (xs := ord z rs) (emb := .int) (fun j => if j ∈ bare then none else some (.int j)) (by rw [ord_length, sizeLine_eq]; omega) rfl (fun i j hj R hR => ?_) ?_
    · refine ⟨⟨_, rfl⟩, ⟨_, rfl⟩, _, _, rfl, rfl, _, _, rfl, .inl rfl, _, rfl, ?_⟩
      by_cases hb : j ∈ bare
      · rw [if_pos hb] at hR
        have e : (!decide (j ∈ bare)) = false := by simp [hb]
        show (if (!decide (j ∈ bare)) = true then _ else _)
        rw [e]
        exact iteF hR
      · rw [if_neg hb] at hR
        have e : (!decide (j ∈ bare)) = true := by simp [hb]
        show (if (!decide (j ∈ bare)) = true then _ else _)
        rw [e]
        exact iteT ⟨⟨_, rfl⟩, _, _, rfl, hR⟩
    · refine ⟨⟨_, rfl⟩, left, rfl, _, _, rfl, rfl, ?_⟩
      have eL : DL.cutD ((ord z rs).filterMap (fun j => if j ∈ bare then none else some (D.int j))) none (some left) = (((ord z rs).filter fun j => !decide (j ∈ bare)).take left.toNat).map D.int := by
        rw [cut_to h0, fm_filter, List.map_take]
      refine ⟨_, _, rfl, _, rfl, fun k E => ∃ s6, E = [.dat (.lst (us.map .int)), .dat (.lst (rs.map .int)), .dat (.int left), .dat (.str z), .dat (.lst (bare.map .int)), .ml ((addAt us ((((ord z rs).filter fun j => !decide (j ∈ bare)).take left.toNat).take k)).map .int), s6, .no], ⟨_, rfl⟩, fun k d E' hk ⟨s6, hI⟩ => ?_, fun E' ⟨s6, hI⟩ => ?_⟩
      · subst hI
        rw [eL, List.getElem?_map] at hk
        obtain ⟨j, hj, ed⟩ := Option.map_eq_some_iff.mp hk
        subst ed
        have hm : j ∈ ord z rs := (List.mem_filter.mp (List.mem_of_mem_take (List.mem_of_getElem? hj))).1
        obtain ⟨j0, j1⟩ := ord_mem hm
        have hlen : ((addAt us ((((ord z rs).filter fun j => !decide (j ∈ bare)).take left.toNat).take k)).map D.int).length = us.length := by
          rw [List.length_map, addAt_length]
        refine ⟨⟨_, rfl⟩, ⟨_, rfl⟩, j, _, _, j.toNat, rfl, rfl, ixN_ok j0 (by rw [hlen]; omega), getD_map (by rw [addAt_length]; omega), 1, rfl, rfl, .dat (.int j), ?_⟩
        rw [take_get hj, addAt_snoc, List.map_set]
        rfl
      · subst hI
        rw [eL, List.length_map, List.take_length]
        exact ⟨_, rfl, rfl, hq⟩

abbrev s_parted : Stmt := topS 22
theorem sc_parted : FnScope ["weight", "shares", "to", "names", "whole", "units", "rests", "bare", "name", "part", "at"] ["weight", "shares", "to"] (defScope s_parted) := ⟨rfl, rfl, rfl, by decide +kernel, rfl, by decide +kernel, by decide +kernel⟩
theorem ok_parted {f : Addr} {fd : FuncData} (F : FunD K "parted" "parted" (defArgs s_parted) (defBody s_parted) (defScope s_parted) [V.str "first"] [] f fd) (m_list : mg "list" = none) (m_zip : mg "zip" = none) (d_with_odd : Dn P w K mg base 2 "with_odd" ["units", "rests", "left", "to", "bare"] [] T_with_odd []) (m_sum : mg "sum" = none) (m_range : mg "range" = none) (m_len : mg "len" = none) (d_check_pairs : Dn P w K mg base 4 "check_pairs" ["rows", "many", "low", "high"] [] T_check_pairs []) (c_MOST_PRICE : ∃ t, mg "MOST_PRICE" = some (.int 1000000 t)) (c_MOST_SHARES : ∃ t, mg "MOST_SHARES" = some (.int 24 t)) (d_want_turn : Dn P w K mg base 1 "want_turn" ["to"] [] T_want_turn []) : FnOk P w K mg base CX0 5 f fd ["weight", "shares", "to"] (FnSp K [] T_parted) := by
  refine F.okD (bs := []) sc_parted (fun args QD h => ?_) (fun cdv A outer s H E hr => (dss_cons (ds_expr (de_cal d_want_turn hr (da_cons (de_var (pv 2)) da_nil)))
      (dss_cons (ds_expr (de_cal d_check_pairs hr (da_cons (de_var (pv 1)) (da_cons (de_gint c_MOST_SHARES) (da_cons de_int (da_cons (de_gint c_MOST_PRICE) da_nil))))))
      (dss_cons (ds_if (dt_cmp op_lt ok_B0 (de_var (pv 0)) de_int (nomark _)) dss_never dss_nil)
      (dss_cons (ds_lc (i := 3) (own := [("name", 8), ("part", 9)]) rfl sc_parted.nd rfl rfl (sw_true rfl rfl rfl (by decide +kernel)) (di_list (de_var (pv 1))) (blkOk_by (N := ["weight", "shares", "to", "names", "whole", "units", "rests", "bare", "name", "part", "at"]) (sc := defScope s_parted) (by decide +kernel)) (fun _ _ _ _ _ => (dg_tup (n := 2) rfl (dgs_cons (dg_name (pg_name (i := 8) sc_parted.nd rfl (Or.inl rfl))) (dgs_cons (dg_name (pg_name (i := 9) sc_parted.nd rfl (Or.inl rfl))) dgs_nil)))) (fun _ _ _ _ _ => dts_nil) (fun _ _ _ _ _ => (de_var (pv 8))))
      (dss_cons (ds_set (ps_set (i := 4) sc_parted.nd rfl (Or.inr rfl) (de_blt (cr_sum rfl) ok_sum (by rfl) m_sum (by decide +kernel) (da_cons (de_own (de_lc (own := [("name", 8), ("part", 9)]) rfl sc_parted.nd (di_list (de_var (pv 1))) (blkOk_by (N := ["weight", "shares", "to", "names", "whole", "units", "rests", "bare", "name", "part", "at"]) (sc := defScope s_parted) (by decide +kernel)) (fun _ _ _ _ _ => (dg_tup (n := 2) rfl (dgs_cons (dg_name (pg_name (i := 8) sc_parted.nd rfl (Or.inl rfl))) (dgs_cons (dg_name (pg_name (i := 9) sc_parted.nd rfl (Or.inl rfl))) dgs_nil)))) (fun _ _ _ _ _ => dts_nil) (fun _ _ _ _ _ => (de_var (pv 9))))) da_nil))))
      (dss_cons (ds_lc (i := 5) (own := [("name", 8), ("part", 9)]) rfl sc_parted.nd rfl rfl (sw_true rfl rfl rfl (by decide +kernel)) (di_list (de_var (pv 1))) (blkOk_by (N := ["weight", "shares", "to", "names", "whole", "units", "rests", "bare", "name", "part", "at"]) (sc := defScope s_parted) (by decide +kernel)) (fun _ _ _ _ _ => (dg_tup (n := 2) rfl (dgs_cons (dg_name (pg_name (i := 8) sc_parted.nd rfl (Or.inl rfl))) (dgs_cons (dg_name (pg_name (i := 9) sc_parted.nd rfl (Or.inl rfl))) dgs_nil)))) (fun _ _ _ _ _ => dts_nil) (fun _ _ _ _ _ => (de_op op_fdivW ok_I (de_op op_mulX ok_I (de_var (pv 0)) (de_var (pv 9))) (de_var (pv 4)))))
      (dss_cons (ds_lc (i := 6) (own := [("name", 8), ("part", 9)]) rfl sc_parted.nd rfl rfl (sw_true rfl rfl rfl (by decide +kernel)) (di_list (de_var (pv 1))) (blkOk_by (N := ["weight", "shares", "to", "names", "whole", "units", "rests", "bare", "name", "part", "at"]) (sc := defScope s_parted) (by decide +kernel)) (fun _ _ _ _ _ => (dg_tup (n := 2) rfl (dgs_cons (dg_name (pg_name (i := 8) sc_parted.nd rfl (Or.inl rfl))) (dgs_cons (dg_name (pg_name (i := 9) sc_parted.nd rfl (Or.inl rfl))) dgs_nil)))) (fun _ _ _ _ _ => dts_nil) (fun _ _ _ _ _ => (de_op op_mod ok_I (de_op op_mulX ok_I (de_var (pv 0)) (de_var (pv 9))) (de_var (pv 4)))))
      (dss_cons (ds_lc (i := 7) (own := [("at", 10)]) rfl sc_parted.nd rfl rfl (sw_true rfl rfl rfl (by decide +kernel)) (di_range1 (by rfl) m_range (da_cons (de_blt call_len ok_len (by rfl) m_len (by decide +kernel) (da_cons (de_var (pv 1)) da_nil)) da_nil)) (blkOk_by (N := ["weight", "shares", "to", "names", "whole", "units", "rests", "bare", "name", "part", "at"]) (sc := defScope s_parted) (by decide +kernel)) (fun _ _ _ _ _ => (dg_name (pg_name (i := 10) sc_parted.nd rfl (Or.inl rfl)))) (fun _ _ _ _ _ => (dts_one (dt_cmp op_eq ok_eq (de_ix ix_seq ok_ix (de_ix ix_seq ok_ix (de_var (pv 1)) (de_var (pv 10))) de_int) de_int (nomark _)))) (fun _ _ _ _ _ => (de_var (pv 10))))
      (dss_one (ds_retO (de_listZp rfl (by rfl) m_list (by rfl) m_zip (da_cons (de_var (pv 3)) (da_cons (de_own (de_calO d_with_odd hr (da_cons (de_var (pv 5)) (da_cons (de_var (pv 6)) (da_cons (de_op op_sub ok_I0 (de_var (pv 0)) (de_blt (cr_sum rfl) ok_sum (by rfl) m_sum (by decide +kernel) (da_cons (de_var (pv 5)) da_nil))) (da_cons (de_var (pv 2)) (da_cons (de_var (pv 7)) da_nil))))))) da_nil)))))))))))))) (fun args QD h => ?_)
  · obtain ⟨m, ps, z, rfl, hg, h0, h1, hz, hq⟩ := h
    rfl
  · obtain ⟨m, ps, z, rfl, hg, h0, h1, hz, hq⟩ := h
    have lz : ps.length ≤ sizeLine := by
      have := hg.n2
      rw [sizeLine_eq]
      omega
    have hm : decide (m < 0) = false := decide_eq_false (by omega)
    have n2 := hg.n2
    refine ⟨⟨_, rfl⟩, _, _, rfl, z, hz, rfl, ⟨_, rfl⟩, _, _, rfl, ps, rfl, hg, ⟨_, rfl⟩, _, _, rfl, rfl, _, _, rfl, rfl, _, rfl, ?_⟩
    rw [hm]
    refine iteF ⟨⟨_, rfl⟩, _, _, rfl, _, rfl, lc_mapE (xs := ps) (emb := rowD) (fun p => .str p.1) (ps.map fun p => .str p.1) [.dat (.int m), .dat (shD ps), .dat (.str z), .no, .no, .no, .no, .no, .no, .no, .no] rfl lz (fun i p _ R hR => ⟨_, rfl, rfl, _, _, rfl, _, _, rfl, rfl, ⟨_, rfl⟩, _, _, rfl, hR⟩) ?_⟩
    refine ⟨by show 3 < 11; decide, ⟨_, rfl⟩, _, _, rfl, _, rfl, lc_mapE (xs := ps) (emb := rowD) (fun p => .int p.2) ((ps.map (·.2)).map .int) [.dat (.int m), .dat (shD ps), .dat (.str z), .ml (ps.map fun p => .str p.1), .no, .no, .no, .no, .no, .no, .no] (by rw [List.map_map]; rfl) lz (fun i p _ R hR => ⟨_, rfl, rfl, _, _, rfl, _, _, rfl, rfl, ⟨_, rfl⟩, _, _, rfl, hR⟩) ?_⟩
    refine ⟨_, rfl, _, ps.map (·.2), rfl, .inl rfl, _, _, rfl, ?_⟩
    have gW : (ps.map (·.2)).sum = wholeP ps := rfl
    rw [gW]
    have hW := whole_pos hg
    have hD : ∀ i, CDivW i (wholeP ps) := whole_div hg
    refine ⟨⟨_, rfl⟩, _, _, rfl, _, rfl, lc_mapE (xs := ps) (emb := rowD) (fun p => .int (m * p.2 / wholeP ps)) ((unitsP m ps).map .int) [.dat (.int m), .dat (shD ps), .dat (.str z), .ml (ps.map fun p => .str p.1), .dat (.int (wholeP ps)), .no, .no, .no, .no, .no, .no] (by unfold unitsP; rw [List.map_map]; rfl) lz (fun i p hp R hR => ?_) ?_⟩
    · have pm := List.mem_of_getElem? hp
      exact ⟨_, rfl, rfl, _, _, rfl, _, _, rfl, rfl, ⟨_, rfl⟩, ⟨_, rfl⟩, _, _, rfl, rfl, _, _, rfl, rfl, part_small hg pm m, ⟨_, rfl⟩, _, _, rfl, rfl, _, _, rfl, rfl, hD _, _, _, rfl, hR⟩
    refine ⟨by show 5 < 11; decide, ⟨_, rfl⟩, _, _, rfl, _, rfl, lc_mapE (xs := ps) (emb := rowD) (fun p => .int (m * p.2 % wholeP ps)) ((restsP m ps).map .int) [.dat (.int m), .dat (shD ps), .dat (.str z), .ml (ps.map fun p => .str p.1), .dat (.int (wholeP ps)), .ml ((unitsP m ps).map .int), .no, .no, .no, .no, .no] (by unfold restsP; rw [List.map_map]; rfl) lz (fun i p hp R hR => ?_) ?_⟩
    · have pm := List.mem_of_getElem? hp
      exact ⟨_, rfl, rfl, _, _, rfl, _, _, rfl, rfl, ⟨_, rfl⟩, ⟨_, rfl⟩, _, _, rfl, rfl, _, _, rfl, rfl, part_small hg pm m, ⟨_, rfl⟩, _, _, rfl, rfl, _, _, rfl, rfl, hW, _, _, rfl, hR⟩
    refine ⟨by show 6 < 11; decide, ⟨_, rfl⟩, _, rfl, _, _, rfl, rfl, ps.length, by show some _ = some _; rw [List.length_map], by omega, by omega, ?_⟩
    refine lc_fmE (xs := List.range ps.length) (emb := fun i => .int ((0 : Int) + (i : Nat))) (fun i => if (ps.getD i ("", 0)).2 = 0 then some (D.int ((0 : Int) + (i : Nat))) else none) ((bareP ps).map .int) [.dat (.int m), .dat (shD ps), .dat (.str z), .ml (ps.map fun p => .str p.1), .dat (.int (wholeP ps)), .ml ((unitsP m ps).map .int), .ml ((restsP m ps).map .int), .no, .no, .no, .no] (bare_fm ps) (by rw [List.length_range]; exact lz) (fun i j hj R hR => ?_) ?_
    · have hlt : j < ps.length := List.mem_range.mp (List.mem_of_getElem? hj)
      have ra := row_at hlt
      revert hR ra
      generalize ps.getD j ("", 0) = p
      intro hR ra
      have r1 : ixD (rowD p) 1 = some (.int p.2) := rfl
      by_cases h : p.2 = 0
      · rw [if_pos h] at hR
        have ec : eqS (.int p.2) (.int 0) = some true := congrArg some (decide_eq_true h)
        exact ⟨⟨_, rfl⟩, ⟨_, rfl⟩, _, _, rfl, rfl, _, _, rfl, ra, _, _, rfl, rfl, _, _, rfl, r1, _, _, rfl, rfl, _, ec, _, rfl, iteT ⟨⟨_, rfl⟩, _, _, rfl, hR⟩⟩
      · rw [if_neg h] at hR
        have ec : eqS (.int p.2) (.int 0) = some false := congrArg some (decide_eq_false h)
        exact ⟨⟨_, rfl⟩, ⟨_, rfl⟩, _, _, rfl, rfl, _, _, rfl, ra, _, _, rfl, rfl, _, _, rfl, r1, _, _, rfl, rfl, _, ec, _, rfl, iteF hR⟩
    refine ⟨by show 7 < 11; decide, ⟨_, rfl⟩, ⟨_, rfl⟩, ⟨_, rfl⟩, ⟨_, rfl⟩, ⟨_, rfl⟩, _, rfl, _, unitsP m ps, rfl, .inl rfl, _, _, rfl, rfl, _, _, rfl, rfl, ⟨_, rfl⟩, ⟨_, rfl⟩, ?_⟩
    refine ⟨_, _, rfl, unitsP m ps, restsP m ps, m - (unitsP m ps).sum, z, bareP ps, rfl, hz, left_nn hg, ?_, ?_, ?_⟩
    · unfold unitsP restsP
      rw [List.length_map, List.length_map]
    · unfold unitsP
      rw [List.length_map]
      omega
    · refine ⟨_, rfl, _, _, _, _, _, _, rfl, rfl, rfl, _, _, rfl, rfl, ?_, hq⟩
      rw [List.length_map]
      exact Nat.le_trans (Nat.min_le_left _ _) lz

abbrev s__law_cell_at : Stmt := topS 24
theorem sc__law_cell_at : FnScope ["_law_script", "_law_k"] ["_law_script", "_law_k"] (defScope s__law_cell_at) := ⟨rfl, rfl, rfl, by decide +kernel, rfl, by decide +kernel, by decide +kernel⟩
theorem ok__law_cell_at {f : Addr} {fd : FuncData} (F : FunD K "_law_cell_at" "_law_cell_at" (defArgs s__law_cell_at) (defBody s__law_cell_at) (defScope s__law_cell_at) [] [] f fd) (m_len : mg "len" = none) : FnOk P w K mg base CX0 1 f fd ["_law_script", "_law_k"] (FnSp K [] T__law_cell_at) := by
  refine F.okD (bs := []) sc__law_cell_at (fun args QD h => ?_) (fun cdv A outer s H E hr => (dss_cons (ds_if (dt_cmp op_lt ok_B0 (de_var (pv 1)) (de_blt call_len ok_len (by rfl) m_len (by decide +kernel) (da_cons (de_var (pv 0)) da_nil)) (nomark _)) (dss_one (ds_ret (de_ix ix_seq ok_ix (de_var (pv 0)) (de_var (pv 1))))) dss_nil)
      (dss_one (ds_ret de_int)))) (fun args QD h => ?_)
  · obtain ⟨ns, k, rfl, hq⟩ := h
    rfl
  · obtain ⟨ns, k, rfl, hq⟩ := h
    refine ⟨⟨_, rfl⟩, ⟨_, rfl⟩, _, rfl, _, _, rfl, rfl, _, _, rfl, rfl, _, _, rfl, rfl, _, rfl, ?_⟩
    by_cases h : (k : Int) < (ns.length : Int)
    · have hk : k < ns.length := by omega
      have e : ixD (.scr ns) (k : Int) = some (.int (ns.getD k 0)) := by
        show (atI ns _).map D.int = _
        unfold atI
        rw [ixN_ok (by omega) h]
        show (ns[((k : Nat) : Int).toNat]?).map D.int = _
        rw [Int.toNat_natCast, List.getD_eq_getElem?_getD, List.getElem?_eq_getElem hk]
        rfl
      rw [decide_eq_true h]
      exact iteT ⟨⟨_, rfl⟩, ⟨_, rfl⟩, _, _, rfl, rfl, _, _, rfl, e, _, _, rfl, hq⟩
    · rw [decide_eq_false h]
      have e : ns.getD k 0 = 0 := by
        rw [List.getD_eq_getElem?_getD, List.getElem?_eq_none (by omega)]
        rfl
      rw [e] at hq
      exact iteF ⟨_, _, rfl, hq⟩

abbrev s__law_well : Stmt := topS 25
theorem sc__law_well : FnScope ["_law_cell"] ["_law_cell"] (defScope s__law_well) := ⟨rfl, rfl, rfl, by decide +kernel, rfl, by decide +kernel, by decide +kernel⟩
theorem ok__law_well {f : Addr} {fd : FuncData} (F : FunD K "_law_well" "_law_well" (defArgs s__law_well) (defBody s__law_well) (defScope s__law_well) [] [] f fd) (m_int : mg "int" = none) : FnOk P w K mg base CX0 1 f fd ["_law_cell"] (FnSp K [] T__law_well) := by
  refine F.okD (bs := []) sc__law_well (fun args QD h => ?_) (fun cdv A outer s H E hr => (dss_one (ds_retO (de_lst (da_cons (de_op op_mulX ok_I (de_var (pv 0)) (de_bty call_int1 ok_int1 (by rfl) m_int (by decide +kernel) (da_cons (de_cmp op_ge ok_B0 (de_var (pv 0)) (de_op op_pow ok_I de_int de_int) (nomark _)) da_nil))) (da_cons (de_var (pv 0)) (da_cons de_int da_nil))))))) (fun args QD h => ?_)
  · obtain ⟨i, rfl, hq⟩ := h
    rfl
  · obtain ⟨i, rfl, hq⟩ := h
    refine ⟨⟨_, rfl⟩, ⟨_, rfl⟩, _, _, rfl, rfl, _, _, rfl, rfl, ⟨by decide, by decide, by decide⟩, _, _, rfl, rfl, _, _, rfl, rfl, _, rfl, ?_⟩
    refine .inr ⟨_, rfl, _, _, rfl, rfl, _, _, rfl, rfl, ?_, ⟨_, rfl⟩, _, _, rfl, ?_, hq _ _ _⟩
    · refine mulR ?_ ?_
      · split <;> decide
      · split <;> decide
    · show 3 ≤ sizeLine
      rw [sizeLine_eq]
      decide

abbrev s__law_draw : Stmt := topS 26
theorem sc__law_draw : FnScope ["_law_well_here", "_law_most", "_law_found", "_law_low"] ["_law_well_here", "_law_most"] (defScope s__law_draw) := ⟨rfl, rfl, rfl, by decide +kernel, rfl, by decide +kernel, by decide +kernel⟩
theorem ok__law_draw {f : Addr} {fd : FuncData} (F : FunD K "_law_draw" "_law_draw" (defArgs s__law_draw) (defBody s__law_draw) (defScope s__law_draw) [] [] f fd)  : FnOk P w K mg base CX0 1 f fd ["_law_well_here", "_law_most"] (FnSp K [0] T__law_draw) := by
  refine F.okD (bs := [0]) sc__law_draw (fun args QD h => ?_) (fun cdv A outer s H E hr => (dss_cons (ds_if (dt_cmp op_gt ok_B0 (de_ix ix_seq ok_ix (de_var (pv 0)) de_int) de_int (nomark _)) (dss_cons (ds_set (ps_set (i := 2) sc__law_draw.nd rfl (Or.inl rfl) (de_op op_mod ok_I (de_ix ix_seq ok_ix (de_var (pv 0)) de_int) (de_var (pv 1)))))
      (dss_cons (ds_setIt (ps_asg (de_op op_fdivW ok_I (de_ix ix_seq ok_ix (de_var (pv 0)) de_int) (de_var (pv 1))) (pg_sub (pv 0) de_int set_list)))
      (dss_one (ds_ret (de_var (pv 2)))))) dss_nil)
      (dss_cons (ds_setIt (ps_asg (de_op op_add ok_I0 (de_ix ix_seq ok_ix (de_var (pv 0)) de_int) de_int) (pg_sub (pv 0) de_int set_list)))
      (dss_cons (ds_set (ps_set (i := 3) sc__law_draw.nd rfl (Or.inl rfl) (de_op op_mod ok_I (de_op op_mulX ok_I (de_op op_add ok_I0 (de_op op_add ok_I0 (de_op op_mod ok_I (de_ix ix_seq ok_ix (de_var (pv 0)) de_int) de_int) (de_op op_mulX ok_I de_int (de_ix ix_seq ok_ix (de_var (pv 0)) de_int))) de_int) de_int) de_int)))
      (dss_cons (ds_set (ps_set (i := 3) sc__law_draw.nd rfl (Or.inl rfl) (de_op op_mod ok_I (de_op op_mulX ok_I (de_var (pv 3)) (de_op op_add ok_I0 (de_op op_add ok_I0 (de_op op_fdivW ok_I (de_var (pv 3)) de_int) de_int) (de_op op_mod ok_I (de_op op_fdivW ok_I (de_ix ix_seq ok_ix (de_var (pv 0)) de_int) de_int) de_int))) de_int)))
      (dss_one (ds_ret (de_op op_mod ok_I (de_op op_mod ok_I (de_op op_mulX ok_I (de_op op_add ok_I0 (de_var (pv 3)) (de_op op_mulX ok_I de_int (de_ix ix_seq ok_ix (de_var (pv 0)) de_int))) (de_op op_add ok_I0 (de_op op_fdivW ok_I (de_var (pv 3)) de_int) de_int)) de_int) (de_var (pv 1)))))))))) (fun args QD h => ?_)
  · obtain ⟨s, n, rfl, ⟨x, y, z, rfl⟩, h0, h1, hq⟩ := h
    rfl
  · obtain ⟨s, n, rfl, ⟨x, y, z, rfl⟩, h0, h1, hq⟩ := h
    refine ⟨⟨_, rfl⟩, _, _, rfl, rfl, _, _, rfl, rfl, _, _, rfl, rfl, _, _, rfl, rfl, _, rfl, ?_⟩
    by_cases hx : x > 0
    · rw [decide_eq_true hx]
      refine iteT ⟨⟨_, rfl⟩, _, _, rfl, rfl, _, _, rfl, rfl, ⟨_, rfl⟩, _, _, rfl, rfl, _, _, rfl, rfl, h0, _, _, rfl, ?_⟩
      refine ⟨⟨_, rfl⟩, _, _, rfl, rfl, _, _, rfl, rfl, ⟨_, rfl⟩, _, _, rfl, rfl, _, _, rfl, rfl, divW (b := 60) h0 (by omega), _, _, rfl, ⟨_, rfl⟩, _, _, _, rfl, rfl, rfl, ⟨_, rfl⟩, _, _, rfl, ?_⟩
      exact hq _ _ (Int.emod_nonneg _ (by omega)) (Int.emod_lt_of_pos _ h0) ⟨_, _, _, rfl⟩
    · rw [decide_eq_false hx]
      refine iteF ?_
      refine ⟨⟨_, rfl⟩, _, _, rfl, rfl, _, _, rfl, rfl, _, _, rfl, rfl, _, _, rfl, rfl, _, _, rfl, ⟨_, rfl⟩, _, _, _, rfl, rfl, rfl, ?_⟩
      refine ⟨⟨_, rfl⟩, _, _, rfl, rfl, _, _, rfl, rfl, _, _, rfl, rfl, _, _, rfl, rfl, (show (0 : Int) < 2147483647 by decide), ⟨_, rfl⟩, _, _, rfl, rfl, _, _, rfl, rfl, _, _, rfl, rfl, _, _, rfl, rfl, mulL (by decide) (by decide), _, _, rfl, rfl, _, _, rfl, rfl, _, _, rfl, rfl, _, _, rfl, rfl, _, _, rfl, rfl, _, _, rfl, rfl, mulR (by decide) (by decide), _, _, rfl, rfl, _, _, rfl, rfl, (show (0 : Int) < 2147483647 by decide), _, _, rfl, ?_⟩
      have l1 : ∀ a : Int, 0 ≤ a % 2147483647 ∧ a % 2147483647 < 2147483647 := fun a => ⟨Int.emod_nonneg _ (by decide), Int.emod_lt_of_pos _ (by decide)⟩
      have l2 : ∀ a : Int, 0 ≤ a % 2147483629 ∧ a % 2147483629 < 2147483629 := fun a => ⟨Int.emod_nonneg _ (by decide), Int.emod_lt_of_pos _ (by decide)⟩
      have g1 := l1 ((y % 2147483647 + 104729 * (z + 1) + 1) * 48271)
      revert g1
      show _ → _
      generalize ((y % 2147483647 + 104729 * (z + 1) + 1) * 48271) % 2147483647 = low
      intro g1
      refine ⟨⟨_, rfl⟩, ⟨_, rfl⟩, _, _, rfl, rfl, _, _, rfl, rfl, divW (b := 40) (by decide) (by decide), _, _, rfl, rfl, _, _, rfl, rfl, ⟨_, rfl⟩, _, _, rfl, rfl, _, _, rfl, rfl, _, _, rfl, rfl, _, _, rfl, rfl, divW (b := 40) (by decide) (by decide), _, _, rfl, rfl, _, _, rfl, rfl, (show (0 : Int) < 9973 by decide), _, _, rfl, rfl, _, _, rfl, rfl, _, _, rfl, rfl, _, _, rfl, rfl, mulL (by omega) (by omega), _, _, rfl, rfl, _, _, rfl, rfl, (show (0 : Int) < 2147483629 by decide), _, _, rfl, ?_⟩
      have g2 := l2 (low * (low / 1009 + 69621 + y / 2147483647 % 9973))
      revert g2
      show _ → _
      generalize (low * (low / 1009 + 69621 + y / 2147483647 % 9973)) % 2147483629 = low2
      intro g2
      refine ⟨⟨_, rfl⟩, ⟨_, rfl⟩, _, _, rfl, rfl, _, _, rfl, rfl, _, _, rfl, rfl, _, _, rfl, rfl, mulL (by decide) (by decide), _, _, rfl, rfl, _, _, rfl, rfl, ⟨_, rfl⟩, _, _, rfl, rfl, _, _, rfl, rfl, divW (b := 40) (by decide) (by decide), _, _, rfl, rfl, _, _, rfl, rfl, _, _, rfl, rfl, _, _, rfl, rfl, mulR (by omega) (by omega), _, _, rfl, rfl, _, _, rfl, rfl, (show (0 : Int) < 2147483399 by decide), ⟨_, rfl⟩, _, _, rfl, rfl, _, _, rfl, rfl, h0, _, _, rfl, ?_⟩
      exact hq _ _ (Int.emod_nonneg _ (by omega)) (Int.emod_lt_of_pos _ h0) ⟨_, _, _, rfl⟩

abbrev s__law_names : Stmt := topS 27
theorem sc__law_names : FnScope ["_law_well_here", "_law_many", "_law_letters", "_law_start", "_law_stem", "_law_found", "_law_k"] ["_law_well_here", "_law_many"] (defScope s__law_names) := ⟨rfl, rfl, rfl, by decide +kernel, rfl, by decide +kernel, by decide +kernel⟩
theorem ok__law_names {f : Addr} {fd : FuncData} (F : FunD K "_law_names" "_law_names" (defArgs s__law_names) (defBody s__law_names) (defScope s__law_names) [] [] f fd) (m_range : mg "range" = none) (d__law_draw : Dn P w K mg base 1 "_law_draw" ["_law_well_here", "_law_most"] [0] T__law_draw []) : FnOk P w K mg base CX0 2 f fd ["_law_well_here", "_law_many"] (FnSp K [0] T__law_names) := by
  refine F.okD (bs := [0]) sc__law_names (fun args QD h => ?_) (fun cdv A outer s H E hr => (dss_cons (ds_set (ps_set (i := 2) sc__law_names.nd rfl (Or.inr rfl) de_str))
      (dss_cons (ds_set (ps_set (i := 3) sc__law_names.nd rfl (Or.inl rfl) (de_calB 0 d__law_draw hr (da_cons (de_var (pv 0)) (da_cons de_int da_nil)))))
      (dss_cons (ds_set (ps_set (i := 4) sc__law_names.nd rfl (Or.inl rfl) (de_join de_str str_const (de_own (de_lc (own := [("_law_k", 6)]) rfl sc__law_names.nd (di_range1 (by rfl) m_range (da_cons de_int da_nil)) (blkOk_by (N := ["_law_well_here", "_law_many", "_law_letters", "_law_start", "_law_stem", "_law_found", "_law_k"]) (sc := defScope s__law_names) (by decide +kernel)) (fun _ _ _ _ _ => (dg_name (pg_name (i := 6) sc__law_names.nd rfl (Or.inl rfl)))) (fun _ _ _ _ _ => dts_nil) (fun _ _ _ _ _ => (de_ix ix_seq ok_ix (de_var (pv 2)) (de_calB 0 d__law_draw hr (da_cons (de_var (pv 0)) (da_cons de_int da_nil))))))))))
      (dss_cons (ds_setO (ps_set (i := 5) sc__law_names.nd rfl (Or.inl rfl) (de_lst da_nil)))
      (dss_cons (ds_for PassesOwn.never rfl (di_range1 (by rfl) m_range (da_cons (de_var (pv 1)) da_nil)) (dg_name (own := [6]) (pg_name (i := 6) sc__law_names.nd rfl (Or.inl rfl)))
      (dss_one (ds_expr (de_append (pe_bm PySem.F.plainAttrs_list PySem.F.slot_list_append PySem.F.type_list_append mt_append (pv 5) (pa_cons (de_op op_add_str ok_addS (de_op op_add_str ok_addS (de_slS (de_var (pv 4)) dp_none (dp_some (de_calB 0 d__law_draw hr (da_cons (de_var (pv 0)) (da_cons de_int da_nil))))) (de_ix ix_seq ok_ix (de_var (pv 2)) (de_op op_mod ok_I (de_op op_add ok_I0 (de_var (pv 3)) (de_op op_mulX ok_I de_int (de_var (pv 6)))) de_int))) (de_ix ix_seq ok_ix (de_var (pv 2)) (de_op op_fdivW ok_I (de_var (pv 6)) de_int))) pa_nil))))))
      (dss_one (ds_retO (de_take (pv 5)))))))))) (fun args QD h => ?_)
  · obtain ⟨s, n, rfl, hw, h1, h2, hq⟩ := h
    rfl
  · obtain ⟨s, n, rfl, ⟨x, y, z, rfl⟩, h1, h2, hq⟩ := h
    refine ⟨_, _, rfl, ⟨_, rfl⟩, _, _, _, _, rfl, rfl, rfl, rfl, _, 26, rfl, ⟨_, _, _, rfl⟩, by decide, by decide, fun st s1 t0 t1 w1 s1' e1 => ?_⟩
    cases e1
    refine ⟨_, _, rfl, 6, rfl, by decide, by decide, ?_⟩
    refine ⟨by rw [sizeLine_eq]; decide, rfl, fun k acc E => ∃ (s : Sl) (cs : List Nat), well s ∧ acc = cs.map (fun c => D.str ⟨#[c]⟩) ∧ cs.length = k ∧ (∀ c ∈ cs, c ∈ letters.cps.toList) ∧ E = [s, .dat (.int n), .dat (.str letters), .dat (.int st), .no, .no, .no], ⟨s1, [], w1, rfl, rfl, (fun c hc => by cases hc), rfl⟩, fun k acc d E' hk ⟨s, cs, hw, ha, hl, hc, hE⟩ => ?_, fun acc E' ⟨s, cs, hw, ha, hl, hc, hE⟩ => ?_⟩
    · subst hE
      obtain ⟨x1, y1, z1, rfl⟩ := hw
      refine ⟨⟨_, rfl⟩, ⟨_, rfl⟩, _, _, _, _, rfl, rfl, rfl, rfl, _, 26, rfl, ⟨_, _, _, rfl⟩, by decide, by decide, fun j s2 j0 j1 w2 s2' e2 => ?_⟩
      cases e2
      refine ⟨_, _, rfl, rfl, _, _, rfl, let_ix j0 j1, _, _, rfl, s2, cs ++ [L j], w2, ?_, by rw [List.length_append, hl]; rfl, fun c hcm => ?_, rfl⟩
      · rw [ha, List.map_append]
        rfl
      · rcases List.mem_append.mp hcm with hcm | hcm
        · exact hc c hcm
        · rw [List.mem_singleton.mp hcm]
          exact L_mem j1
    · subst hE
      obtain ⟨x1, y1, z1, rfl⟩ := hw
      have hl : cs.length = 6 := hl
      refine ⟨"", cs.map fun c => (⟨#[c]⟩ : Str), rfl, .inl ?_, ?_, ?_⟩
      · rw [ha, List.map_map]
        rfl
      · rw [List.length_map, hl]
        have hs : ∀ l : List Nat, ((l.map fun c => (⟨#[c]⟩ : Str)).map fun x => x.length).sum = l.length := fun l => by
          induction l with
          | nil => rfl
          | cons c l ih =>
            rw [List.map_cons, List.map_cons, List.sum_cons, ih, List.length_cons]
            show 1 + l.length = _
            omega
        rw [hs, hl]
        decide
      have es := stem_cps cs
      revert es
      generalize Txt.join "" (cs.map fun c => (⟨#[c]⟩ : Str)) = stem
      intro es
      have sl : stem.length = 6 := by
        rw [← hl, ← es]
        exact (Array.length_toList).symm
      refine ⟨_, _, rfl, _, _, rfl, by decide, by show 5 < 7; decide, ⟨_, rfl⟩, n, rfl, by omega, by omega, ?_⟩
      refine ⟨fun k E => ∃ (s : Sl) (xs : List Str) (s6 : Sl), well s ∧ xs.length = k ∧ (∀ (i : Nat) (x : Str), xs[i]? = some x → NmP st i x) ∧ E = [s, .dat (.int n), .dat (.str letters), .dat (.int st), .dat (.str stem), .ml (xs.map .str), s6], ⟨_, [], _, ⟨_, _, _, rfl⟩, rfl, (fun i x e => by simp at e), rfl⟩, fun k d E' hk ⟨s, xs, s6, hw, hlx, hx, hE⟩ => ?_, fun E' ⟨s, xs, s6, hw, hlx, hx, hE⟩ => ?_⟩
      · subst hE
        obtain ⟨x1, y1, z1, rfl⟩ := hw
        obtain ⟨hkn, ed⟩ := range_get hk
        subst ed
        have hkn : k < n := by omega
        refine ⟨⟨_, rfl⟩, ⟨_, rfl⟩, ⟨_, rfl⟩, _, _, _, _, rfl, rfl, rfl, rfl, _, 7, rfl, ⟨_, _, _, rfl⟩, by decide, by decide, fun c s2 c0 c1 w2 s2' e2 => ?_⟩
        cases e2
        have w2' := w2
        obtain ⟨x2, y2, z2, es2⟩ := w2
        subst es2
        refine ⟨c, rfl, stem, rfl, by rw [sl, sizeLine_eq]; decide, ?_⟩
        refine ⟨⟨_, rfl⟩, ⟨_, rfl⟩, ⟨_, rfl⟩, _, _, rfl, rfl, _, _, rfl, rfl, mulL (by decide) (by decide), _, _, rfl, rfl, _, _, rfl, rfl, _, _, rfl, rfl, _, _, rfl, rfl, (show (0 : Int) < 26 by decide), _, _, rfl, rfl, _, _, rfl, let_ix (Int.emod_nonneg _ (by decide)) (Int.emod_lt_of_pos _ (by decide)), ?_⟩
        have lc : (cutS stem none (some c)).length ≤ 6 := by
          rw [len_cps, cut_cps stem c0, List.length_take]
          omega
        have kz : (k : Int) / 26 = 0 := by omega
        have one : ∀ a : Nat, (⟨#[a]⟩ : Str).length = 1 := fun a => rfl
        have l2 : ∀ a : Nat, (cutS stem none (some c) ++ (⟨#[a]⟩ : Str)).length ≤ 7 := fun a => by
          have h1 := len_cps (cutS stem none (some c) ++ (⟨#[a]⟩ : Str))
          rw [app_cps, List.length_append, ← len_cps, ← len_cps, one] at h1
          omega
        refine ⟨_, _, rfl, rfl, _, _, rfl, rfl, ?_, ⟨_, rfl⟩, ⟨_, rfl⟩, _, _, rfl, rfl, _, _, rfl, rfl, divW (b := 40) (by decide) (by decide), _, _, rfl, rfl, _, _, rfl, let_ix (j := (k : Int) / 26) (by omega) (by omega), _, _, rfl, rfl, _, _, rfl, rfl, ?_, _, _, _, rfl, rfl, ?_, .ml [.int x2, .int y2, .int z2], xs ++ [cutS stem none (some c) ++ (⟨#[L ((st + 7 * (k : Int)) % 26)]⟩ : Str) ++ (⟨#[L ((k : Int) / 26)]⟩ : Str)], .dat (.int (k : Nat)), w2', ?_, ?_, ?_⟩
        · show (cutS stem none (some c)).length + 1 ≤ sizeLine
          rw [sizeLine_eq]
          omega
        · show (cutS stem none (some c) ++ (⟨#[L ((st + 7 * (k : Int)) % 26)]⟩ : Str)).length + 1 ≤ sizeLine
          rw [sizeLine_eq]
          have := l2 (L ((st + 7 * (k : Int)) % 26))
          omega
        · rw [List.length_map, hlx, sizeLine_eq]
          omega
        · rw [List.length_append, hlx]
          rfl
        · intro i x e
          by_cases hi : i < xs.length
          · rw [List.getElem?_append_left hi] at e
            exact hx i x e
          · rw [List.getElem?_append_right (by omega)] at e
            have hz : i - xs.length = 0 := by
              cases q : i - xs.length with
              | zero => rfl
              | succ m =>
                rw [q] at e
                simp at e
            rw [hz] at e
            cases e
            have hik : i = k := by omega
            subst hik
            refine ⟨stem.cps.toList.take c.toNat, ?_, ?_, fun a ha => ?_⟩
            · rw [app_cps, app_cps, cut_cps stem c0, kz, List.append_assoc]
              rfl
            · rw [List.length_take]
              omega
            · rw [es] at ha
              exact hc a (List.mem_of_mem_take ha)
        · rw [List.map_append]
          rfl
      · subst hE
        have hlx : xs.length = n := by
          rw [hlx]
          unfold rangeD
          rw [List.length_map, List.length_range]
          omega
        exact ⟨_, rfl, rfl, hq s xs hw hlx (names_nd (by omega) hx) fun x hm => by
          obtain ⟨i, hi⟩ := List.getElem?_of_mem hm
          exact (hx i x hi).ok⟩

abbrev s__law_shares : Stmt := topS 28
theorem sc__law_shares : FnScope ["_law_well_here", "_law_names_here", "_law_most", "_law_parts", "_law_at", "_law_name"] ["_law_well_here"] (defScope s__law_shares) := ⟨rfl, rfl, rfl, by decide +kernel, rfl, by decide +kernel, by decide +kernel⟩
theorem ok__law_shares {f : Addr} {fd : FuncData} (F : FunD K "_law_shares" "_law_shares" (defArgs s__law_shares) (defBody s__law_shares) (defScope s__law_shares) [] [] f fd) (m_list : mg "list" = none) (m_zip : mg "zip" = none) (m_max : mg "max" = none) (d__law_draw : Dn P w K mg base 1 "_law_draw" ["_law_well_here", "_law_most"] [0] T__law_draw []) (m_len : mg "len" = none) (d__law_names : Dn P w K mg base 2 "_law_names" ["_law_well_here", "_law_many"] [0] T__law_names []) : FnOk P w K mg base CX0 3 f fd ["_law_well_here"] (FnSp K [0] T__law_shares) := by
  refine F.okD (bs := [0]) sc__law_shares (fun args QD h => ?_) (fun cdv A outer s H E hr => (dss_cons (ds_set (ps_set (i := 1) sc__law_shares.nd rfl (Or.inl rfl) (de_calB 0 d__law_names hr (da_cons (de_var (pv 0)) (da_cons (de_ix ix_seq ok_ix (de_own (de_lst (da_cons (de_op op_add ok_I0 de_int (de_calB 0 d__law_draw hr (da_cons (de_var (pv 0)) (da_cons de_int da_nil)))) (da_cons (de_op op_add ok_I0 de_int (de_calB 0 d__law_draw hr (da_cons (de_var (pv 0)) (da_cons de_int da_nil)))) da_nil)))) (de_calB 0 d__law_draw hr (da_cons (de_var (pv 0)) (da_cons de_int da_nil)))) da_nil)))))
      (dss_cons (ds_set (ps_set (i := 2) sc__law_shares.nd rfl (Or.inr rfl) (de_ix ix_seq ok_ix (de_own (de_lst (da_cons de_int (da_cons de_int (da_cons de_int (da_cons (de_op op_add ok_I0 (de_op op_pow ok_I de_int de_int) de_int) da_nil)))))) (de_calB 0 d__law_draw hr (da_cons (de_var (pv 0)) (da_cons de_int da_nil))))))
      (dss_cons (ds_lc (i := 3) (own := [("_law_name", 5)]) rfl sc__law_shares.nd rfl rfl (sw_true rfl rfl rfl (by decide +kernel)) (di_list (de_var (pv 1))) (blkOk_by (N := ["_law_well_here", "_law_names_here", "_law_most", "_law_parts", "_law_at", "_law_name"]) (sc := defScope s__law_shares) (by decide +kernel)) (fun _ _ _ _ _ => (dg_name (pg_name (i := 5) sc__law_shares.nd rfl (Or.inl rfl)))) (fun _ _ _ _ _ => dts_nil) (fun _ _ _ _ _ => (de_calB 0 d__law_draw hr (da_cons (de_var (pv 0)) (da_cons (de_var (pv 2)) da_nil)))))
      (dss_cons (ds_set (ps_set (i := 4) sc__law_shares.nd rfl (Or.inl rfl) (de_calB 0 d__law_draw hr (da_cons (de_var (pv 0)) (da_cons (de_blt call_len ok_len (by rfl) m_len (by decide +kernel) (da_cons (de_var (pv 1)) da_nil)) da_nil)))))
      (dss_cons (ds_setIt (ps_asg (de_blt (call_max2 rfl) ok_max2 (by rfl) m_max (by decide +kernel) (da_cons de_int (da_cons (de_ix ix_seq ok_ix (de_var (pv 3)) (de_var (pv 4))) da_nil))) (pg_sub (pv 3) (de_var (pv 4)) set_list)))
      (dss_one (ds_retO (de_listZp rfl (by rfl) m_list (by rfl) m_zip (da_cons (de_var (pv 1)) (da_cons (de_var (pv 3)) da_nil))))))))))) (fun args QD h => ?_)
  · obtain ⟨s, rfl, hw, hq⟩ := h
    rfl
  · obtain ⟨s, rfl, ⟨x, y, z, rfl⟩, hq⟩ := h
    refine ⟨⟨_, rfl⟩, ⟨_, rfl⟩, _, _, _, _, rfl, rfl, rfl, rfl, _, 5, rfl, ⟨_, _, _, rfl⟩, by decide, by decide, fun a s1 a0 a1 w1 s1' e1 => ?_⟩
    cases e1
    obtain ⟨x1, y1, z1, rfl⟩ := w1
    refine ⟨_, _, rfl, rfl, _, _, rfl, rfl, ⟨_, rfl⟩, _, _, _, _, rfl, rfl, rfl, rfl, _, 24, rfl, ⟨_, _, _, rfl⟩, by decide, by decide, fun b s2 b0 b1 w2 s2' e2 => ?_⟩
    cases e2
    obtain ⟨x2, y2, z2, rfl⟩ := w2
    refine ⟨_, _, rfl, rfl, _, _, rfl, rfl, _, _, rfl, (by show 2 ≤ sizeLine; rw [sizeLine_eq]; decide), ⟨_, rfl⟩, _, _, _, _, rfl, rfl, rfl, rfl, _, 2, rfl, ⟨_, _, _, rfl⟩, by decide, by decide, fun j s3 j0 j1 w3 s3' e3 => ?_⟩
    cases e3
    obtain ⟨x3, y3, z3, rfl⟩ := w3
    obtain ⟨m, m1, m2, em⟩ : ∃ m : Nat, 1 ≤ m ∧ m ≤ 24 ∧ ixD (.lst [.int (1 + a), .int (1 + b)]) j = some (.int m) := by
      have hj : j = 0 ∨ j = 1 := by omega
      rcases hj with rfl | rfl
      · exact ⟨(1 + a).toNat, by omega, by omega, by rw [Int.toNat_of_nonneg (by omega)]; rfl⟩
      · exact ⟨(1 + b).toNat, by omega, by omega, by rw [Int.toNat_of_nonneg (by omega)]; rfl⟩
    refine ⟨_, _, rfl, rfl, _, _, rfl, em, _, _, _, _, rfl, rfl, rfl, rfl, _, m, rfl, ⟨_, _, _, rfl⟩, m1, m2, fun s4 xs w4 hl hnd hok s4' e4 => ?_⟩
    cases e4
    obtain ⟨x4, y4, z4, rfl⟩ := w4
    refine ⟨_, _, rfl, _, _, rfl, rfl, _, _, rfl, rfl, ⟨by decide, by decide, by decide⟩, _, _, rfl, rfl, _, _, rfl, rfl, _, _, rfl, (by show 4 ≤ sizeLine; rw [sizeLine_eq]; decide), ⟨_, rfl⟩, _, _, _, _, rfl, rfl, rfl, rfl, _, 4, rfl, ⟨_, _, _, rfl⟩, by decide, by decide, fun k s5 k0 k1 w5 s5' e5 => ?_⟩
    cases e5
    obtain ⟨x5, y5, z5, rfl⟩ := w5
    obtain ⟨M, M0, M1, eM⟩ : ∃ M : Int, 0 < M ∧ M ≤ 1000001 ∧ ixD (.lst [.int 3, .int 10, .int 1000, .int (10 ^ (6 : Int).toNat + 1)]) k = some (.int M) := by
      have hk : k = 0 ∨ k = 1 ∨ k = 2 ∨ k = 3 := by omega
      rcases hk with rfl | rfl | rfl | rfl
      · exact ⟨3, by decide, by decide, rfl⟩
      · exact ⟨10, by decide, by decide, rfl⟩
      · exact ⟨1000, by decide, by decide, rfl⟩
      · exact ⟨1000001, by decide, by decide, rfl⟩
    refine ⟨_, _, rfl, rfl, _, _, rfl, eM, _, _, rfl, ?_⟩
    refine ⟨⟨_, rfl⟩, _, _, rfl, _, rfl, ?_, rfl, fun i acc E => ∃ (s : Sl) (vs : List Int), well s ∧ acc = vs.map .int ∧ vs.length = i ∧ (∀ v ∈ vs, 0 ≤ v ∧ v < M) ∧ E = [s, .dat (.lst (xs.map .str)), .dat (.int M), .no, .no, .no], ⟨_, [], ⟨_, _, _, rfl⟩, rfl, rfl, (fun v hv => by cases hv), rfl⟩, fun i acc d E' hk ⟨s, vs, hw, ha, hlv, hv, hE⟩ => ?_, fun acc E' ⟨s, vs, hw, ha, hlv, hv, hE⟩ => ?_⟩
    · rw [List.length_map, hl, sizeLine_eq]
      omega
    · subst hE
      obtain ⟨x6, y6, z6, rfl⟩ := hw
      refine ⟨⟨_, rfl⟩, ⟨_, rfl⟩, _, _, _, _, rfl, rfl, rfl, rfl, _, M, rfl, ⟨_, _, _, rfl⟩, M0, by omega, fun v s7 v0 v1 w7 s7' e7 => ?_⟩
      cases e7
      refine ⟨_, _, rfl, s7, vs ++ [v], w7, by rw [ha, List.map_append]; rfl, by rw [List.length_append, hlv]; rfl, fun u hu => ?_, rfl⟩
      rcases List.mem_append.mp hu with hu | hu
      · exact hv u hu
      · rw [List.mem_singleton.mp hu]
        exact ⟨v0, v1⟩
    · subst hE ha
      obtain ⟨x6, y6, z6, rfl⟩ := hw
      rw [List.length_map, hl] at hlv
      refine ⟨by show 3 < 6; decide, ⟨_, rfl⟩, ⟨_, rfl⟩, _, rfl, _, _, rfl, rfl, _, _, _, _, rfl, rfl, rfl, rfl, _, ((xs.map D.str).length : Int), rfl, ⟨_, _, _, rfl⟩, by rw [List.length_map]; omega, by rw [List.length_map]; omega, fun q s8 q0 q1 w8 s8' e8 => ?_⟩
      cases e8
      obtain ⟨x8, y8, z8, rfl⟩ := w8
      rw [List.length_map] at q1
      refine ⟨_, _, rfl, ⟨_, rfl⟩, ⟨_, rfl⟩, _, _, rfl, rfl, _, _, rfl, int_ix q0 (by omega), _, rfl, ?_⟩
      have hmem : vs.getD q.toNat 0 ∈ vs := by
        rw [List.getD_eq_getElem?_getD, List.getElem?_eq_getElem (by omega)]
        exact List.getElem_mem _
      have hb := hv _ hmem
      have hg := good_zip (xs := xs) (vs := vs) (j := q.toNat) (w := if vs.getD q.toNat 0 > 1 then vs.getD q.toNat 0 else 1) (by omega) (by omega) (by omega) hnd hok (fun v h => by have := hv v h; omega) (by omega) (by split <;> omega) (by split <;> omega)
      have hq' := hq _ _ ⟨x8, y8, z8, rfl⟩ hg
      rw [← zip_rows, List.map_set] at hq'
      refine ⟨1, _, rfl, _, _, rfl, ⟨_, rfl⟩, ⟨_, rfl⟩, q, _, q.toNat, rfl, rfl, ixN_ok q0 (by rw [List.length_map]; omega), ⟨_, rfl⟩, ⟨_, rfl⟩, _, _, _, _, _, _, rfl, rfl, rfl, _, _, rfl, rfl, ?_, hq'⟩
      rw [List.length_map, hl, sizeLine_eq]
      omega

abbrev s__law_units : Stmt := topS 29
theorem sc__law_units : FnScope ["_law_mass", "_law_rows", "_law_turn", "_law_whole", "_law_units_here", "_law_rests", "_law_places", "_law_k", "_law_name", "_law_part"] ["_law_mass", "_law_rows", "_law_turn"] (defScope s__law_units) := ⟨rfl, rfl, rfl, by decide +kernel, rfl, by decide +kernel, by decide +kernel⟩
theorem ok__law_units {f : Addr} {fd : FuncData} (F : FunD K "_law_units" "_law_units" (defArgs s__law_units) (defBody s__law_units) (defScope s__law_units) [] [] f fd) (L : LamFn K mg base "_law_units" f) (m_sum : mg "sum" = none) (m_sorted : mg "sorted" = none) (m_range : mg "range" = none) (m_len : mg "len" = none) : FnOk P w K mg base CX0 1 f fd ["_law_mass", "_law_rows", "_law_turn"] (FnSp K [] T__law_units) := by
  refine F.okDL (bs := []) sc__law_units (fun args QD h => ?_) L.at_ (fun cdv A outer s H E hcv hr => (dss_cons (ds_set (ps_set (i := 3) sc__law_units.nd rfl (Or.inr rfl) (de_blt (cr_sum rfl) ok_sum (by rfl) m_sum (by decide +kernel) (da_cons (de_own (de_lc (own := [("_law_name", 8), ("_law_part", 9)]) rfl sc__law_units.nd (di_list (de_var (pv 1))) (blkOk_by (N := ["_law_mass", "_law_rows", "_law_turn", "_law_whole", "_law_units_here", "_law_rests", "_law_places", "_law_k", "_law_name", "_law_part"]) (sc := defScope s__law_units) (by decide +kernel)) (fun _ _ _ _ _ => (dg_tup (n := 2) rfl (dgs_cons (dg_name (pg_name (i := 8) sc__law_units.nd rfl (Or.inl rfl))) (dgs_cons (dg_name (pg_name (i := 9) sc__law_units.nd rfl (Or.inl rfl))) dgs_nil)))) (fun _ _ _ _ _ => dts_nil) (fun _ _ _ _ _ => (de_var (pv 9))))) da_nil))))
      (dss_cons (ds_setO (ps_set (i := 4) sc__law_units.nd rfl (Or.inr rfl) (de_lc (own := [("_law_name", 8), ("_law_part", 9)]) rfl sc__law_units.nd (di_list (de_var (pv 1))) (blkOk_by (N := ["_law_mass", "_law_rows", "_law_turn", "_law_whole", "_law_units_here", "_law_rests", "_law_places", "_law_k", "_law_name", "_law_part"]) (sc := defScope s__law_units) (by decide +kernel)) (fun _ _ _ _ _ => (dg_tup (n := 2) rfl (dgs_cons (dg_name (pg_name (i := 8) sc__law_units.nd rfl (Or.inl rfl))) (dgs_cons (dg_name (pg_name (i := 9) sc__law_units.nd rfl (Or.inl rfl))) dgs_nil)))) (fun _ _ _ _ _ => dts_nil) (fun _ _ _ _ _ => (de_op op_fdivW ok_I (de_op op_mulX ok_I (de_var (pv 0)) (de_var (pv 9))) (de_var (pv 3)))))))
      (dss_cons (ds_setO (ps_set (i := 5) sc__law_units.nd rfl (Or.inr rfl) (de_lc (own := [("_law_k", 7)]) rfl sc__law_units.nd (di_range1 (by rfl) m_range (da_cons (de_blt call_len ok_len (by rfl) m_len (by decide +kernel) (da_cons (de_var (pv 1)) da_nil)) da_nil)) (blkOk_by (N := ["_law_mass", "_law_rows", "_law_turn", "_law_whole", "_law_units_here", "_law_rests", "_law_places", "_law_k", "_law_name", "_law_part"]) (sc := defScope s__law_units) (by decide +kernel)) (fun _ _ _ _ _ => (dg_name (pg_name (i := 7) sc__law_units.nd rfl (Or.inl rfl)))) (fun _ _ _ _ _ => dts_nil) (fun _ _ _ _ _ => (de_op op_sub ok_I0 (de_op op_mulX ok_I (de_var (pv 0)) (de_ix ix_seq ok_ix (de_ix ix_seq ok_ix (de_var (pv 1)) (de_var (pv 7))) de_int)) (de_op op_mulX ok_I (de_ix ix_seq ok_ix (de_var (pv 4)) (de_var (pv 7))) (de_var (pv 3))))))))
      (dss_cons (ds_lc (i := 6) (own := [("_law_k", 7)]) rfl sc__law_units.nd rfl rfl (sw_true rfl rfl rfl (by decide +kernel)) (di_range1 (by rfl) m_range (da_cons (de_blt call_len ok_len (by rfl) m_len (by decide +kernel) (da_cons (de_var (pv 1)) da_nil)) da_nil)) (blkOk_by (N := ["_law_mass", "_law_rows", "_law_turn", "_law_whole", "_law_units_here", "_law_rests", "_law_places", "_law_k", "_law_name", "_law_part"]) (sc := defScope s__law_units) (by decide +kernel)) (fun _ _ _ _ _ => (dg_name (pg_name (i := 7) sc__law_units.nd rfl (Or.inl rfl)))) (fun _ _ _ _ _ => (dts_one (dt_cmp op_gt ok_B0 (de_ix ix_seq ok_ix (de_ix ix_seq ok_ix (de_var (pv 1)) (de_var (pv 7))) de_int) de_int (nomark _)))) (fun _ _ _ _ _ => (de_var (pv 7))))
      (dss_cons (ds_if (dt_cmp op_eq ok_eq (de_var (pv 2)) de_str (nomark _)) (dss_one (ds_setO (ps_set (i := 6) sc__law_units.nd rfl (Or.inl rfl) (de_revL (de_var (pv 6)))))) dss_nil)
      (dss_cons (ds_if (dt_cmp op_eq ok_eq (de_var (pv 2)) de_str (nomark _)) (dss_one (ds_setO (ps_set (i := 6) sc__law_units.nd rfl (Or.inl rfl) (de_sortL (i := 5) L rfl hcv rfl m_sorted hr ⟨rfl, rfl, rfl, by decide +kernel, rfl, rfl, by decide, by decide, by decide⟩ rfl rfl rfl (de_var (pv 6)))))) dss_nil)
      (dss_cons (ds_for PassesOwn.never rfl (di_list (de_own (de_slL (de_var (pv 6)) dp_none (dp_some (de_op op_sub ok_I0 (de_var (pv 0)) (de_blt (cr_sum rfl) ok_sum (by rfl) m_sum (by decide +kernel) (da_cons (de_var (pv 4)) da_nil))))))) (dg_name (own := [7]) (pg_name (i := 7) sc__law_units.nd rfl (Or.inl rfl)))
      (dss_one (ds_setIt (ps_asg (de_op op_add ok_I0 (de_ix ix_seq ok_ix (de_var (pv 4)) (de_var (pv 7))) de_int) (pg_sub (pv 4) (de_var (pv 7)) set_list)))))
      (dss_one (ds_retO (de_take (pv 4)))))))))))) (fun args QD h => ?_)
  · obtain ⟨m, ps, z, rfl, hg, h0, h1, hz, hq⟩ := h
    rfl
  · obtain ⟨m, ps, z, rfl, hg, h0, h1, hz, hq⟩ := h
    have n2 := hg.n2
    have lz : ps.length ≤ sizeLine := by
      rw [sizeLine_eq]
      omega
    have hW := whole_pos hg
    have hW2 := whole_le hg
    have hD : ∀ i, CDivW i (wholeP ps) := whole_div hg
    have gW : (ps.map (·.2)).sum = wholeP ps := rfl
    refine ⟨⟨_, rfl⟩, _, _, rfl, _, rfl, lc_mapE (xs := ps) (emb := rowD) (fun p => .int p.2) ((ps.map (·.2)).map .int) [.dat (.int m), .dat (shD ps), .dat (.str z), .no, .no, .no, .no, .no, .no, .no] (by rw [List.map_map]; rfl) lz (fun i p _ R hR => ⟨_, rfl, rfl, _, _, rfl, _, _, rfl, rfl, ⟨_, rfl⟩, _, _, rfl, hR⟩) ?_⟩
    refine ⟨_, rfl, _, ps.map (·.2), rfl, .inl rfl, _, _, rfl, ?_⟩
    rw [gW]
    refine ⟨⟨_, rfl⟩, _, _, rfl, _, rfl, lc_mapE (xs := ps) (emb := rowD) (fun p => .int (m * p.2 / wholeP ps)) ((unitsP m ps).map .int) [.dat (.int m), .dat (shD ps), .dat (.str z), .dat (.int (wholeP ps)), .no, .no, .no, .no, .no, .no] (by unfold unitsP; rw [List.map_map]; rfl) lz (fun i p hp R hR => ?_) ?_⟩
    · have pm := List.mem_of_getElem? hp
      exact ⟨_, rfl, rfl, _, _, rfl, _, _, rfl, rfl, ⟨_, rfl⟩, ⟨_, rfl⟩, _, _, rfl, rfl, _, _, rfl, rfl, part_small hg pm m, ⟨_, rfl⟩, _, _, rfl, rfl, _, _, rfl, rfl, hD _, _, _, rfl, hR⟩
    refine ⟨by show 4 < 10; decide, ⟨_, rfl⟩, _, rfl, _, _, rfl, rfl, ps.length, by show some _ = some _; rw [List.length_map], by omega, by omega, ?_⟩
    refine lc_mapE (xs := List.range ps.length) (emb := fun i => .int ((0 : Int) + (i : Nat))) (fun i => .int ((restsP m ps).getD i 0)) ((restsP m ps).map .int) [.dat (.int m), .dat (shD ps), .dat (.str z), .dat (.int (wholeP ps)), .ml ((unitsP m ps).map .int), .no, .no, .no, .no, .no] (map_getD (rests_length m ps)) (by rw [List.length_range]; exact lz) (fun i j hj R hR => ?_) ?_
    · have hlt : j < ps.length := List.mem_range.mp (List.mem_of_getElem? hj)
      have ra := row_at hlt
      have hu : ixD (.lst ((unitsP m ps).map .int)) ((0 : Int) + (j : Nat)) = some (.int (m * (ps.getD j ("", 0)).2 / wholeP ps)) := by
        rw [int_ix (by omega) (by rw [units_length]; omega)]
        have e : ((0 : Int) + (j : Nat)).toNat = j := by omega
        rw [e, units_get m hlt]
      have hp : ps.getD j ("", 0) ∈ ps := by
        rw [List.getD_eq_getElem?_getD, List.getElem?_eq_getElem hlt]
        exact List.getElem_mem _
      have hs := part_small hg hp m
      rw [rests_get m hlt] at hR
      revert hR ra hu hs
      generalize ps.getD j ("", 0) = p
      intro hR ra hu hs
      have r1 : ixD (rowD p) 1 = some (.int p.2) := rfl
      have eR : m * p.2 - m * p.2 / wholeP ps * wholeP ps = m * p.2 % wholeP ps := by
        have := Int.emod_add_mul_ediv (m * p.2) (wholeP ps)
        rw [Int.mul_comm (wholeP ps)] at this
        omega
      rw [← eR] at hR
      exact ⟨⟨_, rfl⟩, ⟨_, rfl⟩, ⟨_, rfl⟩, _, _, rfl, rfl, _, _, rfl, ra, _, _, rfl, rfl, _, _, rfl, r1, _, _, rfl, rfl, _, _, rfl, rfl, hs, ⟨_, rfl⟩, ⟨_, rfl⟩, _, _, rfl, rfl, _, _, rfl, hu, ⟨_, rfl⟩, _, _, rfl, rfl, _, _, rfl, rfl, mulR (by omega) (by omega), _, _, rfl, rfl, _, _, rfl, rfl, _, _, rfl, hR⟩
    refine ⟨by show 5 < 10; decide, ⟨_, rfl⟩, _, rfl, _, _, rfl, rfl, ps.length, by show some _ = some _; rw [List.length_map], by omega, by omega, ?_⟩
    refine lc_fmE (xs := List.range ps.length) (emb := fun i => .int ((0 : Int) + (i : Nat))) (fun i => if 0 < (ps.getD i ("", 0)).2 then some (D.int ((0 : Int) + (i : Nat))) else none) ((placesP ps).map .int) [.dat (.int m), .dat (shD ps), .dat (.str z), .dat (.int (wholeP ps)), .ml ((unitsP m ps).map .int), .ml ((restsP m ps).map .int), .no, .no, .no, .no] (places_fm ps) (by rw [List.length_range]; exact lz) (fun i j hj R hR => ?_) ?_
    · have hlt : j < ps.length := List.mem_range.mp (List.mem_of_getElem? hj)
      have ra := row_at hlt
      revert hR ra
      generalize ps.getD j ("", 0) = p
      intro hR ra
      have r1 : ixD (rowD p) 1 = some (.int p.2) := rfl
      by_cases h : 0 < p.2
      · rw [if_pos h] at hR
        refine ⟨⟨_, rfl⟩, ⟨_, rfl⟩, _, _, rfl, rfl, _, _, rfl, ra, _, _, rfl, rfl, _, _, rfl, r1, _, _, rfl, rfl, _, _, rfl, rfl, _, rfl, ?_⟩
        rw [decide_eq_true (show p.2 > 0 from h)]
        exact iteT ⟨⟨_, rfl⟩, _, _, rfl, hR⟩
      · rw [if_neg h] at hR
        refine ⟨⟨_, rfl⟩, ⟨_, rfl⟩, _, _, rfl, rfl, _, _, rfl, ra, _, _, rfl, rfl, _, _, rfl, r1, _, _, rfl, rfl, _, _, rfl, rfl, _, rfl, ?_⟩
        rw [decide_eq_false (show ¬ p.2 > 0 from h)]
        exact iteF hR
    refine ⟨by show 6 < 10; decide, ?_⟩
    rw [partP_eq hg] at hq
    have hz3 : z = "first" ∨ z = "last" ∨ z = "greatest" := by simpa [turns] using hz
    have h0l := left_nn (m := m) hg
    have fl : eqS (.str "first") (.str "last") = some false := congrArg some (decide_eq_false (by decide))
    have fg : eqS (.str "first") (.str "greatest") = some false := congrArg some (decide_eq_false (by decide))
    have ll : eqS (.str "last") (.str "last") = some true := congrArg some (decide_eq_true rfl)
    have lg : eqS (.str "last") (.str "greatest") = some false := congrArg some (decide_eq_false (by decide))
    have gl : eqS (.str "greatest") (.str "last") = some false := congrArg some (decide_eq_false (by decide))
    have gg : eqS (.str "greatest") (.str "greatest") = some true := congrArg some (decide_eq_true rfl)
    have pF : placesZ "first" m ps = placesP ps := if_pos rfl
    have pL : placesZ "last" m ps = (placesP ps).reverse := (if_neg (by decide)).trans (if_pos rfl)
    have pG : placesZ "greatest" m ps = (placesP ps).mergeSort (DK.leBy (restsP m ps)) := (if_neg (by decide)).trans (if_neg (by decide))
    have lenP : (placesP ps).length ≤ 24 := by
      unfold placesP
      refine Nat.le_trans (List.length_filter_le _ _) ?_
      rw [List.length_map, List.length_range]
      exact n2
    rcases hz3 with rfl | rfl | rfl
    · refine ⟨⟨_, rfl⟩, _, _, rfl, rfl, _, fl, _, rfl, iteF ?_⟩
      refine ⟨⟨_, rfl⟩, _, _, rfl, rfl, _, fg, _, rfl, iteF ?_⟩
      rw [← pF]
      refine ⟨⟨_, rfl⟩, ⟨_, rfl⟩, ⟨_, rfl⟩, _, rfl, _, unitsP m ps, rfl, .inl rfl, _, _, rfl, rfl, _, _, rfl, rfl, _, rfl, _, _, rfl, rfl, _, _, rfl, _, rfl, fun k E => ∃ s6 s7, E = [.dat (.int m), .dat (shD ps), .dat (.str "first"), .dat (.int (wholeP ps)), .ml ((addAt (unitsP m ps) (((placesZ "first" m ps).take (m - (unitsP m ps).sum).toNat).take k)).map .int), .ml ((restsP m ps).map .int), s6, s7, .no, .no], ⟨_, _, rfl⟩, fun k d E' hk ⟨s6, s7, hE⟩ => ?_, fun E' ⟨s6, s7, hE⟩ => ?_⟩
      · subst hE
        rw [cut_to h0l, ← List.map_take, List.getElem?_map] at hk
        obtain ⟨j, hj, ed⟩ := Option.map_eq_some_iff.mp hk
        subst ed
        obtain ⟨j0, j1⟩ := placesZ_mem (List.mem_of_mem_take (List.mem_of_getElem? hj))
        have hlen : (addAt (unitsP m ps) (((placesZ "first" m ps).take (m - (unitsP m ps).sum).toNat).take k)).length = ps.length := by
          rw [addAt_length, units_length]
        refine ⟨⟨_, rfl⟩, ⟨_, rfl⟩, _, _, rfl, rfl, _, _, rfl, int_ix j0 (by rw [hlen]; exact j1), _, _, rfl, rfl, _, _, rfl, rfl, _, _, rfl, ⟨_, rfl⟩, ⟨_, rfl⟩, j, _, j.toNat, rfl, rfl, ixN_ok j0 (by rw [List.length_map, hlen]; exact j1), s6, .dat (.int j), ?_⟩
        rw [take_get hj, addAt_snoc, List.map_set]
        rfl
      · subst hE
        rw [cut_to h0l, ← List.map_take, List.length_map, List.take_length]
        exact ⟨_, rfl, rfl, hq⟩
    · refine ⟨⟨_, rfl⟩, _, _, rfl, rfl, _, ll, _, rfl, iteT ?_⟩
      refine ⟨⟨_, rfl⟩, _, _, rfl, rfl, by show 6 < 10; decide, ?_⟩
      refine ⟨⟨_, rfl⟩, _, _, rfl, rfl, _, lg, _, rfl, iteF ?_⟩
      rw [← List.map_reverse, ← pL]
      refine ⟨⟨_, rfl⟩, ⟨_, rfl⟩, ⟨_, rfl⟩, _, rfl, _, unitsP m ps, rfl, .inl rfl, _, _, rfl, rfl, _, _, rfl, rfl, _, rfl, _, _, rfl, rfl, _, _, rfl, _, rfl, fun k E => ∃ s6 s7, E = [.dat (.int m), .dat (shD ps), .dat (.str "last"), .dat (.int (wholeP ps)), .ml ((addAt (unitsP m ps) (((placesZ "last" m ps).take (m - (unitsP m ps).sum).toNat).take k)).map .int), .ml ((restsP m ps).map .int), s6, s7, .no, .no], ⟨_, _, rfl⟩, fun k d E' hk ⟨s6, s7, hE⟩ => ?_, fun E' ⟨s6, s7, hE⟩ => ?_⟩
      · subst hE
        rw [cut_to h0l, ← List.map_take, List.getElem?_map] at hk
        obtain ⟨j, hj, ed⟩ := Option.map_eq_some_iff.mp hk
        subst ed
        obtain ⟨j0, j1⟩ := placesZ_mem (List.mem_of_mem_take (List.mem_of_getElem? hj))
        have hlen : (addAt (unitsP m ps) (((placesZ "last" m ps).take (m - (unitsP m ps).sum).toNat).take k)).length = ps.length := by
          rw [addAt_length, units_length]
        refine ⟨⟨_, rfl⟩, ⟨_, rfl⟩, _, _, rfl, rfl, _, _, rfl, int_ix j0 (by rw [hlen]; exact j1), _, _, rfl, rfl, _, _, rfl, rfl, _, _, rfl, ⟨_, rfl⟩, ⟨_, rfl⟩, j, _, j.toNat, rfl, rfl, ixN_ok j0 (by rw [List.length_map, hlen]; exact j1), s6, .dat (.int j), ?_⟩
        rw [take_get hj, addAt_snoc, List.map_set]
        rfl
      · subst hE
        rw [cut_to h0l, ← List.map_take, List.length_map, List.take_length]
        exact ⟨_, rfl, rfl, hq⟩
    · refine ⟨⟨_, rfl⟩, _, _, rfl, rfl, _, gl, _, rfl, iteF ?_⟩
      refine ⟨⟨_, rfl⟩, _, _, rfl, rfl, _, gg, _, rfl, iteT ?_⟩
      refine ⟨⟨_, rfl⟩, _, placesP ps, rfl, .inl rfl, _, restsP m ps, rfl, .inl rfl, (fun j hj => by rw [rests_length]; exact placesP_mem hj), by rw [sizeLine_eq]; omega, by show 6 < 10; decide, ?_⟩
      rw [← pG]
      refine ⟨⟨_, rfl⟩, ⟨_, rfl⟩, ⟨_, rfl⟩, _, rfl, _, unitsP m ps, rfl, .inl rfl, _, _, rfl, rfl, _, _, rfl, rfl, _, rfl, _, _, rfl, rfl, _, _, rfl, _, rfl, fun k E => ∃ s6 s7, E = [.dat (.int m), .dat (shD ps), .dat (.str "greatest"), .dat (.int (wholeP ps)), .ml ((addAt (unitsP m ps) (((placesZ "greatest" m ps).take (m - (unitsP m ps).sum).toNat).take k)).map .int), .ml ((restsP m ps).map .int), s6, s7, .no, .no], ⟨_, _, rfl⟩, fun k d E' hk ⟨s6, s7, hE⟩ => ?_, fun E' ⟨s6, s7, hE⟩ => ?_⟩
      · subst hE
        rw [cut_to h0l, ← List.map_take, List.getElem?_map] at hk
        obtain ⟨j, hj, ed⟩ := Option.map_eq_some_iff.mp hk
        subst ed
        obtain ⟨j0, j1⟩ := placesZ_mem (List.mem_of_mem_take (List.mem_of_getElem? hj))
        have hlen : (addAt (unitsP m ps) (((placesZ "greatest" m ps).take (m - (unitsP m ps).sum).toNat).take k)).length = ps.length := by
          rw [addAt_length, units_length]
        refine ⟨⟨_, rfl⟩, ⟨_, rfl⟩, _, _, rfl, rfl, _, _, rfl, int_ix j0 (by rw [hlen]; exact j1), _, _, rfl, rfl, _, _, rfl, rfl, _, _, rfl, ⟨_, rfl⟩, ⟨_, rfl⟩, j, _, j.toNat, rfl, rfl, ixN_ok j0 (by rw [List.length_map, hlen]; exact j1), s6, .dat (.int j), ?_⟩
        rw [take_get hj, addAt_snoc, List.map_set]
        rfl
      · subst hE
        rw [cut_to h0l, ← List.map_take, List.length_map, List.take_length]
        exact ⟨_, rfl, rfl, hq⟩

abbrev s__law_weight : Stmt := topS 30
theorem sc__law_weight : FnScope ["_law_well_here", "_law_small", "_law_great"] ["_law_well_here"] (defScope s__law_weight) := ⟨rfl, rfl, rfl, by decide +kernel, rfl, by decide +kernel, by decide +kernel⟩
theorem ok__law_weight {f : Addr} {fd : FuncData} (F : FunD K "_law_weight" "_law_weight" (defArgs s__law_weight) (defBody s__law_weight) (defScope s__law_weight) [] [] f fd) (d__law_draw : Dn P w K mg base 1 "_law_draw" ["_law_well_here", "_law_most"] [0] T__law_draw []) : FnOk P w K mg base CX0 2 f fd ["_law_well_here"] (FnSp K [0] T__law_weight) := by
  refine F.okD (bs := [0]) sc__law_weight (fun args QD h => ?_) (fun cdv A outer s H E hr => (dss_cons (ds_set (ps_set (i := 1) sc__law_weight.nd rfl (Or.inl rfl) (de_calB 0 d__law_draw hr (da_cons (de_var (pv 0)) (da_cons de_int da_nil)))))
      (dss_cons (ds_set (ps_set (i := 2) sc__law_weight.nd rfl (Or.inl rfl) (de_calB 0 d__law_draw hr (da_cons (de_var (pv 0)) (da_cons (de_op op_pow ok_I de_int de_int) da_nil)))))
      (dss_one (ds_ret (de_ix ix_seq ok_ix (de_own (de_lst (da_cons (de_var (pv 1)) (da_cons (de_var (pv 2)) (da_cons (de_op op_add ok_I0 (de_op op_mulX ok_I (de_var (pv 2)) de_int) (de_var (pv 1))) (da_cons (de_op op_add ok_I0 (de_op op_mulX ok_I (de_var (pv 2)) (de_op op_pow ok_I de_int de_int)) (de_op op_pow ok_I de_int de_int)) (da_cons de_int (da_cons (de_op op_fdivW ok_I (de_var (pv 1)) de_int) da_nil)))))))) (de_calB 0 d__law_draw hr (da_cons (de_var (pv 0)) (da_cons de_int da_nil))))))))) (fun args QD h => ?_)
  · obtain ⟨s, rfl, hw, hq⟩ := h
    rfl
  · obtain ⟨s, rfl, ⟨x, y, z, rfl⟩, hq⟩ := h
    refine ⟨⟨_, rfl⟩, _, _, _, _, rfl, rfl, rfl, rfl, _, 200, rfl, ⟨_, _, _, rfl⟩, by decide, by decide, fun v s1 v0 v1 w1 s1' e1 => ?_⟩
    cases e1
    obtain ⟨x1, y1, z1, rfl⟩ := w1
    refine ⟨_, _, rfl, ⟨_, rfl⟩, _, _, rfl, rfl, _, _, rfl, rfl, ⟨by decide, by decide, by decide⟩, _, _, _, _, rfl, rfl, rfl, rfl, _, 1000000000, rfl, ⟨_, _, _, rfl⟩, by decide, by decide, fun u s2 u0 u1 w2 s2' e2 => ?_⟩
    cases e2
    obtain ⟨x2, y2, z2, rfl⟩ := w2
    refine ⟨_, _, rfl, ⟨_, rfl⟩, ⟨_, rfl⟩, ⟨_, rfl⟩, _, _, rfl, rfl, _, _, rfl, rfl, mulR (by decide) (by decide), ⟨_, rfl⟩, _, _, rfl, rfl, _, _, rfl, rfl, ⟨_, rfl⟩, ?_⟩
    refine ⟨_, _, rfl, rfl, _, _, rfl, rfl, ⟨by decide, by decide, by decide⟩, _, _, rfl, rfl, _, _, rfl, rfl, mulL (by omega) (by omega), _, _, rfl, rfl, _, _, rfl, rfl, ⟨by decide, by decide, by decide⟩, _, _, rfl, rfl, _, _, rfl, rfl, ⟨_, rfl⟩, _, _, rfl, rfl, _, _, rfl, rfl, divW (b := 40) (by decide) (by decide), _, _, rfl, ?_, ⟨_, rfl⟩, _, _, _, _, rfl, rfl, rfl, rfl, _, 6, rfl, ⟨_, _, _, rfl⟩, by decide, by decide, fun k s3 k0 k1 w3 s3' e3 => ?_⟩
    · show 6 ≤ sizeLine
      rw [sizeLine_eq]
      decide
    cases e3
    have hk : k = 0 ∨ k = 1 ∨ k = 2 ∨ k = 3 ∨ k = 4 ∨ k = 5 := by omega
    rcases hk with rfl | rfl | rfl | rfl | rfl | rfl
    · exact ⟨_, _, rfl, rfl, _, _, rfl, rfl, _, _, rfl, hq v _ (by omega) (by omega) w3⟩
    · exact ⟨_, _, rfl, rfl, _, _, rfl, rfl, _, _, rfl, hq u _ (by omega) (by omega) w3⟩
    · exact ⟨_, _, rfl, rfl, _, _, rfl, rfl, _, _, rfl, hq (u * 1000 + v) _ (by omega) (by omega) w3⟩
    · exact ⟨_, _, rfl, rfl, _, _, rfl, rfl, _, _, rfl, hq (u * 10 ^ (30 : Int).toNat + 10 ^ (39 : Int).toNat) _ (by show 0 ≤ u * 1000000000000000000000000000000 + 1000000000000000000000000000000000000000; omega) (by show u * 1000000000000000000000000000000 + 1000000000000000000000000000000000000000 < 1461501637330902918203684832716283019655932542976; omega) w3⟩
    · exact ⟨_, _, rfl, rfl, _, _, rfl, rfl, _, _, rfl, hq 0 _ (by omega) (by omega) w3⟩
    · exact ⟨_, _, rfl, rfl, _, _, rfl, rfl, _, _, rfl, hq (v / 4) _ (by omega) (by omega) w3⟩

abbrev s__law_right : Stmt := topS 31
theorem sc__law_right : FnScope ["_law_rows", "_law_mass", "_law_turn", "_law_way", "_law_handed", "_law_found", "_law_units_here", "_law_due", "_law_k", "_law_name", "_law_many"] ["_law_rows", "_law_mass", "_law_turn", "_law_way"] (defScope s__law_right) := ⟨rfl, rfl, rfl, by decide +kernel, rfl, by decide +kernel, by decide +kernel⟩
theorem ok__law_right {f : Addr} {fd : FuncData} (F : FunD K "_law_right" "_law_right" (defArgs s__law_right) (defBody s__law_right) (defScope s__law_right) [] [] f fd) (d_parted : Dn P w K mg base 5 "parted" ["weight", "shares", "to"] [] T_parted []) (m_sum : mg "sum" = none) (m_isinstance : mg "isinstance" = none) (m_list : mg "list" = none) (m_range : mg "range" = none) (m_len : mg "len" = none) (d__law_units : Dn P w K mg base 1 "_law_units" ["_law_mass", "_law_rows", "_law_turn"] [] T__law_units []) (k_parted__1_shares_to : Dk P w K mg base 5 "parted" ["weight", "shares", "to"] T_parted 1 ["shares", "to"] (fun ds es => [ds.getD 0 .non, es.getD 0 .non, es.getD 1 .non])) (k_parted__0_shares_weight_to : Dk P w K mg base 5 "parted" ["weight", "shares", "to"] T_parted 0 ["shares", "weight", "to"] (fun ds es => [es.getD 1 .non, es.getD 0 .non, es.getD 2 .non])) : FnOk P w K mg base CX0 6 f fd ["_law_rows", "_law_mass", "_law_turn", "_law_way"] (FnSp K [] T__law_right) := by
  refine F.okD (bs := []) sc__law_right (fun args QD h => ?_) (fun cdv A outer s H E hr => (dss_cons (ds_setO (ps_set (i := 4) sc__law_right.nd rfl (Or.inl rfl) (de_listOf (by rfl) m_list (de_var (pv 0)))))
      (dss_cons (ds_if (dt_cmp op_eq ok_eq (de_var (pv 3)) de_int (nomark _)) (dss_one (ds_setO (ps_set (i := 5) sc__law_right.nd rfl (Or.inl rfl) (de_calO d_parted hr (da_cons (de_var (pv 1)) (da_cons (de_var (pv 4)) (da_cons (de_var (pv 2)) da_nil))))))) (dss_one (ds_if (dt_cmp op_eq ok_eq (de_var (pv 3)) de_int (nomark _)) (dss_one (ds_setO (ps_set (i := 5) sc__law_right.nd rfl (Or.inl rfl) (de_calKO k_parted__1_shares_to hr (da_cons (de_var (pv 1)) da_nil) (dk_cons (de_var (pv 4)) (dk_cons (de_var (pv 2)) dk_nil)))))) (dss_one (ds_setO (ps_set (i := 5) sc__law_right.nd rfl (Or.inl rfl) (de_calK0O k_parted__0_shares_weight_to hr (dk_cons (de_var (pv 4)) (dk_cons (de_var (pv 1)) (dk_cons (de_var (pv 2)) dk_nil))))))))))
      (dss_cons (ds_setO (ps_set (i := 6) sc__law_right.nd rfl (Or.inr rfl) (de_calO d__law_units hr (da_cons (de_var (pv 1)) (da_cons (de_var (pv 0)) (da_cons (de_var (pv 2)) da_nil))))))
      (dss_cons (ds_lc (i := 7) (own := [("_law_k", 8)]) rfl sc__law_right.nd rfl rfl (sw_true rfl rfl rfl (by decide +kernel)) (di_range1 (by rfl) m_range (da_cons (de_blt call_len ok_len (by rfl) m_len (by decide +kernel) (da_cons (de_var (pv 0)) da_nil)) da_nil)) (blkOk_by (N := ["_law_rows", "_law_mass", "_law_turn", "_law_way", "_law_handed", "_law_found", "_law_units_here", "_law_due", "_law_k", "_law_name", "_law_many"]) (sc := defScope s__law_right) (by decide +kernel)) (fun _ _ _ _ _ => (dg_name (pg_name (i := 8) sc__law_right.nd rfl (Or.inl rfl)))) (fun _ _ _ _ _ => dts_nil) (fun _ _ _ _ _ => (de_tup (da_cons (de_ix ix_seq ok_ix (de_ix ix_seq ok_ix (de_var (pv 0)) (de_var (pv 8))) de_int) (da_cons (de_ix ix_seq ok_ix (de_var (pv 6)) (de_var (pv 8))) da_nil)))))
      (dss_cons (ds_if (PW.pt (dt_or (dt_not (dt_val (de_blt call_isi (ok_is .list) (by rfl) m_isinstance (by decide +kernel) (da_cons (de_var (pv 5)) (da_cons (de_cls (n := "list") m_list (by decide +kernel)) da_nil))))) (dt_or (dt_cmp (op_neD hr.units) ok_neD (de_var (pv 5)) (de_var (pv 7)) (nomark _)) (pw_or1 (dt_cmp (op_neD hr.units) ok_neD (de_var (pv 4)) (de_var (pv 0)) (nomark _)))))) (dss_one (ds_ret de_bl)) dss_nil)
      (dss_cons (ds_if (dt_cmp op_ne ok_ne (de_blt (cr_sum rfl) ok_sum (by rfl) m_sum (by decide +kernel) (da_cons (de_own (de_lcK (own := [("_law_name", 9), ("_law_many", 10)]) rfl sc__law_right.nd (pv 5)  (blkOk_by (N := ["_law_rows", "_law_mass", "_law_turn", "_law_way", "_law_handed", "_law_found", "_law_units_here", "_law_due", "_law_k", "_law_name", "_law_many"]) (sc := defScope s__law_right) (by decide +kernel)) (fun _ _ _ _ _ => (dg_tup (n := 2) rfl (dgs_cons (dg_name (pg_name (i := 9) sc__law_right.nd rfl (Or.inl rfl))) (dgs_cons (dg_name (pg_name (i := 10) sc__law_right.nd rfl (Or.inl rfl))) dgs_nil)))) (fun _ _ _ _ _ => dts_nil) (fun _ _ _ _ _ => (de_var (pv 10))))) da_nil)) (de_var (pv 1)) (nomark _)) (dss_one (ds_ret de_bl)) dss_nil)
      (dss_cons (ds_expr (de_clear (pe_bm0 PySem.F.plainAttrs_list PySem.F.slot_list_clear PySem.F.type_list_clear mt_clear (pv 5))))
      (dss_one (ds_ret (de_cmp (op_eqD hr.units) ok_eqD (de_own (de_calO d_parted hr (da_cons (de_var (pv 1)) (da_cons (de_var (pv 4)) (da_cons (de_var (pv 2)) da_nil))))) (de_var (pv 7)) (nomark _)))))))))))) (fun args QD h => ?_)
  · obtain ⟨m, ps, z, k, rfl, hg, h0, h1, hz, hq⟩ := h
    rfl
  · obtain ⟨m, ps, z, k, rfl, hg, h0, h1, hz, hq⟩ := h
    have n2 := hg.n2
    have lz : ps.length ≤ sizeLine := by
      rw [sizeLine_eq]
      omega
    have lq : (dueQ m ps z).length ≤ sizeLine := by
      rw [due_length hg]
      exact lz
    have tq : toPy (.lst (dueP m ps z)) = some (.list (pyRows (dueQ m ps z))) := by
      rw [dueP_eq]
      exact lst_py _
    have tp : toPy (shD ps) = some (.list (pyRows ps)) := lst_py ps
    have tq2 : toPy (.lst ((dueQ m ps z).map rowD)) = some (.list (pyRows (dueQ m ps z))) := lst_py _
    have sq := shaped_rows (due_ok (m := m) hg z)
    have sp := shaped_rows hg.nm
    have eq1 := eqv_rows (due_ok (m := m) hg z)
    have eq2 := eqv_rows hg.nm
    have nq : (D.bl (if true = true then !PyData.eqv (.list (pyRows (dueQ m ps z))) (.list (pyRows (dueQ m ps z))) else PyData.eqv (.list (pyRows (dueQ m ps z))) (.list (pyRows (dueQ m ps z))))) = .bl false := by
      rw [eq1]
      rfl
    have np : (D.bl (if true = true then !PyData.eqv (.list (pyRows ps)) (.list (pyRows ps)) else PyData.eqv (.list (pyRows ps)) (.list (pyRows ps)))) = .bl false := by
      rw [eq2]
      rfl
    have yq : (D.bl (if false = true then !PyData.eqv (.list (pyRows (dueQ m ps z))) (.list (pyRows (dueQ m ps z))) else PyData.eqv (.list (pyRows (dueQ m ps z))) (.list (pyRows (dueQ m ps z))))) = .bl true := by
      rw [eq1]
      rfl
    refine ⟨⟨_, rfl⟩, _, _, rfl, .inl rfl, by show 4 < 11; decide, ?_⟩
    by_cases k0 : k = 0
    · refine ⟨⟨_, rfl⟩, _, _, rfl, rfl, true, congrArg some (decide_eq_true k0), _, rfl, iteT ?_⟩
      refine ⟨⟨_, rfl⟩, ⟨_, rfl⟩, ⟨_, rfl⟩, _, _, rfl, m, ps, z, rfl, hg, h0, h1, hz, _, rfl, by show 5 < 11; decide, ?_⟩
      refine ⟨⟨_, rfl⟩, ⟨_, rfl⟩, ⟨_, rfl⟩, _, _, rfl, m, ps, z, rfl, hg, h0, h1, hz, _, rfl, by show 6 < 11; decide, ?_⟩
      refine ⟨⟨_, rfl⟩, _, rfl, _, _, rfl, rfl, ps.length, by show some _ = some _; rw [List.length_map], by omega, by omega, ?_⟩
      refine lc_mapE (xs := List.range ps.length) (emb := fun i => .int ((0 : Int) + (i : Nat))) (fun i => D.tup [.str (ps.getD i ("", 0)).1, .int ((partP m ps z).getD i 0)]) ((dueQ m ps z).map rowD) [.dat (shD ps), .dat (.int m), .dat (.str z), .dat (.int k), .dat (shD ps), .ml (dueP m ps z), .ml ((partP m ps z).map .int), .no, .no, .no, .no] (due_get hg z) (by rw [List.length_range]; exact lz) (fun i j hj R hR => ?_) ?_
      · have hlt : j < ps.length := List.mem_range.mp (List.mem_of_getElem? hj)
        have ra := row_at hlt
        have hu : ixD (.lst ((partP m ps z).map .int)) ((0 : Int) + (j : Nat)) = some (.int ((partP m ps z).getD j 0)) := by
          rw [int_ix (by omega) (by rw [part_length hg]; omega)]
          have e : ((0 : Int) + (j : Nat)).toNat = j := by omega
          rw [e]
        revert hR ra hu
        generalize ps.getD j ("", 0) = p
        generalize (partP m ps z).getD j 0 = u
        intro hR ra hu
        have r0 : ixD (rowD p) 0 = some (.str p.1) := rfl
        exact ⟨⟨_, rfl⟩, ⟨_, rfl⟩, _, _, rfl, rfl, _, _, rfl, ra, _, _, rfl, rfl, _, _, rfl, r0, ⟨_, rfl⟩, ⟨_, rfl⟩, _, _, rfl, rfl, _, _, rfl, hu, _, _, rfl, (by show 2 ≤ sizeLine; rw [sizeLine_eq]; decide), _, _, rfl, hR⟩
      refine ⟨by show 7 < 11; decide, ?_⟩
      refine ⟨⟨_, rfl⟩, _, rfl, _, true, rfl, rfl, _, rfl, iteF ?_⟩
      refine ⟨⟨_, rfl⟩, ⟨_, rfl⟩, _, _, rfl, rfl, _, _, tq, tq2, sq, sq, false, congrArg some nq, iteF ?_⟩
      refine ⟨⟨_, rfl⟩, ⟨_, rfl⟩, _, _, rfl, rfl, _, _, tp, tp, sp, sp, false, congrArg some np, iteF ?_⟩
      refine lcK_mapE (xs := dueQ m ps z) (emb := rowD) (fun p => .int p.2) ((partP m ps z).map .int) [.dat (shD ps), .dat (.int m), .dat (.str z), .dat (.int k), .dat (shD ps), .ml (dueP m ps z), .ml ((partP m ps z).map .int), .ml ((dueQ m ps z).map rowD), .no, .no, .no] (by rw [← due_snd hg z, List.map_map]; rfl) lq (by rw [← dueP_eq]; rfl) (by rw [← dueP_eq]; rfl) (fun i p _ R hR => ⟨_, rfl, rfl, _, _, rfl, _, _, rfl, rfl, ⟨_, rfl⟩, _, _, rfl, hR⟩) ?_
      refine ⟨_, rfl, _, partP m ps z, rfl, .inl rfl, ⟨_, rfl⟩, _, _, rfl, rfl, true, ?_, _, rfl, iteF ?_⟩
      · rw [part_sum hg]
        exact congrArg some (decide_eq_true rfl)
      refine ⟨_, rfl, ?_⟩
      refine ⟨⟨_, rfl⟩, ⟨_, rfl⟩, ⟨_, rfl⟩, _, _, rfl, m, ps, z, rfl, hg, h0, h1, hz, _, rfl, ⟨_, rfl⟩, _, _, rfl, rfl, _, _, tq, tq2, sq, sq, ?_⟩
      rw [yq]
      exact ⟨_, _, rfl, hq⟩
    · refine ⟨⟨_, rfl⟩, _, _, rfl, rfl, false, congrArg some (decide_eq_false k0), _, rfl, iteF ?_⟩
      by_cases k1 : k = 1
      · refine ⟨⟨_, rfl⟩, _, _, rfl, rfl, true, congrArg some (decide_eq_true k1), _, rfl, iteT ?_⟩
        refine ⟨⟨_, rfl⟩, ⟨_, rfl⟩, ⟨_, rfl⟩, _, _, _, _, rfl, rfl, rfl, rfl, m, ps, z, rfl, hg, h0, h1, hz, _, rfl, by show 5 < 11; decide, ?_⟩
        refine ⟨⟨_, rfl⟩, ⟨_, rfl⟩, ⟨_, rfl⟩, _, _, rfl, m, ps, z, rfl, hg, h0, h1, hz, _, rfl, by show 6 < 11; decide, ?_⟩
        refine ⟨⟨_, rfl⟩, _, rfl, _, _, rfl, rfl, ps.length, by show some _ = some _; rw [List.length_map], by omega, by omega, ?_⟩
        refine lc_mapE (xs := List.range ps.length) (emb := fun i => .int ((0 : Int) + (i : Nat))) (fun i => D.tup [.str (ps.getD i ("", 0)).1, .int ((partP m ps z).getD i 0)]) ((dueQ m ps z).map rowD) [.dat (shD ps), .dat (.int m), .dat (.str z), .dat (.int k), .dat (shD ps), .ml (dueP m ps z), .ml ((partP m ps z).map .int), .no, .no, .no, .no] (due_get hg z) (by rw [List.length_range]; exact lz) (fun i j hj R hR => ?_) ?_
        · have hlt : j < ps.length := List.mem_range.mp (List.mem_of_getElem? hj)
          have ra := row_at hlt
          have hu : ixD (.lst ((partP m ps z).map .int)) ((0 : Int) + (j : Nat)) = some (.int ((partP m ps z).getD j 0)) := by
            rw [int_ix (by omega) (by rw [part_length hg]; omega)]
            have e : ((0 : Int) + (j : Nat)).toNat = j := by omega
            rw [e]
          revert hR ra hu
          generalize ps.getD j ("", 0) = p
          generalize (partP m ps z).getD j 0 = u
          intro hR ra hu
          have r0 : ixD (rowD p) 0 = some (.str p.1) := rfl
          exact ⟨⟨_, rfl⟩, ⟨_, rfl⟩, _, _, rfl, rfl, _, _, rfl, ra, _, _, rfl, rfl, _, _, rfl, r0, ⟨_, rfl⟩, ⟨_, rfl⟩, _, _, rfl, rfl, _, _, rfl, hu, _, _, rfl, (by show 2 ≤ sizeLine; rw [sizeLine_eq]; decide), _, _, rfl, hR⟩
        refine ⟨by show 7 < 11; decide, ?_⟩
        refine ⟨⟨_, rfl⟩, _, rfl, _, true, rfl, rfl, _, rfl, iteF ?_⟩
        refine ⟨⟨_, rfl⟩, ⟨_, rfl⟩, _, _, rfl, rfl, _, _, tq, tq2, sq, sq, false, congrArg some nq, iteF ?_⟩
        refine ⟨⟨_, rfl⟩, ⟨_, rfl⟩, _, _, rfl, rfl, _, _, tp, tp, sp, sp, false, congrArg some np, iteF ?_⟩
        refine lcK_mapE (xs := dueQ m ps z) (emb := rowD) (fun p => .int p.2) ((partP m ps z).map .int) [.dat (shD ps), .dat (.int m), .dat (.str z), .dat (.int k), .dat (shD ps), .ml (dueP m ps z), .ml ((partP m ps z).map .int), .ml ((dueQ m ps z).map rowD), .no, .no, .no] (by rw [← due_snd hg z, List.map_map]; rfl) lq (by rw [← dueP_eq]; rfl) (by rw [← dueP_eq]; rfl) (fun i p _ R hR => ⟨_, rfl, rfl, _, _, rfl, _, _, rfl, rfl, ⟨_, rfl⟩, _, _, rfl, hR⟩) ?_
        refine ⟨_, rfl, _, partP m ps z, rfl, .inl rfl, ⟨_, rfl⟩, _, _, rfl, rfl, true, ?_, _, rfl, iteF ?_⟩
        · rw [part_sum hg]
          exact congrArg some (decide_eq_true rfl)
        refine ⟨_, rfl, ?_⟩
        refine ⟨⟨_, rfl⟩, ⟨_, rfl⟩, ⟨_, rfl⟩, _, _, rfl, m, ps, z, rfl, hg, h0, h1, hz, _, rfl, ⟨_, rfl⟩, _, _, rfl, rfl, _, _, tq, tq2, sq, sq, ?_⟩
        rw [yq]
        exact ⟨_, _, rfl, hq⟩
      · refine ⟨⟨_, rfl⟩, _, _, rfl, rfl, false, congrArg some (decide_eq_false k1), _, rfl, iteF ?_⟩
        refine ⟨⟨_, rfl⟩, ⟨_, rfl⟩, ⟨_, rfl⟩, _, _, _, _, rfl, rfl, rfl, rfl, m, ps, z, rfl, hg, h0, h1, hz, _, rfl, by show 5 < 11; decide, ?_⟩
        refine ⟨⟨_, rfl⟩, ⟨_, rfl⟩, ⟨_, rfl⟩, _, _, rfl, m, ps, z, rfl, hg, h0, h1, hz, _, rfl, by show 6 < 11; decide, ?_⟩
        refine ⟨⟨_, rfl⟩, _, rfl, _, _, rfl, rfl, ps.length, by show some _ = some _; rw [List.length_map], by omega, by omega, ?_⟩
        refine lc_mapE (xs := List.range ps.length) (emb := fun i => .int ((0 : Int) + (i : Nat))) (fun i => D.tup [.str (ps.getD i ("", 0)).1, .int ((partP m ps z).getD i 0)]) ((dueQ m ps z).map rowD) [.dat (shD ps), .dat (.int m), .dat (.str z), .dat (.int k), .dat (shD ps), .ml (dueP m ps z), .ml ((partP m ps z).map .int), .no, .no, .no, .no] (due_get hg z) (by rw [List.length_range]; exact lz) (fun i j hj R hR => ?_) ?_
        · have hlt : j < ps.length := List.mem_range.mp (List.mem_of_getElem? hj)
          have ra := row_at hlt
          have hu : ixD (.lst ((partP m ps z).map .int)) ((0 : Int) + (j : Nat)) = some (.int ((partP m ps z).getD j 0)) := by
            rw [int_ix (by omega) (by rw [part_length hg]; omega)]
            have e : ((0 : Int) + (j : Nat)).toNat = j := by omega
            rw [e]
          revert hR ra hu
          generalize ps.getD j ("", 0) = p
          generalize (partP m ps z).getD j 0 = u
          intro hR ra hu
          have r0 : ixD (rowD p) 0 = some (.str p.1) := rfl
          exact ⟨⟨_, rfl⟩, ⟨_, rfl⟩, _, _, rfl, rfl, _, _, rfl, ra, _, _, rfl, rfl, _, _, rfl, r0, ⟨_, rfl⟩, ⟨_, rfl⟩, _, _, rfl, rfl, _, _, rfl, hu, _, _, rfl, (by show 2 ≤ sizeLine; rw [sizeLine_eq]; decide), _, _, rfl, hR⟩
        refine ⟨by show 7 < 11; decide, ?_⟩
        refine ⟨⟨_, rfl⟩, _, rfl, _, true, rfl, rfl, _, rfl, iteF ?_⟩
        refine ⟨⟨_, rfl⟩, ⟨_, rfl⟩, _, _, rfl, rfl, _, _, tq, tq2, sq, sq, false, congrArg some nq, iteF ?_⟩
        refine ⟨⟨_, rfl⟩, ⟨_, rfl⟩, _, _, rfl, rfl, _, _, tp, tp, sp, sp, false, congrArg some np, iteF ?_⟩
        refine lcK_mapE (xs := dueQ m ps z) (emb := rowD) (fun p => .int p.2) ((partP m ps z).map .int) [.dat (shD ps), .dat (.int m), .dat (.str z), .dat (.int k), .dat (shD ps), .ml (dueP m ps z), .ml ((partP m ps z).map .int), .ml ((dueQ m ps z).map rowD), .no, .no, .no] (by rw [← due_snd hg z, List.map_map]; rfl) lq (by rw [← dueP_eq]; rfl) (by rw [← dueP_eq]; rfl) (fun i p _ R hR => ⟨_, rfl, rfl, _, _, rfl, _, _, rfl, rfl, ⟨_, rfl⟩, _, _, rfl, hR⟩) ?_
        refine ⟨_, rfl, _, partP m ps z, rfl, .inl rfl, ⟨_, rfl⟩, _, _, rfl, rfl, true, ?_, _, rfl, iteF ?_⟩
        · rw [part_sum hg]
          exact congrArg some (decide_eq_true rfl)
        refine ⟨_, rfl, ?_⟩
        refine ⟨⟨_, rfl⟩, ⟨_, rfl⟩, ⟨_, rfl⟩, _, _, rfl, m, ps, z, rfl, hg, h0, h1, hz, _, rfl, ⟨_, rfl⟩, _, _, rfl, rfl, _, _, tq, tq2, sq, sq, ?_⟩
        rw [yq]
        exact ⟨_, _, rfl, hq⟩

abbrev s_law : Stmt := topS 32
theorem sc_law : FnScope ["_law_script", "_law_cell", "_law_well_here", "_law_rows", "_law_mass", "_law_turn", "_law_units_here", "_law_k"] ["_law_script"] (defScope s_law) := ⟨rfl, rfl, rfl, by decide +kernel, rfl, by decide +kernel, by decide +kernel⟩
theorem ok_law {f : Addr} {fd : FuncData} (F : FunD K "law" "law" (defArgs s_law) (defBody s_law) (defScope s_law) [] [] f fd) (d__law_cell_at : Dn P w K mg base 1 "_law_cell_at" ["_law_script", "_law_k"] [] T__law_cell_at []) (d_parted_d1 : Dn P w K mg base 5 "parted" ["weight", "shares", "to"] [] T_parted [.str "first"]) (m_range : mg "range" = none) (m_len : mg "len" = none) (d__law_units : Dn P w K mg base 1 "_law_units" ["_law_mass", "_law_rows", "_law_turn"] [] T__law_units []) (d__law_right : Dn P w K mg base 6 "_law_right" ["_law_rows", "_law_mass", "_law_turn", "_law_way"] [] T__law_right []) (d__law_draw : Dn P w K mg base 1 "_law_draw" ["_law_well_here", "_law_most"] [0] T__law_draw []) (d__law_weight : Dn P w K mg base 2 "_law_weight" ["_law_well_here"] [0] T__law_weight []) (d__law_shares : Dn P w K mg base 3 "_law_shares" ["_law_well_here"] [0] T__law_shares []) (d__law_well : Dn P w K mg base 1 "_law_well" ["_law_cell"] [] T__law_well []) : FnOk P w K mg base CX0 7 f fd ["_law_script"] (FnSp K [] T_law) := by
  refine F.okD (bs := []) sc_law (fun args QD h => ?_) (fun cdv A outer s H E hr => (dss_cons (ds_for PassesOwn.never rfl (di_list (de_own (de_cat (de_own (de_lst (da_cons (de_cal d__law_cell_at hr (da_cons (de_var (pv 0)) (da_cons de_int da_nil))) (da_cons de_int da_nil)))) (de_own (de_slL (de_var (pv 0)) (dp_some de_int) (dp_some de_int)))))) (dg_name (own := [1]) (pg_name (i := 1) sc_law.nd rfl (Or.inl rfl)))
      (dss_cons (ds_setO (ps_set (i := 2) sc_law.nd rfl (Or.inl rfl) (de_calO d__law_well hr (da_cons (de_var (pv 1)) da_nil))))
      (dss_cons (ds_set (ps_set (i := 3) sc_law.nd rfl (Or.inr rfl) (de_calB 2 d__law_shares hr (da_cons (de_var (pv 2)) da_nil))))
      (dss_cons (ds_set (ps_set (i := 4) sc_law.nd rfl (Or.inl rfl) (de_calB 2 d__law_weight hr (da_cons (de_var (pv 2)) da_nil))))
      (dss_cons (ds_for PassesOwn.never rfl (di_list (de_own (de_lst (da_cons de_str (da_cons de_str (da_cons de_str da_nil)))))) (dg_name (own := [5]) (pg_name (i := 5) sc_law.nd rfl (Or.inl rfl)))
      (dss_one (ds_if (dt_not (dt_val (de_cal d__law_right hr (da_cons (de_var (pv 3)) (da_cons (de_var (pv 4)) (da_cons (de_var (pv 5)) (da_cons (de_calB 2 d__law_draw hr (da_cons (de_var (pv 2)) (da_cons de_int da_nil))) da_nil))))))) (dss_one (ds_ret de_bl)) dss_nil)))
      (dss_cons (ds_setO (ps_set (i := 6) sc_law.nd rfl (Or.inr rfl) (de_calO d__law_units hr (da_cons (de_var (pv 4)) (da_cons (de_var (pv 3)) (da_cons de_str da_nil))))))
      (dss_one (ds_if (dt_cmp (op_neD hr.units) ok_neD (de_own (de_calO d_parted_d1 hr (da_cons (de_var (pv 4)) (da_cons (de_var (pv 3)) da_nil)))) (de_own (de_lc (own := [("_law_k", 7)]) rfl sc_law.nd (di_range1 (by rfl) m_range (da_cons (de_blt call_len ok_len (by rfl) m_len (by decide +kernel) (da_cons (de_var (pv 3)) da_nil)) da_nil)) (blkOk_by (N := ["_law_script", "_law_cell", "_law_well_here", "_law_rows", "_law_mass", "_law_turn", "_law_units_here", "_law_k"]) (sc := defScope s_law) (by decide +kernel)) (fun _ _ _ _ _ => (dg_name (pg_name (i := 7) sc_law.nd rfl (Or.inl rfl)))) (fun _ _ _ _ _ => dts_nil) (fun _ _ _ _ _ => (de_tup (da_cons (de_ix ix_seq ok_ix (de_ix ix_seq ok_ix (de_var (pv 3)) (de_var (pv 7))) de_int) (da_cons (de_ix ix_seq ok_ix (de_var (pv 6)) (de_var (pv 7))) da_nil)))))) (nomark _)) (dss_one (ds_ret de_bl)) dss_nil))))))))
      (dss_one (ds_ret de_bl)))) (fun args QD h => ?_)
  · obtain ⟨ns, rfl, hn, hq⟩ := h
    rfl
  · obtain ⟨ns, rfl, hn, hq⟩ := h
    refine ⟨⟨_, rfl⟩, _, _, rfl, ns, 0, rfl, ?_⟩
    have hel : ∀ (k : Nat) (d : D), ([D.int (ns.getD 0 0), .int 7] ++ DL.cutD (ns.map .int) (some 1) (some 8))[k]? = some d → ∃ i, d = .int i := fun k d hk => by
      have hm := List.mem_of_getElem? hk
      rcases List.mem_append.mp hm with hm | hm
      · rcases List.mem_cons.mp hm with e | hm
        · exact ⟨_, e⟩
        · exact ⟨_, List.mem_singleton.mp hm⟩
      · have hm2 : d ∈ ns.map D.int := by
          unfold DL.cutD at hm
          exact List.mem_of_mem_drop (List.mem_of_mem_take hm)
        obtain ⟨i, _, e⟩ := List.mem_map.mp hm2
        exact ⟨i, e.symm⟩
    have hsz : 2 ^ 20 ≤ sizeLine := by
      rw [sizeLine_eq]
      decide
    have hct : (DL.cutD (ns.map D.int) (some 1) (some 8)).length ≤ 63 := by
      unfold DL.cutD
      rw [List.length_take, List.length_drop, List.length_map]
      omega
    revert hel hct
    refine fun hel hct => ?_
    refine ⟨_, _, rfl, by show 2 ≤ sizeLine; omega, ?_⟩
    refine ⟨⟨_, rfl⟩, _, rfl, _, rfl, _, _, rfl, rfl, ?_⟩
    refine ⟨_, _, rfl, rfl, by show 2 + (DL.cutD (ns.map D.int) (some 1) (some 8)).length ≤ sizeLine; omega, ?_⟩
    refine ⟨_, _, rfl, _, rfl, ?_⟩
    refine ⟨fun _ E => ∃ s1 s2 s3 s4 s5 s6, E = [.dat (.scr ns), s1, s2, s3, s4, s5, s6, .no], ⟨_, _, _, _, _, _, rfl⟩, fun k d E hk hI => ?_, fun E hI => ?_⟩
    · obtain ⟨s1, s2, s3, s4, s5, s6, rfl⟩ := hI
      obtain ⟨c, rfl⟩ := hel k d hk
      clear hk hel
      refine ⟨⟨_, rfl⟩, _, _, rfl, c, rfl, fun x1 y1 z1 => ⟨_, rfl, by show 2 < 8; decide, ?_⟩⟩
      refine ⟨⟨_, rfl⟩, _, _, _, _, rfl, rfl, rfl, rfl, _, rfl, ⟨_, _, _, rfl⟩, fun w1' ps w1 hg w1'' e1 => ?_⟩
      cases e1
      obtain ⟨x2, y2, z2, rfl⟩ := w1
      refine ⟨_, _, rfl, ?_⟩
      refine ⟨⟨_, rfl⟩, _, _, _, _, rfl, rfl, rfl, rfl, _, rfl, ⟨_, _, _, rfl⟩, fun m w2' m0 m1 w2 w2'' e2 => ?_⟩
      cases e2
      obtain ⟨x3, y3, z3, rfl⟩ := w2
      refine ⟨_, _, rfl, ?_⟩
      refine ⟨_, _, rfl, by show 3 ≤ sizeLine; omega, _, _, rfl, _, rfl, ?_⟩
      refine ⟨fun _ E => ∃ x y z s5, E = [.dat (.scr ns), .dat (.int c), .ml [.int x, .int y, .int z], .dat (shD ps), .dat (.int m), s5, s6, .no], ⟨_, _, _, _, rfl⟩, fun j z E hj hI => ?_, fun E hI => ?_⟩
      · obtain ⟨x4, y4, z4, s5', rfl⟩ := hI
        obtain ⟨t, ht, rfl⟩ : ∃ t ∈ turns, z = .str t := by
          rcases List.mem_cons.mp (List.mem_of_getElem? hj) with e | hm
          · exact ⟨"first", by decide, e⟩
          · rcases List.mem_cons.mp hm with e | hm
            · exact ⟨"last", by decide, e⟩
            · exact ⟨"greatest", by decide, List.mem_singleton.mp hm⟩
        refine ⟨⟨_, rfl⟩, ⟨_, rfl⟩, ⟨_, rfl⟩, ⟨_, rfl⟩, _, _, _, _, rfl, rfl, rfl, rfl, _, 3, rfl, ⟨_, _, _, rfl⟩, by decide, by decide, fun v w5' v0 v1 w5 w5'' e5 => ?_⟩
        cases e5
        obtain ⟨x5, y5, z5, rfl⟩ := w5
        exact ⟨_, _, rfl, m, ps, t, v, rfl, hg, m0, m1, ht, _, rfl, iteF ⟨_, _, _, _, rfl⟩⟩
      · obtain ⟨x4, y4, z4, s5', rfl⟩ := hI
        refine ⟨⟨_, rfl⟩, ⟨_, rfl⟩, _, _, rfl, m, ps, "first", rfl, hg, m0, m1, by decide, _, rfl, by show 6 < 8; decide, ?_⟩
        refine ⟨⟨_, rfl⟩, ⟨_, rfl⟩, _, _, rfl, m, ps, "first", rfl, hg, m0, m1, by decide, _, rfl, ?_⟩
        have n2 := hg.n2
        have lz : ps.length ≤ sizeLine := by omega
        have tq : toPy (.lst (dueP m ps "first")) = some (.list (pyRows (dueQ m ps "first"))) := by
          rw [dueP_eq]
          exact lst_py _
        have tq2 : toPy (.lst ((dueQ m ps "first").map rowD)) = some (.list (pyRows (dueQ m ps "first"))) := lst_py _
        have sq := shaped_rows (due_ok (m := m) hg "first")
        have eq1 := eqv_rows (due_ok (m := m) hg "first")
        have nq : (D.bl (if true = true then !PyData.eqv (.list (pyRows (dueQ m ps "first"))) (.list (pyRows (dueQ m ps "first"))) else PyData.eqv (.list (pyRows (dueQ m ps "first"))) (.list (pyRows (dueQ m ps "first"))))) = .bl false := by
          rw [eq1]
          rfl
        refine ⟨⟨_, rfl⟩, _, rfl, _, _, rfl, rfl, ps.length, by show some _ = some _; rw [List.length_map], by omega, by omega, ?_⟩
        refine lc_mapE (xs := List.range ps.length) (emb := fun i => .int ((0 : Int) + (i : Nat))) (fun i => D.tup [.str (ps.getD i ("", 0)).1, .int ((partP m ps "first").getD i 0)]) ((dueQ m ps "first").map rowD) [.dat (.scr ns), .dat (.int c), .ml [.int x4, .int y4, .int z4], .dat (shD ps), .dat (.int m), s5', .ml ((partP m ps "first").map .int), .no] (due_get hg "first") (by rw [List.length_range]; exact lz) (fun i j hj R hR => ?_) ?_
        · have hlt : j < ps.length := List.mem_range.mp (List.mem_of_getElem? hj)
          have ra := row_at hlt
          have hu : ixD (.lst ((partP m ps "first").map .int)) ((0 : Int) + (j : Nat)) = some (.int ((partP m ps "first").getD j 0)) := by
            rw [int_ix (by omega) (by rw [part_length hg]; omega)]
            have e : ((0 : Int) + (j : Nat)).toNat = j := by omega
            rw [e]
          revert hR ra hu
          generalize ps.getD j ("", 0) = p
          generalize (partP m ps "first").getD j 0 = u
          intro hR ra hu
          have r0 : ixD (rowD p) 0 = some (.str p.1) := rfl
          exact ⟨⟨_, rfl⟩, ⟨_, rfl⟩, _, _, rfl, rfl, _, _, rfl, ra, _, _, rfl, rfl, _, _, rfl, r0, ⟨_, rfl⟩, ⟨_, rfl⟩, _, _, rfl, rfl, _, _, rfl, hu, _, _, rfl, (by show 2 ≤ sizeLine; omega), _, _, rfl, hR⟩
        refine ⟨_, _, rfl, rfl, _, _, tq, tq2, sq, sq, false, congrArg some nq, iteF ?_⟩
        exact ⟨_, _, _, _, _, _, rfl⟩
    · obtain ⟨s1, s2, s3, s4, s5, s6, rfl⟩ := hI
      exact ⟨_, _, rfl, hq⟩


end
end K71
set_option Elab.async false
set_option linter.all false
set_option autoImplicit false
set_option maxRecDepth 100000
set_option maxHeartbeats 0
namespace K71
open PySem PySem.Spec L2 DL LamX
open PyProof.Rows hiding St

def df (x : Str) (i : Nat) (dfl : List He.Dv := []) : He.DefD := ⟨(x, none), x, x, defArgs (topS i), defBody (topS i), defScope (topS i), dfl, []⟩
def fn : List He.DefD := [df "is_whole" 6, df "is_name" 9, df "is_from" 10, df "is_pair" 14, df "check_pairs" 15, df "from_first" 16, df "from_last" 17, df "from_greatest" 18, df "want_turn" 20, df "with_odd" 21, df "parted" 22 [.str "first"], df "_law_cell_at" 24, df "_law_well" 25, df "_law_draw" 26, df "_law_names" 27, df "_law_shares" 28, df "_law_units" 29, df "_law_weight" 30, df "_law_right" 31, df "law" 32]
def fa : List He.Fa := [.glo "is_whole", .glo "is_name", .glo "is_from", .glo "is_pair", .glo "check_pairs", .glo "from_first", .glo "from_last", .glo "from_greatest", .glo "want_turn", .glo "with_odd", .glo "parted", .glo "_law_cell_at", .glo "_law_well", .glo "_law_draw", .glo "_law_names", .glo "_law_shares", .glo "_law_units", .glo "_law_weight", .glo "_law_right", .glo "law", .free "len", .free "isinstance", .free "int", .free "str", .free "bool", .free "list", .free "tuple", .free "all", .free "max", .free "sum", .free "enumerate", .free "range", .free "reversed", .free "sorted", .free "zip", .str "LETTERS" "abcdefghijklmnopqrstuvwxyz", .int "MOST_SHARES" 24, .int "MOST_PRICE" 1000000, .glo "TURNS"]
def ts : List He.Tab := [(fun K => He.ga K "TURNS", ["first", "last", "greatest"])]
def tf : List He.Defn := [("from_greatest", none), ("_law_units", none)]
def ex (K : PySem.W.Frag) : Bool := He.valsB K (He.ga K "TURNS") [("first", .glo "from_first"), ("last", .glo "from_last"), ("greatest", .glo "from_greatest")] && (!decide ((He.cT K ("from_greatest", none)).2 = 0) && (!decide ((He.cT K ("_law_units", none)).2 = 0) && !decide ((He.cT K ("from_greatest", none)).2 = (He.cT K ("_law_units", none)).2)))
theorem ex_ok {K : PySem.W.Frag} (h : ex K = true) : He.valsB K (He.ga K "TURNS") [("first", .glo "from_first"), ("last", .glo "from_last"), ("greatest", .glo "from_greatest")] = true ∧ (He.cT K ("from_greatest", none)).2 ≠ 0 ∧ (He.cT K ("_law_units", none)).2 ≠ 0 ∧ (He.cT K ("from_greatest", none)).2 ≠ (He.cT K ("_law_units", none)).2 := by
  unfold ex at h
  simp only [Bool.and_eq_true, Bool.not_eq_true', decide_eq_false_iff_not] at h
  exact ⟨h.1, h.2.1, h.2.2.1, h.2.2.2⟩
theorem tabs_eq {K : PySem.W.Frag} (h1 : (He.cT K ("from_greatest", none)).2 ≠ 0) (h2 : (He.cT K ("_law_units", none)).2 ≠ 0) : tabsK K = [((He.cT K ("from_greatest", none)).2, ("from_greatest" : Str) ++ ".<locals>." ++ "<lambda>"), ((He.cT K ("_law_units", none)).2, ("_law_units" : Str) ++ ".<locals>." ++ "<lambda>")] := by
  unfold tabsK lamNames
  rw [List.filterMap_cons, List.filterMap_cons, List.filterMap_nil]
  revert h1 h2
  generalize (He.cT K ("from_greatest", none)).2 = a
  generalize (He.cT K ("_law_units", none)).2 = b
  intro h1 h2
  cases a with
  | zero => exact absurd rfl h1
  | succ a => cases b with
    | zero => exact absurd rfl h2
    | succ b => rfl
theorem facts {P : Program} {w : World} {K : PySem.W.Frag} {h : Heap} {mg : Str → Option Value} {f : Addr} (X : K.In h) (G : h.Ns mainGlobals mg) (hfa : mg ("law" : Str) = some (.ref f)) (c : He.SaysX fa fn ts tf ex w h K) :
    ∃ fd : FuncData, (∀ (s : Shared) (u : Value), BindsTo s fd ⟨[u], []⟩ [("_law_script", u)]) ∧ ∀ base : Heap, (∀ p ∈ tf.map (He.cT K), TabB base mg p.1 p.2) → FnOk P w K mg base CX0 7 f fd ["_law_script"] (FnSp K [] T_law) := by
  have dd := c.t.d
  obtain ⟨x1, x2, x3, x4⟩ := ex_ok c.more
  have te := tabs_eq x2 x3
  obtain ⟨fd_is_whole, F0_is_whole⟩ := dd.def_ 0 (d := df "is_whole" 6) rfl
  have F_is_whole : FunD K "is_whole" "is_whole" (defArgs s_is_whole) (defBody s_is_whole) (defScope s_is_whole) [] [] (He.ga K "is_whole") fd_is_whole := F0_is_whole
  clear F0_is_whole
  have g_is_whole : mg "is_whole" = some (.ref (He.ga K "is_whole")) := He.glo_ok X G (dd.fact 0 (f := .glo "is_whole") rfl)
  have b_is_whole : Binds K fd_is_whole ["thing"] [] := F_is_whole.bindsN fun _ _ _ _ _ _ us hl => match us, hl with | [_], _ => rfl
  obtain ⟨fd_is_name, F0_is_name⟩ := dd.def_ 1 (d := df "is_name" 9) rfl
  have F_is_name : FunD K "is_name" "is_name" (defArgs s_is_name) (defBody s_is_name) (defScope s_is_name) [] [] (He.ga K "is_name") fd_is_name := F0_is_name
  clear F0_is_name
  have g_is_name : mg "is_name" = some (.ref (He.ga K "is_name")) := He.glo_ok X G (dd.fact 1 (f := .glo "is_name") rfl)
  have b_is_name : Binds K fd_is_name ["thing"] [] := F_is_name.bindsN fun _ _ _ _ _ _ us hl => match us, hl with | [_], _ => rfl
  obtain ⟨fd_is_from, F0_is_from⟩ := dd.def_ 2 (d := df "is_from" 10) rfl
  have F_is_from : FunD K "is_from" "is_from" (defArgs s_is_from) (defBody s_is_from) (defScope s_is_from) [] [] (He.ga K "is_from") fd_is_from := F0_is_from
  clear F0_is_from
  have g_is_from : mg "is_from" = some (.ref (He.ga K "is_from")) := He.glo_ok X G (dd.fact 2 (f := .glo "is_from") rfl)
  have b_is_from : Binds K fd_is_from ["thing", "low", "high"] [] := F_is_from.bindsN fun _ _ _ _ _ _ us hl => match us, hl with | [_, _, _], _ => rfl
  obtain ⟨fd_is_pair, F0_is_pair⟩ := dd.def_ 3 (d := df "is_pair" 14) rfl
  have F_is_pair : FunD K "is_pair" "is_pair" (defArgs s_is_pair) (defBody s_is_pair) (defScope s_is_pair) [] [] (He.ga K "is_pair") fd_is_pair := F0_is_pair
  clear F0_is_pair
  have g_is_pair : mg "is_pair" = some (.ref (He.ga K "is_pair")) := He.glo_ok X G (dd.fact 3 (f := .glo "is_pair") rfl)
  have b_is_pair : Binds K fd_is_pair ["row", "low", "high"] [] := F_is_pair.bindsN fun _ _ _ _ _ _ us hl => match us, hl with | [_, _, _], _ => rfl
  obtain ⟨fd_check_pairs, F0_check_pairs⟩ := dd.def_ 4 (d := df "check_pairs" 15) rfl
  have F_check_pairs : FunD K "check_pairs" "check_pairs" (defArgs s_check_pairs) (defBody s_check_pairs) (defScope s_check_pairs) [] [] (He.ga K "check_pairs") fd_check_pairs := F0_check_pairs
  clear F0_check_pairs
  have g_check_pairs : mg "check_pairs" = some (.ref (He.ga K "check_pairs")) := He.glo_ok X G (dd.fact 4 (f := .glo "check_pairs") rfl)
  have b_check_pairs : Binds K fd_check_pairs ["rows", "many", "low", "high"] [] := F_check_pairs.bindsN fun _ _ _ _ _ _ us hl => match us, hl with | [_, _, _, _], _ => rfl
  obtain ⟨fd_from_first, F0_from_first⟩ := dd.def_ 5 (d := df "from_first" 16) rfl
  have F_from_first : FunD K "from_first" "from_first" (defArgs s_from_first) (defBody s_from_first) (defScope s_from_first) [] [] (He.ga K "from_first") fd_from_first := F0_from_first
  clear F0_from_first
  have g_from_first : mg "from_first" = some (.ref (He.ga K "from_first")) := He.glo_ok X G (dd.fact 5 (f := .glo "from_first") rfl)
  have b_from_first : Binds K fd_from_first ["rests"] [] := F_from_first.bindsN fun _ _ _ _ _ _ us hl => match us, hl with | [_], _ => rfl
  obtain ⟨fd_from_last, F0_from_last⟩ := dd.def_ 6 (d := df "from_last" 17) rfl
  have F_from_last : FunD K "from_last" "from_last" (defArgs s_from_last) (defBody s_from_last) (defScope s_from_last) [] [] (He.ga K "from_last") fd_from_last := F0_from_last
  clear F0_from_last
  have g_from_last : mg "from_last" = some (.ref (He.ga K "from_last")) := He.glo_ok X G (dd.fact 6 (f := .glo "from_last") rfl)
  have b_from_last : Binds K fd_from_last ["rests"] [] := F_from_last.bindsN fun _ _ _ _ _ _ us hl => match us, hl with | [_], _ => rfl
  obtain ⟨fd_from_greatest, F0_from_greatest⟩ := dd.def_ 7 (d := df "from_greatest" 18) rfl
  have F_from_greatest : FunD K "from_greatest" "from_greatest" (defArgs s_from_greatest) (defBody s_from_greatest) (defScope s_from_greatest) [] [] (He.ga K "from_greatest") fd_from_greatest := F0_from_greatest
  clear F0_from_greatest
  have g_from_greatest : mg "from_greatest" = some (.ref (He.ga K "from_greatest")) := He.glo_ok X G (dd.fact 7 (f := .glo "from_greatest") rfl)
  have b_from_greatest : Binds K fd_from_greatest ["rests"] [] := F_from_greatest.bindsN fun _ _ _ _ _ _ us hl => match us, hl with | [_], _ => rfl
  obtain ⟨fd_want_turn, F0_want_turn⟩ := dd.def_ 8 (d := df "want_turn" 20) rfl
  have F_want_turn : FunD K "want_turn" "want_turn" (defArgs s_want_turn) (defBody s_want_turn) (defScope s_want_turn) [] [] (He.ga K "want_turn") fd_want_turn := F0_want_turn
  clear F0_want_turn
  have g_want_turn : mg "want_turn" = some (.ref (He.ga K "want_turn")) := He.glo_ok X G (dd.fact 8 (f := .glo "want_turn") rfl)
  have b_want_turn : Binds K fd_want_turn ["to"] [] := F_want_turn.bindsN fun _ _ _ _ _ _ us hl => match us, hl with | [_], _ => rfl
  obtain ⟨fd_with_odd, F0_with_odd⟩ := dd.def_ 9 (d := df "with_odd" 21) rfl
  have F_with_odd : FunD K "with_odd" "with_odd" (defArgs s_with_odd) (defBody s_with_odd) (defScope s_with_odd) [] [] (He.ga K "with_odd") fd_with_odd := F0_with_odd
  clear F0_with_odd
  have g_with_odd : mg "with_odd" = some (.ref (He.ga K "with_odd")) := He.glo_ok X G (dd.fact 9 (f := .glo "with_odd") rfl)
  have b_with_odd : Binds K fd_with_odd ["units", "rests", "left", "to", "bare"] [] := F_with_odd.bindsN fun _ _ _ _ _ _ us hl => match us, hl with | [_, _, _, _, _], _ => rfl
  obtain ⟨fd_parted, F0_parted⟩ := dd.def_ 10 (d := df "parted" 22 [.str "first"]) rfl
  have F_parted : FunD K "parted" "parted" (defArgs s_parted) (defBody s_parted) (defScope s_parted) [V.str "first"] [] (He.ga K "parted") fd_parted := F0_parted
  clear F0_parted
  have g_parted : mg "parted" = some (.ref (He.ga K "parted")) := He.glo_ok X G (dd.fact 10 (f := .glo "parted") rfl)
  obtain ⟨fd__law_cell_at, F0__law_cell_at⟩ := dd.def_ 11 (d := df "_law_cell_at" 24) rfl
  have F__law_cell_at : FunD K "_law_cell_at" "_law_cell_at" (defArgs s__law_cell_at) (defBody s__law_cell_at) (defScope s__law_cell_at) [] [] (He.ga K "_law_cell_at") fd__law_cell_at := F0__law_cell_at
  clear F0__law_cell_at
  have g__law_cell_at : mg "_law_cell_at" = some (.ref (He.ga K "_law_cell_at")) := He.glo_ok X G (dd.fact 11 (f := .glo "_law_cell_at") rfl)
  have b__law_cell_at : Binds K fd__law_cell_at ["_law_script", "_law_k"] [] := F__law_cell_at.bindsN fun _ _ _ _ _ _ us hl => match us, hl with | [_, _], _ => rfl
  obtain ⟨fd__law_well, F0__law_well⟩ := dd.def_ 12 (d := df "_law_well" 25) rfl
  have F__law_well : FunD K "_law_well" "_law_well" (defArgs s__law_well) (defBody s__law_well) (defScope s__law_well) [] [] (He.ga K "_law_well") fd__law_well := F0__law_well
  clear F0__law_well
  have g__law_well : mg "_law_well" = some (.ref (He.ga K "_law_well")) := He.glo_ok X G (dd.fact 12 (f := .glo "_law_well") rfl)
  have b__law_well : Binds K fd__law_well ["_law_cell"] [] := F__law_well.bindsN fun _ _ _ _ _ _ us hl => match us, hl with | [_], _ => rfl
  obtain ⟨fd__law_draw, F0__law_draw⟩ := dd.def_ 13 (d := df "_law_draw" 26) rfl
  have F__law_draw : FunD K "_law_draw" "_law_draw" (defArgs s__law_draw) (defBody s__law_draw) (defScope s__law_draw) [] [] (He.ga K "_law_draw") fd__law_draw := F0__law_draw
  clear F0__law_draw
  have g__law_draw : mg "_law_draw" = some (.ref (He.ga K "_law_draw")) := He.glo_ok X G (dd.fact 13 (f := .glo "_law_draw") rfl)
  have b__law_draw : Binds K fd__law_draw ["_law_well_here", "_law_most"] [] := F__law_draw.bindsN fun _ _ _ _ _ _ us hl => match us, hl with | [_, _], _ => rfl
  obtain ⟨fd__law_names, F0__law_names⟩ := dd.def_ 14 (d := df "_law_names" 27) rfl
  have F__law_names : FunD K "_law_names" "_law_names" (defArgs s__law_names) (defBody s__law_names) (defScope s__law_names) [] [] (He.ga K "_law_names") fd__law_names := F0__law_names
  clear F0__law_names
  have g__law_names : mg "_law_names" = some (.ref (He.ga K "_law_names")) := He.glo_ok X G (dd.fact 14 (f := .glo "_law_names") rfl)
  have b__law_names : Binds K fd__law_names ["_law_well_here", "_law_many"] [] := F__law_names.bindsN fun _ _ _ _ _ _ us hl => match us, hl with | [_, _], _ => rfl
  obtain ⟨fd__law_shares, F0__law_shares⟩ := dd.def_ 15 (d := df "_law_shares" 28) rfl
  have F__law_shares : FunD K "_law_shares" "_law_shares" (defArgs s__law_shares) (defBody s__law_shares) (defScope s__law_shares) [] [] (He.ga K "_law_shares") fd__law_shares := F0__law_shares
  clear F0__law_shares
  have g__law_shares : mg "_law_shares" = some (.ref (He.ga K "_law_shares")) := He.glo_ok X G (dd.fact 15 (f := .glo "_law_shares") rfl)
  have b__law_shares : Binds K fd__law_shares ["_law_well_here"] [] := F__law_shares.bindsN fun _ _ _ _ _ _ us hl => match us, hl with | [_], _ => rfl
  obtain ⟨fd__law_units, F0__law_units⟩ := dd.def_ 16 (d := df "_law_units" 29) rfl
  have F__law_units : FunD K "_law_units" "_law_units" (defArgs s__law_units) (defBody s__law_units) (defScope s__law_units) [] [] (He.ga K "_law_units") fd__law_units := F0__law_units
  clear F0__law_units
  have g__law_units : mg "_law_units" = some (.ref (He.ga K "_law_units")) := He.glo_ok X G (dd.fact 16 (f := .glo "_law_units") rfl)
  have b__law_units : Binds K fd__law_units ["_law_mass", "_law_rows", "_law_turn"] [] := F__law_units.bindsN fun _ _ _ _ _ _ us hl => match us, hl with | [_, _, _], _ => rfl
  obtain ⟨fd__law_weight, F0__law_weight⟩ := dd.def_ 17 (d := df "_law_weight" 30) rfl
  have F__law_weight : FunD K "_law_weight" "_law_weight" (defArgs s__law_weight) (defBody s__law_weight) (defScope s__law_weight) [] [] (He.ga K "_law_weight") fd__law_weight := F0__law_weight
  clear F0__law_weight
  have g__law_weight : mg "_law_weight" = some (.ref (He.ga K "_law_weight")) := He.glo_ok X G (dd.fact 17 (f := .glo "_law_weight") rfl)
  have b__law_weight : Binds K fd__law_weight ["_law_well_here"] [] := F__law_weight.bindsN fun _ _ _ _ _ _ us hl => match us, hl with | [_], _ => rfl
  obtain ⟨fd__law_right, F0__law_right⟩ := dd.def_ 18 (d := df "_law_right" 31) rfl
  have F__law_right : FunD K "_law_right" "_law_right" (defArgs s__law_right) (defBody s__law_right) (defScope s__law_right) [] [] (He.ga K "_law_right") fd__law_right := F0__law_right
  clear F0__law_right
  have g__law_right : mg "_law_right" = some (.ref (He.ga K "_law_right")) := He.glo_ok X G (dd.fact 18 (f := .glo "_law_right") rfl)
  have b__law_right : Binds K fd__law_right ["_law_rows", "_law_mass", "_law_turn", "_law_way"] [] := F__law_right.bindsN fun _ _ _ _ _ _ us hl => match us, hl with | [_, _, _, _], _ => rfl
  obtain ⟨fd_law, F0_law⟩ := dd.def_ 19 (d := df "law" 32) rfl
  have F_law : FunD K "law" "law" (defArgs s_law) (defBody s_law) (defScope s_law) [] [] (He.ga K "law") fd_law := F0_law
  clear F0_law
  have m_len : mg "len" = none := He.free_ok X G (dd.fact 20 (f := .free "len") rfl)
  have m_isinstance : mg "isinstance" = none := He.free_ok X G (dd.fact 21 (f := .free "isinstance") rfl)
  have m_int : mg "int" = none := He.free_ok X G (dd.fact 22 (f := .free "int") rfl)
  have m_str : mg "str" = none := He.free_ok X G (dd.fact 23 (f := .free "str") rfl)
  have m_bool : mg "bool" = none := He.free_ok X G (dd.fact 24 (f := .free "bool") rfl)
  have m_list : mg "list" = none := He.free_ok X G (dd.fact 25 (f := .free "list") rfl)
  have m_tuple : mg "tuple" = none := He.free_ok X G (dd.fact 26 (f := .free "tuple") rfl)
  have m_all : mg "all" = none := He.free_ok X G (dd.fact 27 (f := .free "all") rfl)
  have m_max : mg "max" = none := He.free_ok X G (dd.fact 28 (f := .free "max") rfl)
  have m_sum : mg "sum" = none := He.free_ok X G (dd.fact 29 (f := .free "sum") rfl)
  have m_enumerate : mg "enumerate" = none := He.free_ok X G (dd.fact 30 (f := .free "enumerate") rfl)
  have m_range : mg "range" = none := He.free_ok X G (dd.fact 31 (f := .free "range") rfl)
  have m_reversed : mg "reversed" = none := He.free_ok X G (dd.fact 32 (f := .free "reversed") rfl)
  have m_sorted : mg "sorted" = none := He.free_ok X G (dd.fact 33 (f := .free "sorted") rfl)
  have m_zip : mg "zip" = none := He.free_ok X G (dd.fact 34 (f := .free "zip") rfl)
  have c_LETTERS := He.str_ok X G (dd.fact 35 (f := .str "LETTERS" "abcdefghijklmnopqrstuvwxyz") rfl)
  have c_MOST_SHARES := He.int_ok X G (dd.fact 36 (f := .int "MOST_SHARES" 24) rfl)
  have c_MOST_PRICE := He.int_ok X G (dd.fact 37 (f := .int "MOST_PRICE" 1000000) rfl)
  have t_TURNS : mg "TURNS" = some (.ref (He.ga K "TURNS")) := He.glo_ok X G (dd.fact 38 (f := .glo "TURNS") rfl)
  obtain ⟨es, en, kd_TURNS⟩ := c.t.tab 0 (t := (fun K => He.ga K "TURNS", ["first", "last", "greatest"])) rfl
  obtain ⟨u1, n1, r1⟩ := He.valsB_ok x1 (q := ("first", .glo "from_first")) (List.mem_cons_self)
  obtain ⟨u2, n2, r2⟩ := He.valsB_ok x1 (q := ("last", .glo "from_last")) (List.mem_cons_of_mem _ List.mem_cons_self)
  obtain ⟨u3, n3, r3⟩ := He.valsB_ok x1 (q := ("greatest", .glo "from_greatest")) (List.mem_cons_of_mem _ (List.mem_cons_of_mem _ List.mem_cons_self))
  have ns_TURNS : ∀ z ∈ (["first", "last", "greatest"] : List Str), ∃ u, PySem.W.nsIn K (He.ga K "TURNS") z = some (some u) := fun z hz => by
    rcases List.mem_cons.mp hz with e | hz
    · exact ⟨u1, by rw [e]; exact n1⟩
    · rcases List.mem_cons.mp hz with e | hz
      · exact ⟨u2, by rw [e]; exact n2⟩
      · exact ⟨u3, by rw [List.mem_singleton.mp hz]; exact n3⟩
  obtain ⟨p3, v3, b3⟩ := F_parted.binds1 (ps := ["weight", "shares", "to"]) 3 1 (by decide) rfl fun _ _ _ _ _ _ _ us its hl h2 => match us, its, hl, h2 with | [_, _, _], [_], _, _ => ⟨_, rfl, rfl⟩
  have e3 : p3 = [] := by
    cases v3
    rfl
  subst e3
  obtain ⟨p2, v2, b2⟩ := F_parted.binds1 (ps := ["weight", "shares", "to"]) 2 0 (by decide) rfl fun _ _ _ _ _ _ _ us its hl h2 => match us, its, hl, h2 with | [_, _], [_], _, _ => ⟨_, rfl, rfl⟩
  obtain ⟨i1, k1⟩ := F_parted.kbinds1 (ps := ["weight", "shares", "to"]) 1 ["shares", "to"] (fun us _ ws => [us.getD 0 .none, ws.getD 0 .none, ws.getD 1 .none]) (fun us _ ws => [us.getD 0 .non, ws.getD 0 .non, ws.getD 1 .non]) (by decide) (fun r _ z => .cons (vals_getD r 0) (.cons (vals_getD z 0) (.cons (vals_getD z 1) .nil))) fun _ _ _ _ _ _ _ us its ws hl h2 h3 => match us, its, ws, hl, h2, h3 with | [_], [_], [_, _], _, _, _ => ⟨_, rfl, rfl⟩
  obtain ⟨i0, k0⟩ := F_parted.kbinds1 (ps := ["weight", "shares", "to"]) 0 ["shares", "weight", "to"] (fun us _ ws => [ws.getD 1 .none, ws.getD 0 .none, ws.getD 2 .none]) (fun us _ ws => [ws.getD 1 .non, ws.getD 0 .non, ws.getD 2 .non]) (by decide) (fun r _ z => .cons (vals_getD z 1) (.cons (vals_getD z 0) (.cons (vals_getD z 2) .nil))) fun _ _ _ _ _ _ _ us its ws hl h2 h3 => match us, its, ws, hl, h2, h3 with | [], [_], [_, _, _], _, _, _ => ⟨_, rfl, rfl⟩
  have e := hfa.symm.trans (He.glo_ok X G (dd.fact 19 (f := .glo "law") rfl))
  cases e
  have bL := FunD.bindsA (ps := ["_law_script"]) F_law fun _ _ _ _ _ _ us hl => match us, hl with | [_], _ => rfl
  refine ⟨fd_law, fun s u => bL s [u] rfl, fun base hTB => ?_⟩
  have L_from_greatest : LamFn K mg base "from_greatest" (He.ga K "from_greatest") := ⟨rfl, hTB (He.cT K ("from_greatest", none)) (List.mem_cons_self), by rw [te]; exact List.mem_cons_self, fun p hp e => by
    rw [te] at hp
    rcases List.mem_cons.mp hp with h | h
    · rw [h]
    · rw [List.mem_singleton.mp h] at e
      exact absurd e.symm x4⟩
  have L__law_units : LamFn K mg base "_law_units" (He.ga K "_law_units") := ⟨rfl, hTB (He.cT K ("_law_units", none)) (List.mem_cons_of_mem _ List.mem_cons_self), by rw [te]; exact List.mem_cons_of_mem _ List.mem_cons_self, fun p hp e => by
    rw [te] at hp
    rcases List.mem_cons.mp hp with h | h
    · rw [h] at e
      exact absurd e x4
    · rw [List.mem_singleton.mp h]⟩
  have O_is_whole : FnOk P w K mg base CX0 1 (He.ga K "is_whole") fd_is_whole ["thing"] (FnSp K [] T_is_whole) := ok_is_whole F_is_whole m_isinstance m_bool m_int
  have d_is_whole : Dn P w K mg base 1 "is_whole" ["thing"] [] T_is_whole [] := .of O_is_whole g_is_whole F_is_whole.kp b_is_whole
  have O_is_name : FnOk P w K mg base CX0 1 (He.ga K "is_name") fd_is_name ["thing"] (FnSp K [] T_is_name) := ok_is_name F_is_name m_all c_LETTERS m_len m_isinstance m_str
  have d_is_name : Dn P w K mg base 1 "is_name" ["thing"] [] T_is_name [] := .of O_is_name g_is_name F_is_name.kp b_is_name
  have O_is_from : FnOk P w K mg base CX0 2 (He.ga K "is_from") fd_is_from ["thing", "low", "high"] (FnSp K [] T_is_from) := ok_is_from F_is_from d_is_whole
  have d_is_from : Dn P w K mg base 2 "is_from" ["thing", "low", "high"] [] T_is_from [] := .of O_is_from g_is_from F_is_from.kp b_is_from
  have O_is_pair : FnOk P w K mg base CX0 3 (He.ga K "is_pair") fd_is_pair ["row", "low", "high"] (FnSp K [] T_is_pair) := ok_is_pair F_is_pair d_is_from d_is_name m_len m_isinstance m_tuple
  have d_is_pair : Dn P w K mg base 3 "is_pair" ["row", "low", "high"] [] T_is_pair [] := .of O_is_pair g_is_pair F_is_pair.kp b_is_pair
  have O_check_pairs : FnOk P w K mg base CX0 4 (He.ga K "check_pairs") fd_check_pairs ["rows", "many", "low", "high"] (FnSp K [] T_check_pairs) := ok_check_pairs F_check_pairs m_max m_len m_enumerate d_is_pair m_isinstance m_list
  have d_check_pairs : Dn P w K mg base 4 "check_pairs" ["rows", "many", "low", "high"] [] T_check_pairs [] := .of O_check_pairs g_check_pairs F_check_pairs.kp b_check_pairs
  have O_from_first : FnOk P w K mg base CX0 1 (He.ga K "from_first") fd_from_first ["rests"] (FnSp K [] T_from_first) := ok_from_first F_from_first m_list m_range m_len
  have d_from_first : Dn P w K mg base 1 "from_first" ["rests"] [] T_from_first [] := .of O_from_first g_from_first F_from_first.kp b_from_first
  have O_from_last : FnOk P w K mg base CX0 1 (He.ga K "from_last") fd_from_last ["rests"] (FnSp K [] T_from_last) := ok_from_last F_from_last m_list m_reversed m_range m_len
  have d_from_last : Dn P w K mg base 1 "from_last" ["rests"] [] T_from_last [] := .of O_from_last g_from_last F_from_last.kp b_from_last
  have O_from_greatest : FnOk P w K mg base CX0 1 (He.ga K "from_greatest") fd_from_greatest ["rests"] (FnSp K [] T_from_greatest) := ok_from_greatest F_from_greatest L_from_greatest m_sorted m_range m_len
  have d_from_greatest : Dn P w K mg base 1 "from_greatest" ["rests"] [] T_from_greatest [] := .of O_from_greatest g_from_greatest F_from_greatest.kp b_from_greatest
  have O_want_turn : FnOk P w K mg base CX0 1 (He.ga K "want_turn") fd_want_turn ["to"] (FnSp K [] T_want_turn) := ok_want_turn F_want_turn t_TURNS kd_TURNS ns_TURNS m_isinstance m_str
  have d_want_turn : Dn P w K mg base 1 "want_turn" ["to"] [] T_want_turn [] := .of O_want_turn g_want_turn F_want_turn.kp b_want_turn
  have tf_TURNS : ∀ z ∈ (["first", "last", "greatest"] : List Str), TabFn P w K mg base 1 (He.ga K "TURNS") ["rests"] z (T_order z) := fun z hz => by
    rcases List.mem_cons.mp hz with e | hz
    · rw [e]
      exact ⟨_, _, ⟨es, en, u1, kd_TURNS.at_, kd_TURNS.lit, n1, r1⟩, O_from_first, F_from_first.kp, b_from_first⟩
    · rcases List.mem_cons.mp hz with e | hz
      · rw [e]
        exact ⟨_, _, ⟨es, en, u2, kd_TURNS.at_, kd_TURNS.lit, n2, r2⟩, O_from_last, F_from_last.kp, b_from_last⟩
      · rw [List.mem_singleton.mp hz]
        exact ⟨_, _, ⟨es, en, u3, kd_TURNS.at_, kd_TURNS.lit, n3, r3⟩, O_from_greatest, F_from_greatest.kp, b_from_greatest⟩
  have O_with_odd : FnOk P w K mg base CX0 2 (He.ga K "with_odd") fd_with_odd ["units", "rests", "left", "to", "bare"] (FnSp K [] T_with_odd) := ok_with_odd F_with_odd t_TURNS kd_TURNS ns_TURNS m_list tf_TURNS
  have d_with_odd : Dn P w K mg base 2 "with_odd" ["units", "rests", "left", "to", "bare"] [] T_with_odd [] := .of O_with_odd g_with_odd F_with_odd.kp b_with_odd
  have O_parted : FnOk P w K mg base CX0 5 (He.ga K "parted") fd_parted ["weight", "shares", "to"] (FnSp K [] T_parted) := ok_parted F_parted m_list m_zip d_with_odd m_sum m_range m_len d_check_pairs c_MOST_PRICE c_MOST_SHARES d_want_turn
  have d_parted : Dn P w K mg base 5 "parted" ["weight", "shares", "to"] [] T_parted [] := .of O_parted g_parted F_parted.kp b3
  have d_parted_d1 : Dn P w K mg base 5 "parted" ["weight", "shares", "to"] [] T_parted [.str "first"] := ⟨_, _, _, _, O_parted, g_parted, F_parted.kp, b2, v2, .cons (.str _) .nil⟩
  have k_parted__1_shares_to : Dk P w K mg base 5 "parted" ["weight", "shares", "to"] T_parted 1 ["shares", "to"] (fun ds es => [ds.getD 0 .non, es.getD 0 .non, es.getD 1 .non]) := ⟨_, _, _, _, O_parted, g_parted, F_parted.kp, k1, fun G vs zs ds es h1 h2 => .cons (Dats.getD' h1 0) (.cons (Dats.getD' h2 0) (.cons (Dats.getD' h2 1) .nil))⟩
  have k_parted__0_shares_weight_to : Dk P w K mg base 5 "parted" ["weight", "shares", "to"] T_parted 0 ["shares", "weight", "to"] (fun ds es => [es.getD 1 .non, es.getD 0 .non, es.getD 2 .non]) := ⟨_, _, _, _, O_parted, g_parted, F_parted.kp, k0, fun G vs zs ds es h1 h2 => .cons (Dats.getD' h2 1) (.cons (Dats.getD' h2 0) (.cons (Dats.getD' h2 2) .nil))⟩
  have O__law_cell_at : FnOk P w K mg base CX0 1 (He.ga K "_law_cell_at") fd__law_cell_at ["_law_script", "_law_k"] (FnSp K [] T__law_cell_at) := ok__law_cell_at F__law_cell_at m_len
  have d__law_cell_at : Dn P w K mg base 1 "_law_cell_at" ["_law_script", "_law_k"] [] T__law_cell_at [] := .of O__law_cell_at g__law_cell_at F__law_cell_at.kp b__law_cell_at
  have O__law_well : FnOk P w K mg base CX0 1 (He.ga K "_law_well") fd__law_well ["_law_cell"] (FnSp K [] T__law_well) := ok__law_well F__law_well m_int
  have d__law_well : Dn P w K mg base 1 "_law_well" ["_law_cell"] [] T__law_well [] := .of O__law_well g__law_well F__law_well.kp b__law_well
  have O__law_draw : FnOk P w K mg base CX0 1 (He.ga K "_law_draw") fd__law_draw ["_law_well_here", "_law_most"] (FnSp K [0] T__law_draw) := ok__law_draw F__law_draw 
  have d__law_draw : Dn P w K mg base 1 "_law_draw" ["_law_well_here", "_law_most"] [0] T__law_draw [] := .of O__law_draw g__law_draw F__law_draw.kp b__law_draw
  have O__law_names : FnOk P w K mg base CX0 2 (He.ga K "_law_names") fd__law_names ["_law_well_here", "_law_many"] (FnSp K [0] T__law_names) := ok__law_names F__law_names m_range d__law_draw
  have d__law_names : Dn P w K mg base 2 "_law_names" ["_law_well_here", "_law_many"] [0] T__law_names [] := .of O__law_names g__law_names F__law_names.kp b__law_names
  have O__law_shares : FnOk P w K mg base CX0 3 (He.ga K "_law_shares") fd__law_shares ["_law_well_here"] (FnSp K [0] T__law_shares) := ok__law_shares F__law_shares m_list m_zip m_max d__law_draw m_len d__law_names
  have d__law_shares : Dn P w K mg base 3 "_law_shares" ["_law_well_here"] [0] T__law_shares [] := .of O__law_shares g__law_shares F__law_shares.kp b__law_shares
  have O__law_units : FnOk P w K mg base CX0 1 (He.ga K "_law_units") fd__law_units ["_law_mass", "_law_rows", "_law_turn"] (FnSp K [] T__law_units) := ok__law_units F__law_units L__law_units m_sum m_sorted m_range m_len
  have d__law_units : Dn P w K mg base 1 "_law_units" ["_law_mass", "_law_rows", "_law_turn"] [] T__law_units [] := .of O__law_units g__law_units F__law_units.kp b__law_units
  have O__law_weight : FnOk P w K mg base CX0 2 (He.ga K "_law_weight") fd__law_weight ["_law_well_here"] (FnSp K [0] T__law_weight) := ok__law_weight F__law_weight d__law_draw
  have d__law_weight : Dn P w K mg base 2 "_law_weight" ["_law_well_here"] [0] T__law_weight [] := .of O__law_weight g__law_weight F__law_weight.kp b__law_weight
  have O__law_right : FnOk P w K mg base CX0 6 (He.ga K "_law_right") fd__law_right ["_law_rows", "_law_mass", "_law_turn", "_law_way"] (FnSp K [] T__law_right) := ok__law_right F__law_right d_parted m_sum m_isinstance m_list m_range m_len d__law_units k_parted__1_shares_to k_parted__0_shares_weight_to
  have d__law_right : Dn P w K mg base 6 "_law_right" ["_law_rows", "_law_mass", "_law_turn", "_law_way"] [] T__law_right [] := .of O__law_right g__law_right F__law_right.kp b__law_right
  exact ok_law F_law d__law_cell_at d_parted_d1 m_range m_len d__law_units d__law_right d__law_draw d__law_weight d__law_shares d__law_well
end K71
set_option Elab.async false
set_option linter.all false
set_option autoImplicit false
set_option maxRecDepth 100000
set_option maxHeartbeats 0
namespace K71
open PySem PySem.Spec L2 DL LamX
open PyProof.Rows hiding St

theorem no_mat {σ : St} {d : D} {i : Nat} {a : Addr} : ¬ MAt σ [.dat d] i a := fun ⟨s, h1, h2, _⟩ => by
  cases i with
  | zero =>
    cases h1
    cases h2
  | succ i => cases h1
theorem law_start {K : PySem.W.Frag} {H : Hp} {a : Addr} {ns : List Int} (ht : TabK K H) (hS : SqL K H a (ns.map V.int)) : StOk K [] ⟨H, fun _ => False, fun _ => 0⟩ ([V.ref a].map some) H [.dat (.scr ns)] := by
  have hv : vis ⟨H, fun _ => False, fun _ => 0⟩ ([V.ref a].map some) [.dat (.scr ns)] H = H := by
    funext b
    unfold vis
    rw [if_neg]
    rintro (z | ⟨i, z⟩)
    · exact z
    · exact no_mat z
  refine ⟨rfl, ht, fun b o e _ => SmO.of e, fun _ z => z.elim, fun _ _ _ z => z, fun i s e => ?_, fun i j b z => (no_mat z).elim, fun i z => by cases z⟩
  cases i with
  | zero =>
    cases e
    refine ⟨some (.ref a), rfl, .ref a, rfl, ?_⟩
    rw [hv]
    exact .scr hS
  | succ i => cases e
abbrev R : PySem.W.OpenRow := PySem.W.OpenLaw.row PySem.Challenge.rw_chestbreaks_k71_parted_in_units
abbrev hk : PySem.W.Hook := He.hookX 4 fa fn ts tf ex
def ob (s : PySem.W.SharedT) : He.AlX := He.obsX 4 fa fn ts tf ex (HandSHeadRun.getT s)
theorem ob_eq (s : PySem.W.SharedT) : ob s = hk.obs s.abs := He.obsX_eq (HandSHeadRun.getT_eq s)
def names : List PySem.Str := ["BreakError", "NoRule", "NoWeight", "NoLot", "is_whole", "LETTERS", "is_name", "is_from", "MOST_SHARES", "MOST_PRICE", "is_pair", "check_pairs", "from_first", "from_last", "from_greatest", "TURNS", "want_turn", "with_odd", "parted", "_law_cell_at", "_law_well", "_law_draw", "_law_names", "_law_shares", "_law_units", "_law_weight", "_law_right"]
theorem run (w : World) : HandSHeadRun.RunEq R (PySem.W.view R.prog [32]) hk ob 20000 names w :=
  PySem.W.byRow2 "special-get-raises" (P := fun w => HandSHeadRun.RunEq R (PySem.W.view R.prog [32]) hk ob 20000 names w) (fun w os => by kernel_rfl) (fun w os => by kernel_rfl) w
theorem at_ {w : World} {K : PySem.W.Frag} {h : Heap} {mg : Str → Option Value} {f : Addr} (X : K.In h) (G : h.Ns mainGlobals mg) (hfa : mg ("law" : Str) = some (.ref f)) (c : He.SaysX fa fn ts tf ex w h K) :
    LamX.LawAtS PySem.Challenge.rw_chestbreaks_k71_parted_in_units w K CX0 7 63 "_law_script" mg f h := by
  obtain ⟨fd, hb, hF⟩ := facts (P := (PySem.Challenge.rw_chestbreaks_k71_parted_in_units).prog) X G hfa c
  obtain ⟨x1, x2, x3, x4⟩ := ex_ok c.more
  have te := tabs_eq x2 x3
  have M : ∀ {Z : Addr × Addr → Prop}, (∀ p ∈ tf, Z (He.cT K p)) → ∀ p ∈ tf.map (He.cT K), Z p := fun hz p hp => by
    obtain ⟨q, hq, rfl⟩ := List.mem_map.mp hp
    exact hz q hq
  refine ⟨fd, tf.map (He.cT K), FnSp K [] T_law, M c.empty, M c.out, M fun p hp => PySem.W.codeHd_of_K X (c.hd p hp), hb, fun H a ns hl _ hT hS => ?_, fun base _ _ hTB => hF base hTB⟩
  have ht : TabK K H := fun p hp => by
    rw [te] at hp
    rcases List.mem_cons.mp hp with e | hp
    · rw [e]
      exact LamX.TabS.nil (hT _ List.mem_cons_self)
    · rw [List.mem_singleton.mp hp]
      exact LamX.TabS.nil (hT _ (List.mem_cons_of_mem _ List.mem_cons_self))
  refine ⟨fun _ => False, fun _ => 0, [.dat (.scr ns)], fun r _ => r = .dat (.bl true), law_start ht hS, ⟨ns, rfl, hl, rfl⟩, fun v H' r E' ro e => ?_⟩
  subst e
  obtain ⟨_, q⟩ := ro
  cases q
  rfl
end K71
open PySem PySem.W PySem.Calls PyProof.Rows
theorem PySem.Challenge.cw_chestbreaks_k71_parted_in_units_holds : PySem.Challenge.rw_chestbreaks_k71_parted_in_units.Holds := by
  w_on; o_law
  refine HandSHeadRun.head_any (r := OpenLaw.row PySem.Challenge.rw_chestbreaks_k71_parted_in_units) (q := view (OpenLaw.row PySem.Challenge.rw_chestbreaks_k71_parted_in_units).prog [32]) (H := K71.hk) (ob := K71.ob) (M := 20000) (loose := K71.names) (d := HandSHeadRun.topDef (OpenLaw.row PySem.Challenge.rw_chestbreaks_k71_parted_in_units).prog 32) (kwd := []) K71.ob_eq
    (by kernel_rfl) (fun s => by kernel_rfl) K71.run (by kernel_rfl) (by kernel_rfl) (by kernel_rfl) (by rfl) (by first | assumption | decide +kernel) (by decide +kernel) ⟨rfl, rfl, rfl, rfl, rfl, by decide +kernel⟩ ?hw ?hc
  case hw => w_witness2
  case hc =>
    refine LamX.walk_ofTsE (l := PySem.Challenge.rw_chestbreaks_k71_parted_in_units) (n := 63) (k := 7) (x := "_law_script") (CX := fun _ => L2.CX0) rfl (by decide) (by kernel_rfl) ⟨rfl, by decide, by decide⟩ ?F (fun _ _ _ _ _ z => z)
    intro w mg fa h Y G hmg0
    obtain ⟨K, KX, c⟩ := Y
    have hmg : mg ("law" : PySem.Str) = some (.ref fa) := by
      have e : (HandSHeadRun.topDef (OpenLaw.row PySem.Challenge.rw_chestbreaks_k71_parted_in_units).prog 32).name = ("law" : PySem.Str) := by kernel_rfl
      rw [← e]
      exact hmg0
    exact ⟨K, KX, K71.at_ KX G hmg c⟩
