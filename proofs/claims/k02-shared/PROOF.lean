import PyProof.Rows.All
import Wide.All
import OpenK.AllK
import Wide.FinOn
import HandS.ForMost
import HandS.ForExc
import HandS.Lambda
import HandS.TupAny
import HandS.TupMul
import HandS.Flow
import HandS.Style
import HandS.Wide
import HandS.IsInst
import HandS.TryMany
import HandS.Conv
import HandS.Defaults
import HandS.CallSlots
import HandS.SortRule
import HandS.SortInts
import HandS.SortKw
import KE.SortUse
import HandS.HeadHook4
import HandS.HeadWalk
import HandS.Head2
import HandS.HeadEnd
import PySem.Challenge.RW_paneframe_k02_shared
set_option Elab.async false
set_option linter.all false
set_option maxRecDepth 100000
set_option maxHeartbeats 8100000
namespace PF
open PySem L2

/-! ### data, results -/
inductive D where
  | non | bl (b : Bool) | int (i : Int) | str (x : Str) | tup (xs : List D) | lst (xs : List D) | obj (n : Nat) | scr (ns : List Int)
abbrev Ob := List (Str × D)
abbrev Store := List Ob
inductive R (α : Type) where
  | ok (a : α) (m : Store) | exc (c : Nat) (m : Store) | bad
abbrev M (α : Type) := Store → R α
abbrev En := List (Option D)
def R.wp {α : Type} (r : R α) (P : α → Store → Prop) (E : Nat → Store → Prop) : Prop := match r with
  | .ok a m => P a m
  | .exc c m => E c m
  | .bad => False
def bnd {α β : Type} (x : M α) (f : α → M β) : M β := fun m => match x m with
  | .ok a m' => f a m'
  | .exc c m' => .exc c m'
  | .bad => .bad
def ret {α : Type} (a : α) : M α := fun m => .ok a m
def lift {α : Type} (o : Option α) : M α := fun m => match o with
  | some a => .ok a m
  | none => .bad
theorem wp_bnd {α β : Type} {x : M α} {f : α → M β} {m : Store} {P : β → Store → Prop} {E : Nat → Store → Prop} :
    (bnd x f m).wp P E ↔ (x m).wp (fun a m' => (f a m').wp P E) E := by
  unfold bnd R.wp
  cases x m <;> simp
theorem wp_mono {α : Type} {r : R α} {P P' : α → Store → Prop} {E E' : Nat → Store → Prop} (h : r.wp P E) (hP : ∀ a m, P a m → P' a m) (hE : ∀ c m, E c m → E' c m) : r.wp P' E' := by
  unfold R.wp at *
  cases r with
  | ok a m => exact hP a m h
  | exc c m => exact hE c m h
  | bad => exact h
theorem wp_lift {α : Type} {o : Option α} {m : Store} {P : α → Store → Prop} {E : Nat → Store → Prop} : (lift o m).wp P E ↔ ∃ a, o = some a ∧ P a m := by
  unfold lift R.wp
  cases o <;> simp

/-! ### ghost state -/
inductive Own where
  | ins (n : Nat) | dic (n : Nat) | fld (n : Nat) (f : Str) | tab | dead
structure Gh where
  F : Hp
  B : Addr → Option Own
  io : List Addr
mutual
inductive Rep (K : PySem.W.Frag) (g : Gh) : V → D → Prop
  | non : Rep K g .non .non
  | bl (b : Bool) : Rep K g (.bl b) (.bl b)
  | int (i : Int) : Rep K g (.int i) (.int i)
  | str (x : Str) : Rep K g (.str x) (.str x)
  | tup {a : Addr} {vs : List V} {ds : List D} : g.F a = some (.tup vs) → RepL K g vs ds → Rep K g (.ref a) (.tup ds)
  | lst {a : Addr} {vs : List V} {ds : List D} : g.F a = some (.lst vs) → RepL K g vs ds → Rep K g (.ref a) (.lst ds)
  | obj {a : Addr} {n : Nat} : g.io[n]? = some a → Rep K g (.ref a) (.obj n)
  | scr {a : Addr} {ns : List Int} : SqL K g.F a (ns.map V.int) → Rep K g (.ref a) (.scr ns)
inductive RepL (K : PySem.W.Frag) (g : Gh) : List V → List D → Prop
  | nil : RepL K g [] []
  | cons {v : V} {d : D} {vs : List V} {ds : List D} : Rep K g v d → RepL K g vs ds → RepL K g (v :: vs) (d :: ds)
end
/-- more is frozen, more objects -/
structure Le (g g' : Gh) : Prop where
  ff : Same g.F g'.F
  io : ∃ more, g'.io = g.io ++ more
theorem Le.refl (g : Gh) : Le g g := ⟨Same.refl _, [], by simp⟩
theorem Le.trans {a b c : Gh} (x : Le a b) (y : Le b c) : Le a c := by
  obtain ⟨m1, e1⟩ := x.io
  obtain ⟨m2, e2⟩ := y.io
  exact ⟨x.ff.trans y.ff, m1 ++ m2, by rw [e2, e1, List.append_assoc]⟩
theorem io_at {g g' : Gh} (l : Le g g') {n : Nat} {a : Addr} (h : g.io[n]? = some a) : g'.io[n]? = some a := by
  obtain ⟨m, e⟩ := l.io
  rw [e, List.getElem?_append_left (List.getElem?_eq_some_iff.mp h).1]
  exact h
mutual
theorem Rep.mono {K : PySem.W.Frag} {g g' : Gh} (l : Le g g') : ∀ {v : V} {d : D}, Rep K g v d → Rep K g' v d
  | _, _, .non => .non
  | _, _, .bl b => .bl b
  | _, _, .int i => .int i
  | _, _, .str x => .str x
  | _, _, .tup h r => .tup (l.ff _ _ h) (RepL.mono l r)
  | _, _, .lst h r => .lst (l.ff _ _ h) (RepL.mono l r)
  | _, _, .obj h => .obj (io_at l h)
  | _, _, .scr h => .scr (l.ff.seq h)
theorem RepL.mono {K : PySem.W.Frag} {g g' : Gh} (l : Le g g') : ∀ {vs : List V} {ds : List D}, RepL K g vs ds → RepL K g' vs ds
  | _, _, .nil => .nil
  | _, _, .cons h t => .cons (Rep.mono l h) (RepL.mono l t)
end
theorem RepL.length {K : PySem.W.Frag} {g : Gh} : ∀ {vs : List V} {ds : List D}, RepL K g vs ds → vs.length = ds.length
  | _, _, .nil => rfl
  | _, _, .cons _ t => congrArg Nat.succ (RepL.length t)
theorem RepL.get {K : PySem.W.Frag} {g : Gh} : ∀ {vs : List V} {ds : List D} {i : Nat} {d : D}, RepL K g vs ds → ds[i]? = some d → ∃ v, vs[i]? = some v ∧ Rep K g v d
  | _, _, _, _, .nil, e => by simp at e
  | _, _, 0, _, .cons h _, e => by
    simp only [List.getElem?_cons_zero, Option.some.injEq] at e
    subst e
    exact ⟨_, rfl, h⟩
  | _, _, i + 1, _, .cons _ t, e => by
    simp only [List.getElem?_cons_succ] at e ⊢
    exact RepL.get t e
theorem RepL.getV {K : PySem.W.Frag} {g : Gh} : ∀ {vs : List V} {ds : List D} {i : Nat} {v : V}, RepL K g vs ds → vs[i]? = some v → ∃ d, ds[i]? = some d ∧ Rep K g v d
  | _, _, _, _, .nil, e => by simp at e
  | _, _, 0, _, .cons h _, e => by
    simp only [List.getElem?_cons_zero, Option.some.injEq] at e
    subst e
    exact ⟨_, rfl, h⟩
  | _, _, i + 1, _, .cons _ t, e => by
    simp only [List.getElem?_cons_succ] at e ⊢
    exact RepL.getV t e
theorem RepL.append {K : PySem.W.Frag} {g : Gh} : ∀ {vs ws : List V} {ds es : List D}, RepL K g vs ds → RepL K g ws es → RepL K g (vs ++ ws) (ds ++ es)
  | _, _, _, _, .nil, s => s
  | _, _, _, _, .cons h t, s => .cons h (RepL.append t s)
theorem RepL.take {K : PySem.W.Frag} {g : Gh} : ∀ {vs : List V} {ds : List D} (n : Nat), RepL K g vs ds → RepL K g (vs.take n) (ds.take n)
  | _, _, 0, _ => .nil
  | _, _, _ + 1, .nil => .nil
  | _, _, n + 1, .cons h t => .cons h (RepL.take n t)
theorem RepL.drop {K : PySem.W.Frag} {g : Gh} : ∀ {vs : List V} {ds : List D} (n : Nat), RepL K g vs ds → RepL K g (vs.drop n) (ds.drop n)
  | _, _, 0, r => r
  | _, _, _ + 1, .nil => .nil
  | _, _, n + 1, .cons _ t => RepL.drop n t
theorem RepL.set {K : PySem.W.Frag} {g : Gh} {v : V} {d : D} (r : Rep K g v d) : ∀ {vs : List V} {ds : List D} (n : Nat), RepL K g vs ds → RepL K g (vs.set n v) (ds.set n d)
  | _, _, _, .nil => .nil
  | _, _, 0, .cons _ t => .cons r t
  | _, _, n + 1, .cons h t => .cons h (RepL.set r n t)
theorem RepL.ints {K : PySem.W.Frag} {g : Gh} : ∀ {vs : List V} {ns : List Int}, RepL K g vs (ns.map D.int) → vs = ns.map V.int
  | _, [], .nil => rfl
  | _, n :: ns, .cons h t => by
    cases h
    rw [RepL.ints t]
    rfl
theorem RepL.of_ints {K : PySem.W.Frag} {g : Gh} : ∀ (ns : List Int), RepL K g (ns.map V.int) (ns.map D.int)
  | [] => .nil
  | n :: ns => .cons (.int n) (RepL.of_ints ns)

/-- the fixed facts: the written part, the code tables, the class of the walls, the exceptions' classes -/
structure Par where
  K : PySem.W.Frag
  T : List (Addr × Str)
  C : Addr
  cls : Nat → Value

/-- from (g, H) to (g', H'): nothing is changed but what B owns -/
structure Ext (g : Gh) (H : Hp) (g' : Gh) (H' : Hp) : Prop where
  le : Le g g'
  hh : ∀ a o, H a = some o → g.B a = none → H' a = some o
  fn : ∀ a, H a ≠ none → g.F a = none → g'.F a = none
  bb : ∀ a, g.B a ≠ none → g'.B a ≠ none
  bn : ∀ a, H a ≠ none → g.B a = none → g'.B a = none
  no : ∀ a, H a ≠ none → H' a ≠ none
theorem Ext.refl (g : Gh) (H : Hp) : Ext g H g H := ⟨Le.refl g, fun _ _ h _ => h, fun _ _ h => h, fun _ h => h, fun _ _ h => h, fun _ h => h⟩
theorem Ext.trans {g g1 g2 : Gh} {H H1 H2 : Hp} (a : Ext g H g1 H1) (b : Ext g1 H1 g2 H2) : Ext g H g2 H2 where
  le := a.le.trans b.le
  hh := fun x o h n => b.hh x o (a.hh x o h n) (a.bn x (by rw [h]; simp) n)
  fn := fun x h n => b.fn x (a.no x h) (a.fn x h n)
  bb := fun x h => b.bb x (a.bb x h)
  bn := fun x h n => b.bn x (a.no x h) (a.bn x h n)
  no := fun x h => b.no x (a.no x h)
theorem Ext.fresh {g g' : Gh} {H H' : Hp} (e : Ext g H g' H') {a : Addr} (h : H' a = none) : H a = none := by
  cases q : H a with
  | none => rfl
  | some o => exact absurd h (e.no a (by rw [q]; simp))

/-- a field of an object -/
def FldR (K : PySem.W.Frag) (g : Gh) (H : Hp) (n : Nat) (f : Str) (v : V) (d : D) : Prop := match d with
  | .lst ds => ∃ a vs, v = .ref a ∧ H a = some (.lst vs) ∧ g.B a = some (.fld n f) ∧ RepL K g vs ds
  | d => Rep K g v d
def ObR (p : Par) (g : Gh) (H : Hp) (n : Nat) (x : Addr) (fs : Ob) : Prop :=
  ∃ (dx : Addr) (vf : List (Str × V)), H x = some (.ins p.C dx vf) ∧ H dx = some (.own x) ∧ g.B x = some (.ins n) ∧ g.B dx = some (.dic n) ∧
    Paired (fun (q : Str × V) (r : Str × D) => q.1 = r.1 ∧ FldR p.K g H n q.1 q.2 r.2) vf fs
structure Ok (p : Par) (g : Gh) (m : Store) (H : Hp) : Prop where
  fh : Same g.F H
  bf : ∀ a, g.B a ≠ none → g.F a = none
  bh : ∀ a, g.B a ≠ none → H a ≠ none
  tabs : LamX.Tabs p.T H
  tabB : ∀ q ∈ p.T, g.B q.1 = some .tab
  obl : m.length = g.io.length
  obs : ∀ (n : Nat) (fs : Ob), m[n]? = some fs → ∃ x, g.io[n]? = some x ∧ ObR p g H n x fs
theorem FldR.keep {K : PySem.W.Frag} {g g' : Gh} {H H' : Hp} {n : Nat} {f : Str} {v : V} {d : D} (l : Le g g') (hb : g'.B = g.B) (hh : ∀ a o, H a = some o → H' a = some o) (h : FldR K g H n f v d) : FldR K g' H' n f v d := by
  unfold FldR at *
  cases d with
  | lst ds =>
    obtain ⟨a, vs, e, h1, h2, h3⟩ := h
    exact ⟨a, vs, e, hh _ _ h1, by rw [hb]; exact h2, h3.mono l⟩
  | non => exact Rep.mono l h
  | bl b => exact Rep.mono l h
  | int i => exact Rep.mono l h
  | str x => exact Rep.mono l h
  | tup xs => exact Rep.mono l h
  | obj n => exact Rep.mono l h
  | scr ns => exact Rep.mono l h
theorem Paired.imp2 {α β : Type} {F G : α → β → Prop} {l : List α} {k : List β} (h : Paired F l k) (f : ∀ a b, F a b → G a b) : Paired G l k := L2.Paired.mapP h f
/-- nothing is changed; something may be new -/
theorem Ok.keep {p : Par} {g g' : Gh} {m : Store} {H H' : Hp} (o : Ok p g m H) (ff : Same g.F g'.F) (hb : g'.B = g.B) (hio : g'.io = g.io) (hh : ∀ a o, H a = some o → H' a = some o) (fh : Same g'.F H') (bf : ∀ a, g.B a ≠ none → g'.F a = none) : Ok p g' m H' := by
  have l : Le g g' := ⟨ff, [], by rw [hio]; simp⟩
  have bh : ∀ a, g.B a ≠ none → H' a ≠ none := fun a h => by
    have z := o.bh a h
    cases q : H a with
    | none => exact absurd q z
    | some u => rw [hh a u q]; simp
  refine ⟨fh, fun a h => bf a (by rw [← hb]; exact h), fun a h => bh a (by rw [← hb]; exact h), o.tabs.ext hh, fun q hq => by rw [hb]; exact o.tabB q hq, by rw [hio]; exact o.obl, fun n fs h => ?_⟩
  obtain ⟨x, e, dx, vf, h1, h2, h3, h4, h5⟩ := o.obs n fs h
  exact ⟨x, by rw [hio]; exact e, dx, vf, hh _ _ h1, hh _ _ h2, by rw [hb]; exact h3, by rw [hb]; exact h4, Paired.imp2 h5 fun q r z => ⟨z.1, z.2.keep l hb hh⟩⟩
def Gh.put (g : Gh) (a : Addr) (o : HO) : Gh := { g with F := upd g.F a o }
theorem same_upd {H : Hp} {a : Addr} {o : HO} (h : H a = none) : Same H (upd H a o) := fun b u q => by rw [upd_ne (ne_of_none q h)]; exact q
theorem Ok.fnone {p : Par} {g : Gh} {m : Store} {H : Hp} (o : Ok p g m H) {a : Addr} (h : H a = none) : g.F a = none := by
  cases q : g.F a with
  | none => rfl
  | some u => rw [o.fh a u q] at h; cases h
theorem Ok.bnone {p : Par} {g : Gh} {m : Store} {H : Hp} (o : Ok p g m H) {a : Addr} (h : H a = none) : g.B a = none := by
  cases q : g.B a with
  | none => rfl
  | some u => exact absurd h (o.bh a (by rw [q]; simp))
/-- a new object, not frozen -/
theorem Ok.raw {p : Par} {g : Gh} {m : Store} {H : Hp} (o : Ok p g m H) {a : Addr} (h : H a = none) (u : HO) : Ok p g m (upd H a u) ∧ Ext g H g (upd H a u) := by
  refine ⟨o.keep (Same.refl _) rfl rfl (same_upd h) (fun b w q => same_upd h b w (o.fh b w q)) o.bf, Le.refl g, fun b w q _ => same_upd h b w q, fun _ _ z => z, fun _ z => z, fun _ _ z => z, fun b q => ?_⟩
  cases z : H b with
  | none => exact absurd z q
  | some w => rw [same_upd h b w z]; simp
/-- what stands and is nobody's is frozen -/
theorem Ok.freeze {p : Par} {g : Gh} {m : Store} {H : Hp} (o : Ok p g m H) {a : Addr} {u : HO} (h : H a = some u) (hb : g.B a = none) (hf : g.F a = none) : Ok p (g.put a u) m H := by
  refine o.keep (same_upd hf) rfl rfl (fun _ _ z => z) (fun b w q => ?_) (fun b q => ?_)
  · show H b = some w
    have q' : upd g.F a u b = some w := q
    by_cases z : b = a
    · subst z
      rw [upd_same] at q'
      rw [h]; exact q'
    · rw [upd_ne z] at q'
      exact o.fh b w q'
  · show upd g.F a u b = none
    have z : b ≠ a := fun z => q (by rw [z]; exact hb)
    rw [upd_ne z]
    exact o.bf b q
theorem Le.put {g : Gh} {a : Addr} {u : HO} (hf : g.F a = none) : Le g (g.put a u) := ⟨same_upd hf, [], by simp [Gh.put]⟩
/-- .. as seen from ahead of its making -/
theorem Ext.freeze {g g' : Gh} {H H' : Hp} (e : Ext g H g' H') {a : Addr} {u : HO} (h : H a = none) (hf : g'.F a = none) : Ext g H (g'.put a u) H' := by
  refine ⟨e.le.trans (Le.put hf), e.hh, fun b q z => ?_, e.bb, e.bn, e.no⟩
  show upd g'.F a u b = none
  rw [upd_ne (fun y => q (by rw [y]; exact h))]
  exact e.fn b q z
/-- a new frozen object -/
theorem Ok.new {p : Par} {g : Gh} {m : Store} {H : Hp} (o : Ok p g m H) {a : Addr} (h : H a = none) (u : HO) : Ok p (g.put a u) m (upd H a u) ∧ Ext g H (g.put a u) (upd H a u) := by
  obtain ⟨o1, e1⟩ := o.raw h u
  exact ⟨o1.freeze upd_same (o.bnone h) (o.fnone h), e1.freeze h (o.fnone h)⟩

/-! ### how a value stands for a datum -/
/-- read now: a list may be somebody's own -/
def RepA (K : PySem.W.Frag) (g : Gh) (H : Hp) (v : V) (d : D) : Prop := match d with
  | .lst ds => ∃ a vs, v = .ref a ∧ H a = some (.lst vs) ∧ g.B a = none ∧ RepL K g vs ds
  | d => Rep K g v d
/-- a list is new since H0 and nobody's -/
def RepF (K : PySem.W.Frag) (H0 : Hp) (g : Gh) (H : Hp) (v : V) (d : D) : Prop := match d with
  | .lst ds => ∃ a vs, v = .ref a ∧ H0 a = none ∧ H a = some (.lst vs) ∧ g.F a = none ∧ g.B a = none ∧ RepL K g vs ds
  | d => Rep K g v d
theorem RepA.of {p : Par} {g : Gh} {m : Store} {H : Hp} (o : Ok p g m H) {v : V} {d : D} (r : Rep p.K g v d) : RepA p.K g H v d := by
  cases d with
  | lst ds =>
    cases r with
    | lst h t =>
      refine ⟨_, _, rfl, o.fh _ _ h, ?_, t⟩
      rename_i a vs
      cases q : g.B a with
      | none => rfl
      | some w =>
        have z := o.bf a (by rw [q]; simp)
        rw [z] at h; cases h
  | _ => exact r
theorem RepA.ext {K : PySem.W.Frag} {g g' : Gh} {H H' : Hp} (e : Ext g H g' H') {v : V} {d : D} (r : RepA K g H v d) : RepA K g' H' v d := by
  cases d with
  | lst ds =>
    obtain ⟨a, vs, e1, h1, h2, h3⟩ := r
    exact ⟨a, vs, e1, e.hh _ _ h1 h2, e.bn a (by rw [h1]; simp) h2, h3.mono e.le⟩
  | non => exact Rep.mono e.le r
  | bl b => exact Rep.mono e.le r
  | int i => exact Rep.mono e.le r
  | str x => exact Rep.mono e.le r
  | tup xs => exact Rep.mono e.le r
  | obj n => exact Rep.mono e.le r
  | scr ns => exact Rep.mono e.le r
theorem RepF.any {K : PySem.W.Frag} {g : Gh} {H0 H : Hp} {v : V} {d : D} (r : RepF K H0 g H v d) : RepA K g H v d := by
  cases d with
  | lst ds =>
    obtain ⟨a, vs, e1, _, h1, _, h2, h3⟩ := r
    exact ⟨a, vs, e1, h1, h2, h3⟩
  | _ => exact r
theorem RepF.from {K : PySem.W.Frag} {g0 g1 g : Gh} {H0 H1 H : Hp} (e : Ext g0 H0 g1 H1) {v : V} {d : D} (r : RepF K H1 g H v d) : RepF K H0 g H v d := by
  cases d with
  | lst ds =>
    obtain ⟨a, vs, e1, h0, h⟩ := r
    exact ⟨a, vs, e1, e.fresh h0, h⟩
  | _ => exact r
/-- a new thing is frozen -/
theorem RepF.frz {p : Par} {g0 g : Gh} {m : Store} {H0 H : Hp} (o : Ok p g m H) (e : Ext g0 H0 g H) {v : V} {d : D} (r : RepF p.K H0 g H v d) : ∃ g', Ok p g' m H ∧ Ext g0 H0 g' H ∧ Rep p.K g' v d := by
  cases d with
  | lst ds =>
    obtain ⟨a, vs, rfl, h0, h1, h2, h3, h4⟩ := r
    exact ⟨g.put a (.lst vs), o.freeze h1 h3 h2, e.freeze h0 h2, .lst (show upd g.F a (.lst vs) a = _ from upd_same) (h4.mono (Le.put h2))⟩
  | _ => exact ⟨g, o, e, r⟩
def RepAL (K : PySem.W.Frag) (g : Gh) (H : Hp) : List V → List D → Prop := Paired (RepA K g H)
theorem RepAL.ext {K : PySem.W.Frag} {g g' : Gh} {H H' : Hp} (e : Ext g H g' H') {vs : List V} {ds : List D} (r : RepAL K g H vs ds) : RepAL K g' H' vs ds := Paired.imp2 r fun _ _ z => z.ext e

/-! ### the frame -/
inductive Md where
  | frz | own | bor
  deriving DecidableEq
structure Fr where
  p : Par
  md : Nat → Md
  g0 : Gh
  H0 : Hp
  W : WX
def SlotR (fr : Fr) (ow : Addr → Option Nat) (g : Gh) (H : Hp) (i : Nat) (v : V) (d : D) : Prop := match fr.md i with
  | .frz => Rep fr.p.K g v d
  | .own => (match d with
    | .lst ds => ∃ a vs, v = .ref a ∧ fr.H0 a = none ∧ H a = some (.lst vs) ∧ g.F a = none ∧ g.B a = none ∧ RepL fr.p.K g vs ds ∧ ow a = some i
    | d => Rep fr.p.K g v d)
  | .bor => (match d with
    | .lst ds => ∃ a vs, v = .ref a ∧ fr.H0 a ≠ none ∧ H a = some (.lst vs) ∧ g.B a = none ∧ RepL fr.p.K g vs ds
    | d => Rep fr.p.K g v d)
structure Rl (fr : Fr) (g : Gh) (H : Hp) (rho : En) (m : Store) (s : St) : Prop where
  ok : Ok fr.p g m H
  ent : Ext fr.g0 fr.H0 g H
  len : rho.length = s.length
  val : ∃ ow : Addr → Option Nat, ∀ (i : Nat) (d : D), rho[i]? = some (some d) → ∃ v, s[i]? = some (some v) ∧ SlotR fr ow g H i v d
theorem SlotR.any {fr : Fr} {ow : Addr → Option Nat} {g : Gh} {m : Store} {H : Hp} {i : Nat} {v : V} {d : D} (o : Ok fr.p g m H) (h : SlotR fr ow g H i v d) : RepA fr.p.K g H v d := by
  unfold SlotR at h
  cases q : fr.md i with
  | frz => rw [q] at h; exact RepA.of o h
  | own =>
    rw [q] at h
    cases d with
    | lst ds =>
      obtain ⟨a, vs, e, _, h1, _, h2, h3, _⟩ := h
      exact ⟨a, vs, e, h1, h2, h3⟩
    | _ => exact RepA.of o h
  | bor =>
    rw [q] at h
    cases d with
    | lst ds =>
      obtain ⟨a, vs, e, _, h1, h2, h3⟩ := h
      exact ⟨a, vs, e, h1, h2, h3⟩
    | _ => exact RepA.of o h
theorem SlotR.ext {fr : Fr} {ow : Addr → Option Nat} {g g' : Gh} {H H' : Hp} {i : Nat} {v : V} {d : D} (e : Ext g H g' H') (h : SlotR fr ow g H i v d) : SlotR fr ow g' H' i v d := by
  unfold SlotR at *
  cases q : fr.md i with
  | frz => rw [q] at h; exact Rep.mono e.le h
  | own =>
    rw [q] at h
    cases d with
    | lst ds =>
      obtain ⟨a, vs, e0, e1, h1, h0, h2, h3, h4⟩ := h
      have z : H a ≠ none := by rw [h1]; simp
      exact ⟨a, vs, e0, e1, e.hh _ _ h1 h2, e.fn a z h0, e.bn a z h2, h3.mono e.le, h4⟩
    | _ => exact Rep.mono e.le h
  | bor =>
    rw [q] at h
    cases d with
    | lst ds =>
      obtain ⟨a, vs, e0, e1, h1, h2, h3⟩ := h
      have z : H a ≠ none := by rw [h1]; simp
      exact ⟨a, vs, e0, e1, e.hh _ _ h1 h2, e.bn a z h2, h3.mono e.le⟩
    | _ => exact Rep.mono e.le h
theorem Rl.ext {fr : Fr} {g g' : Gh} {H H' : Hp} {rho : En} {m m' : Store} {s : St} (r : Rl fr g H rho m s) (e : Ext g H g' H') (o : Ok fr.p g' m' H') : Rl fr g' H' rho m' s := by
  obtain ⟨ow, hv⟩ := r.val
  refine ⟨o, r.ent.trans e, r.len, ow, fun i d h => ?_⟩
  obtain ⟨v, h1, h2⟩ := hv i d h
  exact ⟨v, h1, h2.ext e⟩

/-! ### readings -/
abbrev VR := Hp → Gh → Hp → V → D → Prop
def vA (K : PySem.W.Frag) : VR := fun _ g H v d => RepA K g H v d
def vZ (K : PySem.W.Frag) : VR := fun _ g _ v d => Rep K g v d
def vF (K : PySem.W.Frag) : VR := fun H0 g H v d => RepF K H0 g H v d
def OkE (fr : Fr) (g : Gh) (H : Hp) (s : St) (c : Nat) (m' : Store) : Prop := ∀ g' H', Ext g H g' H' → Ok fr.p g' m' H' → fr.W (fr.p.cls c) none s H'
def TV (fr : Fr) (vr : VR) (f : En → M D) : TE := fun s H Q => ∃ rho g m, Rl fr g H rho m s ∧
  (f rho m).wp (fun d m' => ∀ v g' H', Ext g H g' H' → Ok fr.p g' m' H' → vr H g' H' v d → Q v H') (OkE fr g H s)
def TB (fr : Fr) (f : En → M Bool) : TT := fun s H Q => ∃ rho g m, Rl fr g H rho m s ∧
  (f rho m).wp (fun b m' => ∀ g' H', Ext g H g' H' → Ok fr.p g' m' H' → Q b H') (OkE fr g H s)
def TL (fr : Fr) (f : En → M (List D)) : TA := fun s H Q => ∃ rho g m, Rl fr g H rho m s ∧
  (f rho m).wp (fun ds m' => ∀ vs g' H', Ext g H g' H' → Ok fr.p g' m' H' → RepAL fr.p.K g' H' vs ds → Q vs H') (OkE fr g H s)
theorem OkE.from {fr : Fr} {g g1 : Gh} {H H1 : Hp} {s : St} {c : Nat} {m' : Store} (e : Ext g H g1 H1) (h : OkE fr g H s c m') : OkE fr g1 H1 s c m' := fun g' H' e' o => h g' H' (e.trans e') o

section
variable {X : Cx} {fr : Fr} {x : Expr} {f : En → M D}
theorem pe_weak {t t' : TE} (h : PE X x t) (hw : ∀ s H Q, t' s H Q → t s H Q) : PE X x t' := ⟨fun pins s σ H Q I q => h.run pins s σ H Q I (hw σ H Q q)⟩
theorem pt_weak {t t' : TT} (h : PT X x t) (hw : ∀ s H Q, t' s H Q → t s H Q) : PT X x t' := ⟨fun pins s σ H Q I q => h.run pins s σ H Q I (hw σ H Q q)⟩
theorem pa_weak {xs : List Expr} {t t' : TA} (h : PA X xs t) (hw : ∀ s H Q, t' s H Q → t s H Q) : PA X xs t' := ⟨fun pos pins s σ H Q I q => h.run pos pins s σ H Q I (hw σ H Q q)⟩
theorem toZ (h : PE X x (TV fr (vF fr.p.K) f)) : PE X x (TV fr (vZ fr.p.K) f) := pe_weak h fun s H Q ⟨rho, g, m, r, w⟩ => ⟨rho, g, m, r, wp_mono w (fun d m' q v g' H' e o z => by
  obtain ⟨g2, o2, e2, z2⟩ := RepF.frz o e z
  exact q v g2 H' e2 o2 z2) fun _ _ z => z⟩
theorem toA (h : PE X x (TV fr (vZ fr.p.K) f)) : PE X x (TV fr (vA fr.p.K) f) := pe_weak h fun s H Q ⟨rho, g, m, r, w⟩ => ⟨rho, g, m, r, wp_mono w (fun d m' q v g' H' e o z => q v g' H' e o (RepA.of o z)) fun _ _ z => z⟩
theorem fToA (h : PE X x (TV fr (vF fr.p.K) f)) : PE X x (TV fr (vA fr.p.K) f) := toA (toZ h)
end
end PF

namespace PF
open PySem L2

/-! ### operations on data -/
mutual
def D.eqb : D → D → Bool
  | .non, .non => true
  | .bl a, .bl b => a == b
  | .bl a, .int j => (if a then 1 else 0) == j
  | .int i, .bl b => i == (if b then 1 else 0)
  | .int i, .int j => i == j
  | .str x, .str y => x == y
  | .lst xs, .lst ys => D.eqbL xs ys
  | .tup xs, .tup ys => D.eqbL xs ys
  | _, _ => false
def D.eqbL : List D → List D → Bool
  | [], [] => true
  | x :: xs, y :: ys => D.eqb x y && D.eqbL xs ys
  | _, _ => false
end
mutual
/-- nothing but plain data, so deep -/
def D.pl : D → Bool
  | .non => true
  | .bl _ => true
  | .int _ => true
  | .str x => PyData.strOk x
  | .tup xs => D.plL xs
  | .lst xs => D.plL xs
  | .obj _ => false
  | .scr _ => false
def D.plL : List D → Bool
  | [] => true
  | x :: xs => D.pl x && D.plL xs
end
mutual
def D.dp : D → Nat
  | .tup xs => D.dpL xs + 1
  | .lst xs => D.dpL xs + 1
  | _ => 0
def D.dpL : List D → Nat
  | [] => 0
  | x :: xs => max (D.dp x) (D.dpL xs)
end
mutual
def D.py : D → PyData
  | .non => .none
  | .bl b => .bool b
  | .int i => .int i
  | .str x => .str x
  | .tup xs => .tuple (D.pyL xs)
  | .lst xs => .list (D.pyL xs)
  | .obj _ => .none
  | .scr _ => .none
def D.pyL : List D → List PyData
  | [] => []
  | x :: xs => D.py x :: D.pyL xs
end
mutual
theorem eqv_py : ∀ (d e : D), d.pl = true → e.pl = true → PyData.eqv d.py e.py = d.eqb e
  | .non, e, _, h => by cases e <;> simp_all [D.py, D.eqb, PyData.eqv, D.pl]
  | .bl b, e, _, h => by cases e <;> simp_all [D.py, D.eqb, PyData.eqv, D.pl]
  | .int i, e, _, h => by cases e <;> simp_all [D.py, D.eqb, PyData.eqv, D.pl]
  | .str x, e, _, h => by cases e <;> simp_all [D.py, D.eqb, PyData.eqv, D.pl]
  | .tup xs, e, hd, h => by
    cases e with
    | tup ys => simp only [D.py, D.eqb, PyData.eqv]; exact eqv_pyL xs ys (by simpa [D.pl] using hd) (by simpa [D.pl] using h)
    | _ => simp_all [D.py, D.eqb, PyData.eqv, D.pl]
  | .lst xs, e, hd, h => by
    cases e with
    | lst ys => simp only [D.py, D.eqb, PyData.eqv]; exact eqv_pyL xs ys (by simpa [D.pl] using hd) (by simpa [D.pl] using h)
    | _ => simp_all [D.py, D.eqb, PyData.eqv, D.pl]
  | .obj _, _, hd, _ => by simp [D.pl] at hd
  | .scr _, _, hd, _ => by simp [D.pl] at hd
theorem eqv_pyL : ∀ (d e : List D), D.plL d = true → D.plL e = true → PyData.eqvAll (D.pyL d) (D.pyL e) = D.eqbL d e
  | [], [], _, _ => rfl
  | [], _ :: _, _, _ => rfl
  | _ :: _, [], _, _ => rfl
  | x :: xs, y :: ys, hd, he => by
    simp only [D.plL, Bool.and_eq_true] at hd he
    simp only [D.pyL, D.eqbL, PyData.eqvAll, eqv_py x y hd.1 he.1, eqv_pyL xs ys hd.2 he.2]
end
mutual
theorem lay_py : ∀ d : D, d.pl = true → d.py.canLay0 = true
  | .non, _ => rfl
  | .bl _, _ => rfl
  | .int _, _ => rfl
  | .str _, h => h
  | .tup xs, h => by simp only [D.py, PyData.canLay0]; exact lay_pyL xs (by simpa [D.pl] using h)
  | .lst xs, h => by simp only [D.py, PyData.canLay0]; exact lay_pyL xs (by simpa [D.pl] using h)
  | .obj _, _ => rfl
  | .scr _, _ => rfl
theorem lay_pyL : ∀ d : List D, D.plL d = true → PyData.canLayAll0 (D.pyL d) = true
  | [], _ => rfl
  | x :: xs, h => by
    simp only [D.plL, Bool.and_eq_true] at h
    simp only [D.pyL, PyData.canLayAll0, lay_py x h.1, lay_pyL xs h.2, Bool.and_self]
end
mutual
theorem dp_py : ∀ d : D, d.py.depth = d.dp
  | .non => rfl
  | .bl _ => rfl
  | .int _ => rfl
  | .str _ => rfl
  | .tup xs => by simp only [D.py, D.dp, PyData.depth]; rw [dp_pyL xs]
  | .lst xs => by simp only [D.py, D.dp, PyData.depth]; rw [dp_pyL xs]
  | .obj _ => rfl
  | .scr _ => rfl
theorem dp_pyL : ∀ d : List D, PyData.depthAll (D.pyL d) = D.dpL d
  | [] => rfl
  | x :: xs => by simp only [D.pyL, D.dpL, PyData.depthAll]; rw [dp_py x, dp_pyL xs]
end
mutual
theorem eqb_refl : ∀ d : D, d.pl = true → d.eqb d = true
  | .non, _ => rfl
  | .bl b, _ => by simp [D.eqb]
  | .int i, _ => by simp [D.eqb]
  | .str x, _ => by simp [D.eqb]
  | .tup xs, h => by simp only [D.eqb]; exact eqbL_refl xs (by simpa [D.pl] using h)
  | .lst xs, h => by simp only [D.eqb]; exact eqbL_refl xs (by simpa [D.pl] using h)
  | .obj _, h => by simp [D.pl] at h
  | .scr _, h => by simp [D.pl] at h
theorem eqbL_refl : ∀ d : List D, D.plL d = true → D.eqbL d d = true
  | [], _ => rfl
  | x :: xs, h => by
    simp only [D.plL, Bool.and_eq_true] at h
    simp only [D.eqbL, eqb_refl x h.1, eqbL_refl xs h.2, Bool.and_self]
end
def eqOk (d e : D) : Bool := d.pl && e.pl && decide (d.dp ≤ 64) && decide (e.dp ≤ 64)
def scD : D → D → Bool
  | .non, .non => true
  | .non, .int _ => true
  | .non, .bl _ => true
  | .non, .str _ => true
  | .int _, .non => true
  | .int _, .int _ => true
  | .int _, .str _ => true
  | .bl _, .non => true
  | .bl _, .bl _ => true
  | .bl _, .str _ => true
  | .str _, .non => true
  | .str _, .int _ => true
  | .str _, .bl _ => true
  | .str _, .str _ => true
  | _, _ => false
def eqD (d e : D) : Option D := if (scD d e || eqOk d e) = true then some (.bl (d.eqb e)) else none
def neD (d e : D) : Option D := if (scD d e || eqOk d e) = true then some (.bl (!d.eqb e)) else none
def D.flat : D → Bool
  | .non => true
  | .bl _ => true
  | .int _ => true
  | .str _ => true
  | _ => false
def seqD : D → Option (List D)
  | .tup xs => some xs
  | .lst xs => some xs
  | _ => none
def inD (neg : Bool) (d e : D) : Option D := match seqD e with
  | some xs => if (d.flat && xs.all D.flat) = true then some (.bl (if neg then !(xs.any fun y => y.eqb d) else xs.any fun y => y.eqb d)) else none
  | none => none
def truthD : D → Option Bool
  | .non => some false
  | .bl b => some b
  | .int i => some (i != 0)
  | .str x => if x.length ≤ sizeLine then some ((x.length : Int) != 0) else none
  | .tup xs => some (!xs.isEmpty)
  | .lst xs => some (!xs.isEmpty)
  | _ => none
def mulOk (i j : Int) : Prop := ((-(2 ^ 64) < i ∧ i < 2 ^ 64) ∨ (-(2 ^ 64) < j ∧ j < 2 ^ 64)) ∨ i.natAbs.log2 + j.natAbs.log2 < 1000000
instance (i j : Int) : Decidable (mulOk i j) := by unfold mulOk; infer_instance
def addD : D → D → Option D
  | .int i, .int j => some (.int (i + j))
  | .str x, .str y => if x.length + y.length ≤ sizeLine then some (.str (x ++ y)) else none
  | .lst xs, .lst ys => if xs.length + ys.length ≤ sizeLine then some (.lst (xs ++ ys)) else none
  | .tup xs, .tup ys => if xs.length + ys.length ≤ sizeLine then some (.tup (xs ++ ys)) else none
  | _, _ => none
def subD : D → D → Option D
  | .int i, .int j => some (.int (i - j))
  | _, _ => none
def mulD : D → D → Option D
  | .int i, .int j => if mulOk i j then some (.int (i * j)) else none
  | .lst xs, .int k => if -(2 ^ 63) ≤ k ∧ k < 2 ^ 63 ∧ xs.length * k.toNat ≤ sizeLine then some (.lst (List.replicate k.toNat xs).flatten) else none
  | .tup xs, .int k => if xs ≠ [] ∧ 2 ≤ k ∧ k ≤ 1000 ∧ xs.length ≤ 1000 then some (.tup (List.replicate k.toNat xs).flatten) else none
  | _, _ => none
def divOk (j : Int) : Prop := 0 < j ∧ j.natAbs.log2 < 9000
instance (j : Int) : Decidable (divOk j) := by unfold divOk; infer_instance
def divD : D → D → Option D
  | .int i, .int j => if divOk j then some (.int (i / j)) else none
  | _, _ => none
def modD : D → D → Option D
  | .int i, .int j => if 0 < j then some (.int (i % j)) else none
  | _, _ => none
def powOk (i j : Int) : Prop := 0 ≤ j ∧ j ≤ 1000000 ∧ i.natAbs < 2 ^ 64
instance (i j : Int) : Decidable (powOk i j) := by unfold powOk; infer_instance
def powD : D → D → Option D
  | .int i, .int j => if powOk i j then some (.int (i ^ j.toNat)) else none
  | _, _ => none
def ltD : D → D → Option D
  | .int i, .int j => some (.bl (decide (i < j)))
  | _, _ => none
def leD : D → D → Option D
  | .int i, .int j => some (.bl (decide (i ≤ j)))
  | _, _ => none
def gtD : D → D → Option D
  | .int i, .int j => some (.bl (decide (j < i)))
  | _, _ => none
def geD : D → D → Option D
  | .int i, .int j => some (.bl (decide (j ≤ i)))
  | _, _ => none
def negD : D → Option D
  | .int i => some (.int (-i))
  | _ => none
def ixD : D → D → Option D
  | .tup xs, .int i => atI xs i
  | .lst xs, .int i => atI xs i
  | .scr ns, .int i => (atI ns i).map D.int
  | .str z, .int i => if z.length ≤ sizeLine then (atI z.cps.toList i).map fun c => .str ⟨#[c]⟩ else none
  | _, _ => none
def cutL {α : Type} (xs : List α) (lo hi : Option Int) : List α := (xs.drop (HT.sIx xs.length 0 lo)).take (HT.sIx xs.length xs.length hi - HT.sIx xs.length 0 lo)
def slD (d : D) (lo hi : Option Int) : Option D := match d with
  | .lst xs => some (.lst (cutL xs lo hi))
  | .tup xs => some (.tup (cutL xs lo hi))
  | _ => none
def lenD : D → Option D
  | .tup xs => some (.int xs.length)
  | .lst xs => some (.int xs.length)
  | .scr ns => some (.int ns.length)
  | .str x => if x.length ≤ sizeLine then some (.int x.length) else none
  | _ => none

/-! ### reading what stands for a datum -/
section
variable {K : PySem.W.Frag} {g : Gh} {H : Hp} {v : V}
theorem RepA.int {i : Int} (h : RepA K g H v (.int i)) : v = .int i := by
  have h' : Rep K g v (.int i) := h
  cases h'; rfl
theorem RepA.str {x : Str} (h : RepA K g H v (.str x)) : v = .str x := by
  have h' : Rep K g v (.str x) := h
  cases h'; rfl
theorem RepA.bl {b : Bool} (h : RepA K g H v (.bl b)) : v = .bl b := by
  have h' : Rep K g v (.bl b) := h
  cases h'; rfl
theorem RepA.non (h : RepA K g H v .non) : v = .non := by
  have h' : Rep K g v .non := h
  cases h'; rfl
theorem RepA.tup {ds : List D} (h : RepA K g H v (.tup ds)) : ∃ a vs, v = .ref a ∧ g.F a = some (.tup vs) ∧ RepL K g vs ds := by
  have h' : Rep K g v (.tup ds) := h
  cases h' with
  | tup h1 t => exact ⟨_, _, rfl, h1, t⟩
theorem RepA.scr {ns : List Int} (h : RepA K g H v (.scr ns)) : ∃ a, v = .ref a ∧ SqL K g.F a (ns.map V.int) := by
  have h' : Rep K g v (.scr ns) := h
  cases h' with
  | scr h1 => exact ⟨_, rfl, h1⟩
theorem RepA.lst {ds : List D} (h : RepA K g H v (.lst ds)) : ∃ a vs, v = .ref a ∧ H a = some (.lst vs) ∧ g.B a = none ∧ RepL K g vs ds := h
end
section
variable {p : Par} {g : Gh} {m : Store} {H : Hp} {Q : VK}
/-- what a rule's answer must give -/
abbrev Ans (p : Par) (g : Gh) (m : Store) (H : Hp) (d : D) (Q : VK) : Prop := ∀ v g' H', Ext g H g' H' → Ok p g' m H' → RepF p.K H g' H' v d → Q v H'
theorem Ans.flat (o : Ok p g m H) {v : V} {d : D} (r : Rep p.K g v d) (hd : ∀ ds, d ≠ .lst ds) (q : Ans p g m H d Q) : Q v H := q v g H (Ext.refl g H) o (by
  cases d with
  | lst ds => exact absurd rfl (hd ds)
  | _ => exact r)
theorem Ans.int (o : Ok p g m H) {i : Int} (q : Ans p g m H (.int i) Q) : Q (.int i) H := Ans.flat o (.int i) (fun _ z => by cases z) q
theorem Ans.bl (o : Ok p g m H) {b : Bool} (q : Ans p g m H (.bl b) Q) : Q (.bl b) H := Ans.flat o (.bl b) (fun _ z => by cases z) q
theorem Ans.str (o : Ok p g m H) {x : Str} (q : Ans p g m H (.str x) Q) : Q (.str x) H := Ans.flat o (.str x) (fun _ z => by cases z) q
theorem Ans.newL (o : Ok p g m H) {vs : List V} {ds : List D} (r : RepL p.K g vs ds) (q : Ans p g m H (.lst ds) Q) : ∀ a, H a = none → Q (.ref a) (upd H a (.lst vs)) := fun a ha => by
  obtain ⟨o1, e1⟩ := o.raw ha (.lst vs)
  exact q _ g _ e1 o1 ⟨a, vs, rfl, ha, upd_same, o.fnone ha, o.bnone ha, r⟩
theorem Ans.newT (o : Ok p g m H) {vs : List V} {ds : List D} (r : RepL p.K g vs ds) (q : Ans p g m H (.tup ds) Q) : ∀ a, H a = none → Q (.ref a) (upd H a (.tup vs)) := fun a ha => by
  obtain ⟨o1, e1⟩ := o.new ha (.tup vs)
  exact q _ _ _ e1 o1 (show Rep p.K _ (.ref a) (.tup ds) from .tup (show upd g.F a (.tup vs) a = _ from upd_same) (r.mono (Le.put (o.fnone ha))))
theorem Ok.sqT (o : Ok p g m H) {K : PySem.W.Frag} {a : Addr} {vs : List V} (h : g.F a = some (.tup vs)) : SqT K H a vs := SqT.of (o.fh _ _ h)

/-- a rule of two values does what sem says -/
def Im2 (r : PySem.W.Frag → R2) (sem : D → D → Option D) : Prop := ∀ (p : Par) (g : Gh) (m : Store) (H : Hp) (x y : V) (dx dy d : D) (Q : VK), Ok p g m H → RepA p.K g H x dx → RepA p.K g H y dy → sem dx dy = some d → Ans p g m H d Q → r p.K x y H Q
def Im1 (r : PySem.W.Frag → V → Hp → VK → Prop) (sem : D → Option D) : Prop := ∀ (p : Par) (g : Gh) (m : Store) (H : Hp) (x : V) (dx d : D) (Q : VK), Ok p g m H → RepA p.K g H x dx → sem dx = some d → Ans p g m H d Q → r p.K x H Q
def ImL (r : PySem.W.Frag → List V → Hp → VK → Prop) (sem : List D → Option D) : Prop := ∀ (p : Par) (g : Gh) (m : Store) (H : Hp) (xs : List V) (dxs : List D) (d : D) (Q : VK), Ok p g m H → RepAL p.K g H xs dxs → sem dxs = some d → Ans p g m H d Q → r p.K xs H Q
end

/-! ### operators -/
abbrev rPlus (K : PySem.W.Frag) : R2 := fun x y H Q => (rI0 (fun i j => .int (i + j)) x y H Q) ∨ ((∃ i j, x = .str i ∧ y = .str j ∧ i.length + j.length ≤ sizeLine ∧ Q (.str (i ++ j)) H) ∨ (rCat x y H Q ∨ rCatA K x y H Q))
theorem o_plus {X : Cx} : OpR X (binaryOp .Add) (rPlus X.K) := op_add.or (op_add_str.or (op_cat.or op_catA))
theorem im_plus : Im2 rPlus addD := by
  intro p g m H x y dx dy d Q o rx ry e q
  unfold addD at e
  split at e
  · cases e
    rw [rx.int, ry.int]
    exact .inl ⟨_, _, rfl, rfl, q.int o⟩
  · split at e
    · cases e
      rw [rx.str, ry.str]
      rename_i h
      exact .inr (.inl ⟨_, _, rfl, rfl, h, q.str o⟩)
    · cases e
  · split at e
    · cases e
      rename_i h
      obtain ⟨a, vs, rfl, h1, h2, h3⟩ := rx.lst
      obtain ⟨b, ws, rfl, k1, k2, k3⟩ := ry.lst
      exact .inr (.inr (.inl ⟨a, b, vs, ws, rfl, rfl, h1, k1, by rw [h3.length, k3.length]; exact h, q.newL o (h3.append k3)⟩))
    · cases e
  · split at e
    · cases e
      rename_i h
      obtain ⟨a, vs, rfl, h1, h3⟩ := rx.tup
      obtain ⟨b, ws, rfl, k1, k3⟩ := ry.tup
      refine .inr (.inr (.inr ⟨a, b, vs, ws, rfl, rfl, o.sqT h1, o.sqT k1, by rw [h3.length, k3.length]; exact h, fun z => ?_, fun _ z => ?_, fun _ _ => q.newT o (h3.append k3)⟩))
      · subst z
        cases h3
        exact q.flat o (.tup k1 k3) (fun _ z => by cases z)
      · subst z
        cases k3
        exact q.flat o (.tup h1 (by rw [List.append_nil]; exact h3)) (fun _ z => by cases z)
    · cases e
  · cases e
abbrev rMinus (K : PySem.W.Frag) : R2 := rI0 (fun i j => .int (i - j))
theorem im_minus : Im2 rMinus subD := by
  intro p g m H x y dx dy d Q o rx ry e q
  unfold subD at e
  split at e
  · cases e
    rw [rx.int, ry.int]
    exact ⟨_, _, rfl, rfl, q.int o⟩
  · cases e
abbrev rTimes (K : PySem.W.Frag) : R2 := fun x y H Q => (rI CMul (fun i j => .int (i * j)) x y H Q) ∨ ((rI CMulW (fun i j => .int (i * j)) x y H Q) ∨ (rRep x y H Q ∨ rRepT K x y H Q))
theorem o_times {X : Cx} : OpR X (binaryOp .Mult) (rTimes X.K) := op_mul.or (op_mulW.or (op_rep.or op_repT))
theorem RepL.rep {K : PySem.W.Frag} {g : Gh} {vs : List V} {ds : List D} (r : RepL K g vs ds) : ∀ n : Nat, RepL K g (List.replicate n vs).flatten (List.replicate n ds).flatten
  | 0 => .nil
  | n + 1 => by
    rw [List.replicate_succ, List.replicate_succ, List.flatten_cons, List.flatten_cons]
    exact r.append (RepL.rep r n)
theorem im_times : Im2 rTimes mulD := by
  intro p g m H x y dx dy d Q o rx ry e q
  unfold mulD at e
  split at e
  · split at e
    · cases e
      rename_i h
      rw [rx.int, ry.int]
      rcases h with h | h
      · exact .inl ⟨_, _, rfl, rfl, h, q.int o⟩
      · exact .inr (.inl ⟨_, _, rfl, rfl, h, q.int o⟩)
    · cases e
  · split at e
    · cases e
      rename_i h
      obtain ⟨h1, h2, h3⟩ := h
      obtain ⟨a, vs, rfl, k1, k2, k3⟩ := rx.lst
      rw [ry.int]
      exact .inr (.inr (.inl ⟨a, _, vs, rfl, rfl, k1, h1, h2, by rw [k3.length]; exact h3, q.newL o (k3.rep _)⟩))
    · cases e
  · split at e
    · cases e
      rename_i h
      obtain ⟨h1, h2, h3, h4⟩ := h
      obtain ⟨a, vs, rfl, k1, k3⟩ := rx.tup
      rw [ry.int]
      refine .inr (.inr (.inr ⟨a, _, vs, rfl, rfl, o.sqT k1, fun z => ?_, h2, h3, by rw [k3.length]; exact h4, q.newT o (k3.rep _)⟩))
      subst z
      cases k3
      exact h1 rfl
    · cases e
  · cases e
abbrev rDiv (K : PySem.W.Frag) : R2 := rI CDivW (fun i j => .int (i / j))
theorem im_div : Im2 rDiv divD := by
  intro p g m H x y dx dy d Q o rx ry e q
  unfold divD at e
  split at e
  · split at e
    · cases e
      rename_i h
      rw [rx.int, ry.int]
      exact ⟨_, _, rfl, rfl, h, q.int o⟩
    · cases e
  · cases e
abbrev rMod (K : PySem.W.Frag) : R2 := rI (fun _ j => 0 < j) (fun i j => .int (i % j))
theorem im_mod : Im2 rMod modD := by
  intro p g m H x y dx dy d Q o rx ry e q
  unfold modD at e
  split at e
  · split at e
    · cases e
      rename_i h
      rw [rx.int, ry.int]
      exact ⟨_, _, rfl, rfl, h, q.int o⟩
    · cases e
  · cases e
abbrev rPow (K : PySem.W.Frag) : R2 := rI CPow (fun i j => .int (i ^ j.toNat))
theorem im_pow : Im2 rPow powD := by
  intro p g m H x y dx dy d Q o rx ry e q
  unfold powD at e
  split at e
  · split at e
    · cases e
      rename_i h
      rw [rx.int, ry.int]
      exact ⟨_, _, rfl, rfl, h, q.int o⟩
    · cases e
  · cases e
abbrev rCmpI (f : Int → Int → Bool) (K : PySem.W.Frag) : R2 := rI0 (fun i j => .bl (f i j))
theorem im_lt : Im2 (rCmpI fun i j => decide (i < j)) ltD := by
  intro p g m H x y dx dy d Q o rx ry e q
  unfold ltD at e
  split at e
  · cases e
    rw [rx.int, ry.int]
    exact ⟨_, _, rfl, rfl, q.bl o⟩
  · cases e
theorem im_le : Im2 (rCmpI fun i j => decide (i ≤ j)) leD := by
  intro p g m H x y dx dy d Q o rx ry e q
  unfold leD at e
  split at e
  · cases e
    rw [rx.int, ry.int]
    exact ⟨_, _, rfl, rfl, q.bl o⟩
  · cases e
theorem im_gt : Im2 (rCmpI fun i j => decide (j < i)) gtD := by
  intro p g m H x y dx dy d Q o rx ry e q
  unfold gtD at e
  split at e
  · cases e
    rw [rx.int, ry.int]
    exact ⟨_, _, rfl, rfl, q.bl o⟩
  · cases e
theorem im_ge : Im2 (rCmpI fun i j => decide (j ≤ i)) geD := by
  intro p g m H x y dx dy d Q o rx ry e q
  unfold geD at e
  split at e
  · cases e
    rw [rx.int, ry.int]
    exact ⟨_, _, rfl, rfl, q.bl o⟩
  · cases e
/-! == -/
mutual
theorem Rep.dp {p : Par} {g : Gh} {m : Store} {H : Hp} (o : Ok p g m H) : ∀ {v : V} {d : D}, Rep p.K g v d → d.pl = true → Dp p.K H v d.py
  | _, _, .non, _ => .non
  | _, _, .bl b, _ => .bl b
  | _, _, .int i, _ => .int i
  | _, _, .str x, _ => .str x
  | _, _, .tup h r, e => .tup (SqT.of (o.fh _ _ h)) (RepL.dp o r (by simpa [D.pl] using e))
  | _, _, .lst h r, e => .lst (SqL.of (o.fh _ _ h)) (RepL.dp o r (by simpa [D.pl] using e))
  | _, _, .obj _, e => by simp [D.pl] at e
  | _, _, .scr _, e => by simp [D.pl] at e
theorem RepL.dp {p : Par} {g : Gh} {m : Store} {H : Hp} (o : Ok p g m H) : ∀ {vs : List V} {ds : List D}, RepL p.K g vs ds → D.plL ds = true → DpAll p.K H vs (D.pyL ds)
  | _, _, .nil, _ => .nil
  | _, _, .cons h t, e => by
    simp only [D.plL, Bool.and_eq_true] at e
    exact .cons (Rep.dp o h e.1) (RepL.dp o t e.2)
end
theorem RepA.dp {p : Par} {g : Gh} {m : Store} {H : Hp} (o : Ok p g m H) {v : V} {d : D} (r : RepA p.K g H v d) (h : d.pl = true) : Dp p.K H v d.py := by
  cases d with
  | lst ds =>
    obtain ⟨a, vs, rfl, h1, _, h3⟩ := r.lst
    exact .lst (SqL.of h1) (h3.dp o (by simpa [D.pl] using h))
  | _ => exact Rep.dp o r h
theorem eqOk_iff {d e : D} : eqOk d e = true ↔ d.pl = true ∧ e.pl = true ∧ d.dp ≤ 64 ∧ e.dp ≤ 64 := by
  simp [eqOk, and_assoc]
theorem shaped_py {d : D} (h0 : d.pl = true) (h : d.dp ≤ 64) : SeqAt.shaped d.py = true := by
  unfold SeqAt.shaped
  rw [lay_py d h0, dp_py]
  simp [h]
theorem scD_rep {K : PySem.W.Frag} {g : Gh} {H : Hp} {x y : V} {d e : D} (h : scD d e = true) (rx : RepA K g H x d) (ry : RepA K g H y e) : scal x y = true ∧ decide (x = y) = d.eqb e := by
  unfold scD at h
  split at h
  all_goals first
    | (cases h; done)
    | (first | rw [rx.non] | rw [rx.int] | rw [rx.bl] | rw [rx.str]
       first | rw [ry.non] | rw [ry.int] | rw [ry.bl] | rw [ry.str]
       refine ⟨rfl, ?_⟩
       first
         | (simp [D.eqb]; done)
         | (rw [D.eqb, Bool.eq_iff_iff]; simp; done))
abbrev rEq2 (K : PySem.W.Frag) : R2 := fun x y H Q => rEq x y H Q ∨ rEqD K x y H Q
abbrev rNe2 (K : PySem.W.Frag) : R2 := fun x y H Q => rNe x y H Q ∨ rNeD K x y H Q
theorem im_eq : Im2 rEq2 eqD := by
  intro p g m H x y dx dy d Q o rx ry e q
  unfold eqD at e
  split at e
  · rename_i h
    cases e
    rw [Bool.or_eq_true] at h
    rcases h with h | h
    · obtain ⟨h1, h2⟩ := scD_rep h rx ry
      exact .inl ⟨h1, by rw [h2]; exact q.bl o⟩
    · obtain ⟨h1, h2, h3, h4⟩ := eqOk_iff.mp h
      refine .inr ⟨dx.py, dy.py, rx.dp o h1, ry.dp o h2, shaped_py h1 h3, shaped_py h2 h4, ?_⟩
      rw [eqv_py _ _ h1 h2]
      exact q.bl o
  · cases e
theorem im_ne : Im2 rNe2 neD := by
  intro p g m H x y dx dy d Q o rx ry e q
  unfold neD at e
  split at e
  · rename_i h
    cases e
    rw [Bool.or_eq_true] at h
    rcases h with h | h
    · obtain ⟨h1, h2⟩ := scD_rep h rx ry
      exact .inl ⟨h1, by rw [h2]; exact q.bl o⟩
    · obtain ⟨h1, h2, h3, h4⟩ := eqOk_iff.mp h
      refine .inr ⟨dx.py, dy.py, rx.dp o h1, ry.dp o h2, shaped_py h1 h3, shaped_py h2 h4, ?_⟩
      rw [eqv_py _ _ h1 h2]
      exact q.bl o
  · cases e
/-! in -/
theorem Rep.flat {K : PySem.W.Frag} {g : Gh} {v : V} {d : D} (r : Rep K g v d) (h : d.flat = true) : flatV v = true := by
  cases r <;> first | rfl | simp [D.flat] at h
theorem RepA.flat {K : PySem.W.Frag} {g : Gh} {H : Hp} {v : V} {d : D} (r : RepA K g H v d) (h : d.flat = true) : Rep K g v d := by
  cases d <;> first | exact r | simp [D.flat] at h
theorem eqV_rep {K : PySem.W.Frag} {g : Gh} {v w : V} {d e : D} (r : Rep K g v d) (s : Rep K g w e) (h : d.flat = true) (k : e.flat = true) : eqV v w = d.eqb e := by
  cases r <;> first | (simp [D.flat] at h; done) | (cases s <;> first | (simp [D.flat] at k; done) | rfl)
theorem inV_rep {K : PySem.W.Frag} {g : Gh} {w : V} {e : D} (s : Rep K g w e) (k : e.flat = true) : ∀ {vs : List V} {ds : List D}, RepL K g vs ds → ds.all D.flat = true → inV w vs = (ds.any fun y => y.eqb e) ∧ vs.all flatV = true
  | _, _, .nil, _ => ⟨rfl, rfl⟩
  | _, _, .cons h t, z => by
    simp only [List.all_cons, Bool.and_eq_true] at z
    obtain ⟨e1, e2⟩ := inV_rep s k t z.2
    refine ⟨?_, by rw [List.all_cons, h.flat z.1, e2]; rfl⟩
    unfold inV at e1 ⊢
    rw [List.any_cons, List.any_cons, e1, eqV_rep h s z.1 k]
theorem im_in (neg : Bool) : Im2 (fun K => rIn K neg) (inD neg) := by
  intro p g m H x y dx dy d Q o rx ry e q
  unfold inD at e
  split at e
  · rename_i xs hx
    split at e
    · rename_i h
      cases e
      simp only [Bool.and_eq_true] at h
      have rx' := rx.flat h.1
      cases dy with
      | lst ds =>
        cases hx
        obtain ⟨a, vs, rfl, h1, _, h3⟩ := ry.lst
        obtain ⟨e1, e2⟩ := inV_rep rx' h.1 h3 h.2
        refine ⟨a, vs, rfl, .inl (SqL.of h1), rx'.flat h.1, e2, ?_⟩
        rw [e1]
        exact q.bl o
      | tup ds =>
        cases hx
        obtain ⟨a, vs, rfl, h1, h3⟩ := ry.tup
        obtain ⟨e1, e2⟩ := inV_rep rx' h.1 h3 h.2
        refine ⟨a, vs, rfl, .inr (o.sqT h1), rx'.flat h.1, e2, ?_⟩
        rw [e1]
        exact q.bl o
      | _ => cases hx
    · cases e
  · cases e
/-! subscripts, slices, len -/
theorem atI_rep {K : PySem.W.Frag} {g : Gh} {vs : List V} {ds : List D} {i : Int} {d : D} (r : RepL K g vs ds) (h : atI ds i = some d) : ∃ v, atI vs i = some v ∧ Rep K g v d := by
  unfold atI at *
  rw [r.length]
  cases q : ixN ds.length i with
  | none => rw [q] at h; cases h
  | some j =>
    rw [q] at h
    obtain ⟨v, h1, h2⟩ := r.get (show ds[j]? = some d from h)
    exact ⟨v, h1, h2⟩
theorem atI_map {α β : Type} {f : α → β} {xs : List α} {i : Int} : atI (xs.map f) i = (atI xs i).map f := by
  unfold atI
  rw [List.length_map]
  cases ixN xs.length i with
  | none => rfl
  | some j => simp
/-- an item: as frozen as the list's items are -/
theorem im_ix : ∀ (p : Par) (g : Gh) (m : Store) (H : Hp) (x y : V) (dx dy d : D) (Q : VK), Ok p g m H → RepA p.K g H x dx → RepA p.K g H y dy → ixD dx dy = some d → (∀ v, Rep p.K g v d → Q v H) → rIx p.K x y H Q := by
  intro p g m H x y dx dy d Q o rx ry e q
  unfold ixD at e
  split at e
  · obtain ⟨a, vs, rfl, h1, h3⟩ := rx.tup
    rw [ry.int]
    obtain ⟨v, e1, e2⟩ := atI_rep h3 e
    exact .inr (.inl ⟨a, vs, _, v, rfl, rfl, o.sqT h1, e1, q v e2⟩)
  · obtain ⟨a, vs, rfl, h1, _, h3⟩ := rx.lst
    rw [ry.int]
    obtain ⟨v, e1, e2⟩ := atI_rep h3 e
    exact .inl ⟨a, vs, _, v, rfl, rfl, SqL.of h1, e1, q v e2⟩
  · rename_i ns i
    obtain ⟨a, rfl, h1⟩ := rx.scr
    rw [ry.int]
    cases z : atI ns i with
    | none => rw [z] at e; cases e
    | some n =>
      rw [z] at e
      cases e
      exact .inl ⟨a, _, _, .int n, rfl, rfl, o.fh.seq h1, by rw [atI_map, z]; rfl, q _ (.int n)⟩
  · split at e
    · rename_i z i hz
      rw [rx.str, ry.int]
      cases w : atI z.cps.toList i with
      | none => rw [w] at e; cases e
      | some c =>
        rw [w] at e
        cases e
        exact .inr (.inr ⟨z, _, c, rfl, rfl, hz, w, q _ (.str _)⟩)
    · cases e
  · cases e
theorem cutV_eq (xs : List V) (lo hi : Option Int) : cutV xs lo hi = cutL xs lo hi := rfl
theorem cut_rep {K : PySem.W.Frag} {g : Gh} {vs : List V} {ds : List D} (r : RepL K g vs ds) (lo hi : Option Int) : RepL K g (cutL vs lo hi) (cutL ds lo hi) := by
  unfold cutL
  rw [r.length]
  exact (r.drop _).take _
abbrev rSli (K : PySem.W.Frag) : V → Option Int → Option Int → Hp → VK → Prop := fun x lo hi H Q => rSlL K x lo hi H Q ∨ rSlA K x lo hi H Q
theorem o_sli {X : Cx} : L2.SlR X (rSli X.K) := sl_list.or sl_tupA
theorem im_sli (p : Par) (g : Gh) (m : Store) (H : Hp) (x : V) (dx d : D) (lo hi : Option Int) (Q : VK) (o : Ok p g m H) (rx : RepA p.K g H x dx) (e : slD dx lo hi = some d) (q : Ans p g m H d Q) : rSli p.K x lo hi H Q := by
  unfold slD at e
  split at e
  · cases e
    obtain ⟨a, vs, rfl, h1, _, h3⟩ := rx.lst
    exact .inl ⟨a, vs, rfl, SqL.of h1, q.newL o (cut_rep h3 lo hi)⟩
  · cases e
    obtain ⟨a, vs, rfl, h1, h3⟩ := rx.tup
    refine .inr ⟨a, vs, rfl, o.sqT h1, fun z => ?_, fun _ => q.newT o (cut_rep h3 lo hi)⟩
    refine q.flat o (.tup h1 ?_) (fun _ z => by cases z)
    have w := cut_rep h3 lo hi
    have e1 : cutL vs lo hi = vs := by
      unfold cutL
      rw [z.1, z.2]
      simp
    rw [e1] at w
    exact w
  · cases e
abbrev rLen1 (K : PySem.W.Frag) : List V → Hp → VK → Prop := fun xs H Q => (∃ p ys, xs = [.ref p] ∧ (SqL K H p ys ∨ SqT K H p ys) ∧ Q (.int ys.length) H) ∨ (∃ z, xs = [.str z] ∧ z.length ≤ sizeLine ∧ Q (.int z.length) H)
theorem o_len {X : Cx} : CallR X (.builtin "len") (rLen1 X.K) := call_len_seq.or call_len_str
def one (f : D → Option D) : List D → Option D
  | [d] => f d
  | _ => none
def two (f : D → D → Option D) : List D → Option D
  | [d, e] => f d e
  | _ => none
theorem RepAL.one {K : PySem.W.Frag} {g : Gh} {H : Hp} {xs : List V} {d : D} (r : RepAL K g H xs [d]) : ∃ v, xs = [v] ∧ RepA K g H v d := by
  cases r with
  | cons h t => cases t; exact ⟨_, rfl, h⟩
theorem RepAL.two {K : PySem.W.Frag} {g : Gh} {H : Hp} {xs : List V} {d e : D} (r : RepAL K g H xs [d, e]) : ∃ v w, xs = [v, w] ∧ RepA K g H v d ∧ RepA K g H w e := by
  cases r with
  | cons h t =>
    cases t with
    | cons h2 t2 => cases t2; exact ⟨_, _, rfl, h, h2⟩
theorem one_some {f : D → Option D} {ds : List D} {d : D} (h : one f ds = some d) : ∃ e, ds = [e] ∧ f e = some d := by
  unfold one at h
  split at h
  · exact ⟨_, rfl, h⟩
  · cases h
theorem two_some {f : D → D → Option D} {ds : List D} {d : D} (h : two f ds = some d) : ∃ a b, ds = [a, b] ∧ f a b = some d := by
  unfold two at h
  split at h
  · exact ⟨_, _, rfl, h⟩
  · cases h
theorem im_len : ImL rLen1 (one lenD) := by
  intro p g m H xs dxs d Q o rx e q
  obtain ⟨dx, rfl, e1⟩ := one_some e
  obtain ⟨v, rfl, r⟩ := rx.one
  revert e1
  clear e
  intro e
  unfold lenD at e
  split at e
  · cases e
    obtain ⟨a, vs, rfl, h1, h3⟩ := r.tup
    exact .inl ⟨a, vs, rfl, .inr (o.sqT h1), by rw [h3.length]; exact q.int o⟩
  · cases e
    obtain ⟨a, vs, rfl, h1, _, h3⟩ := r.lst
    exact .inl ⟨a, vs, rfl, .inl (SqL.of h1), by rw [h3.length]; exact q.int o⟩
  · cases e
    obtain ⟨a, rfl, h1⟩ := r.scr
    exact .inl ⟨a, _, rfl, .inl (o.fh.seq h1), by rw [List.length_map]; exact q.int o⟩
  · split at e
    · rename_i h
      cases e
      rw [r.str]
      exact .inr ⟨_, rfl, h, q.int o⟩
    · cases e
  · cases e
/-! truth -/
theorem im_truth {p : Par} {g : Gh} {m : Store} {H : Hp} {x : V} {d : D} {b : Bool} (o : Ok p g m H) (r : RepA p.K g H x d) (e : truthD d = some b) : TruV p.K x H b := by
  unfold truthD at e
  split at e
  · cases e; rw [r.non]; rfl
  · cases e; rw [r.bl]; rfl
  · cases e; rw [r.int]; rfl
  · split at e
    · rename_i h
      cases e; rw [r.str]; exact ⟨h, rfl⟩
    · cases e
  · cases e
    obtain ⟨a, vs, rfl, h1, h3⟩ := r.tup
    refine .inr (.inl ⟨vs, o.sqT h1, ?_⟩)
    cases h3 <;> rfl
  · cases e
    obtain ⟨a, vs, rfl, h1, _, h3⟩ := r.lst
    refine .inl ⟨vs, SqL.of h1, ?_⟩
    cases h3 <;> rfl
  · cases e
end PF

namespace PF
open PySem L2

/-! ### expressions: what they are worth -/
section
variable {X : Cx} {fr : Fr} {a b c e : Expr} {es : List Expr} {pos : Pos} {f fa fb fc : En → M D} {fs : En → M (List D)}

def evVar (i : Nat) (rho : En) : M D := lift (rho[i]?).join
theorem join_some {o : Option (Option D)} {d : D} (h : o.join = some d) : o = some (some d) := by
  cases o with
  | none => cases h
  | some z => cases z with
    | none => cases h
    | some w => cases h; rfl
theorem e_var {i : Nat} {x : Str} (hN : X.N[i]? = some x) (hv : Vis X.env.scope x) (hd : (x == ("__debug__" : Str)) = false) (hcd : (x == ("__classdict__" : Str)) = false) : PE X (.Name x pos) (TV fr (vA fr.p.K) (evVar i)) :=
  pe_weak (pe_var hN hv hd hcd) fun s H Q ⟨rho, g, m, r, w⟩ => by
    obtain ⟨d, h1, q⟩ := wp_lift.mp w
    obtain ⟨ow, hval⟩ := r.val
    obtain ⟨v, h2, h3⟩ := hval i d (join_some h1)
    exact ⟨v, h2, q v g H (Ext.refl g H) r.ok (h3.any r.ok)⟩
theorem e_varZ {i : Nat} {x : Str} (hm : fr.md i = .frz) (hN : X.N[i]? = some x) (hv : Vis X.env.scope x) (hd : (x == ("__debug__" : Str)) = false) (hcd : (x == ("__classdict__" : Str)) = false) : PE X (.Name x pos) (TV fr (vZ fr.p.K) (evVar i)) :=
  pe_weak (pe_var hN hv hd hcd) fun s H Q ⟨rho, g, m, r, w⟩ => by
    obtain ⟨d, h1, q⟩ := wp_lift.mp w
    obtain ⟨ow, hval⟩ := r.val
    obtain ⟨v, h2, h3⟩ := hval i d (join_some h1)
    unfold SlotR at h3
    rw [hm] at h3
    exact ⟨v, h2, q v g H (Ext.refl g H) r.ok h3⟩
theorem tC_ok {v : V} {d : D} (hr : ∀ K g, Rep K g v d) (hd : ∀ ds, d ≠ .lst ds) (s : St) (H : Hp) (Q : VK) (h : TV fr (vF fr.p.K) (fun _ => ret d) s H Q) : tC v s H Q := by
  obtain ⟨rho, g, m, r, w⟩ := h
  exact Ans.flat r.ok (hr _ _) hd w
theorem e_int {i : Int} {j : Nat} : PE X (.Constant (.int i) j pos) (TV fr (vF fr.p.K) (fun _ => ret (.int i))) := pe_weak pe_int (tC_ok (fun _ _ => .int i) fun _ z => by cases z)
theorem e_bl {i : Bool} {j : Nat} : PE X (.Constant (.bool i) j pos) (TV fr (vF fr.p.K) (fun _ => ret (.bl i))) := pe_weak pe_bl (tC_ok (fun _ _ => .bl i) fun _ z => by cases z)
theorem e_str {i : Str} {j : Nat} : PE X (.Constant (.str i) j pos) (TV fr (vF fr.p.K) (fun _ => ret (.str i))) := pe_weak pe_str (tC_ok (fun _ _ => .str i) fun _ z => by cases z)
theorem e_non {j : Nat} : PE X (.Constant .none j pos) (TV fr (vF fr.p.K) (fun _ => ret .non)) := pe_weak pe_non (tC_ok (fun _ _ => .non) fun _ z => by cases z)
theorem e_gint {x : Str} {i : Int} {t : Tok} (hg : Gl X x) (hm : X.mg x = some (.int i t)) (hd : (x == ("__debug__" : Str)) = false) : PE X (.Name x pos) (TV fr (vF fr.p.K) (fun _ => ret (.int i))) := pe_weak (pe_glob (v := .int i) hg hm ⟨t, rfl⟩ hd) (tC_ok (fun _ _ => .int i) fun _ z => by cases z)

def ev2 (sem : D → D → Option D) (fa fb : En → M D) (rho : En) : M D := bnd (fa rho) fun x => bnd (fb rho) fun y => lift (sem x y)
theorem tOp_ok {r : PySem.W.Frag → R2} {sem : D → D → Option D} (im : Im2 r sem) (s : St) (H : Hp) (Q : VK) (h : TV fr (vF fr.p.K) (ev2 sem fa fb) s H Q) : tOp (r fr.p.K) (TV fr (vA fr.p.K) fa) (TV fr (vA fr.p.K) fb) s H Q := by
  obtain ⟨rho, g, m, rl, w⟩ := h
  refine ⟨rho, g, m, rl, wp_mono (wp_bnd.mp w) (fun dx m1 w1 v g1 H1 e1 o1 r1 => ?_) fun _ _ z => z⟩
  refine ⟨rho, g1, m1, rl.ext e1 o1, wp_mono (wp_bnd.mp w1) (fun dy m2 w2 u g2 H2 e2 o2 r2 => ?_) fun _ _ z => z.from e1⟩
  obtain ⟨d, hd, q⟩ := wp_lift.mp w2
  exact im fr.p g2 m2 H2 v u dx dy d Q o2 (RepA.ext e2 r1) r2 hd fun z g3 H3 e3 o3 r3 => q z g3 H3 ((e1.trans e2).trans e3) o3 (RepF.from (e1.trans e2) r3)
theorem e_bin {op : Operator} {r : PySem.W.Frag → R2} {sem : D → D → Option D} (hK : X.K = fr.p.K) (ho : OpR X (binaryOp op) (r X.K)) (im : Im2 r sem) (ha : PE X a (TV fr (vA fr.p.K) fa)) (hb : PE X b (TV fr (vA fr.p.K) fb)) :
    PE X (.BinOp a op b pos) (TV fr (vF fr.p.K) (ev2 sem fa fb)) := pe_weak (pe_op ho ha hb) (by rw [hK]; exact tOp_ok im)
theorem e_cmp {op : CmpOp} {r : PySem.W.Frag → R2} {sem : D → D → Option D} (hK : X.K = fr.p.K) (ho : OpR X (compareOp op) (r X.K)) (im : Im2 r sem) (ha : PE X a (TV fr (vA fr.p.K) fa)) (hb : PE X b (TV fr (vA fr.p.K) fb)) (hm : behindInMarks op b = false) :
    PE X (.Compare a [op] [b] pos) (TV fr (vF fr.p.K) (ev2 sem fa fb)) := pe_weak (pe_cmpR ho ha hb hm) (by rw [hK]; exact tOp_ok im)
def truthM (d : D) : M Bool := lift (truthD d)
def asB (d : D) : Option Bool := match d with
  | .bl b => some b
  | _ => none
/-- a reading that gives a bool, as a test -/
theorem tTest_ok {t : TE} {f : En → M D} (ht : ∀ s H Q, TV fr (vF fr.p.K) f s H Q → t s H Q) (s : St) (H : Hp) (Q : Bool → Hp → Prop) (h : TB fr (fun rho => bnd (f rho) fun d => lift (asB d)) s H Q) : tTest t s H Q := by
  obtain ⟨rho, g, m, rl, w⟩ := h
  refine ht s H _ ⟨rho, g, m, rl, wp_mono (wp_bnd.mp w) (fun d m1 w1 v g1 H1 e1 o1 r1 => ?_) fun _ _ z => z⟩
  obtain ⟨b, hb, q⟩ := wp_lift.mp w1
  cases d with
  | bl k =>
    cases hb
    have r' : Rep fr.p.K g1 v (.bl b) := r1
    cases r'
    exact ⟨b, rfl, q g1 H1 e1 o1⟩
  | _ => cases hb
def evT (f : En → M D) (rho : En) : M Bool := bnd (f rho) fun d => lift (asB d)
theorem t_cmp {op : CmpOp} {r : PySem.W.Frag → R2} {sem : D → D → Option D} (hK : X.K = fr.p.K) (ho : OpR X (compareOp op) (r X.K)) (im : Im2 r sem) (ha : PE X a (TV fr (vA fr.p.K) fa)) (hb : PE X b (TV fr (vA fr.p.K) fb)) (hm : behindInMarks op b = false) :
    PT X (.Compare a [op] [b] pos) (TB fr (evT (ev2 sem fa fb))) := pt_weak (pt_cmpR ho ha hb hm) (tTest_ok (by rw [hK]; exact tOp_ok im))
/-! a chain -/
def evChain (sem sem' : D → D → Option D) (fa fb fc : En → M D) (rho : En) : M D := bnd (fa rho) fun x => bnd (fb rho) fun y => bnd (lift (sem x y)) fun z => bnd (lift (asB z)) fun k => if k = true then bnd (fc rho) fun w => lift (sem' y w) else ret (.bl false)
theorem tChain_ok {r r' : PySem.W.Frag → R2} {sem sem' : D → D → Option D} (im : Im2 r sem) (im' : Im2 r' sem') (s : St) (H : Hp) (Q : VK) (h : TV fr (vF fr.p.K) (evChain sem sem' fa fb fc) s H Q) :
    tChain (r fr.p.K) (r' fr.p.K) (TV fr (vA fr.p.K) fa) (TV fr (vA fr.p.K) fb) (TV fr (vA fr.p.K) fc) s H Q := by
  obtain ⟨rho, g, m, rl, w⟩ := h
  refine ⟨rho, g, m, rl, wp_mono (wp_bnd.mp w) (fun dx m1 w1 v g1 H1 e1 o1 r1 => ?_) fun _ _ z => z⟩
  refine ⟨rho, g1, m1, rl.ext e1 o1, wp_mono (wp_bnd.mp w1) (fun dy m2 w2 u g2 H2 e2 o2 r2 => ?_) fun _ _ z => z.from e1⟩
  obtain ⟨z, hz, w3⟩ := wp_lift.mp (wp_bnd.mp w2)
  obtain ⟨k, hk, w4⟩ := wp_lift.mp (wp_bnd.mp w3)
  refine im fr.p g2 m2 H2 v u dx dy z _ o2 (RepA.ext e2 r1) r2 hz fun zv g3 H3 e3 o3 r3 => ?_
  cases z with
  | bl kk =>
    cases hk
    have r' : Rep fr.p.K g3 zv (.bl k) := r3
    cases r'
    refine ⟨k, rfl, ?_⟩
    have e13 := (e1.trans e2).trans e3
    cases k with
    | true =>
      rw [if_pos rfl] at w4 ⊢
      refine ⟨rho, g3, m2, rl.ext e13 o3, wp_mono (wp_bnd.mp w4) (fun dw m4 w5 wv g4 H4 e4 o4 r4 => ?_) fun _ _ z => z.from e13⟩
      obtain ⟨d, hd, q⟩ := wp_lift.mp w5
      exact im' fr.p g4 m4 H4 u wv dy dw d Q o4 (RepA.ext (e3.trans e4) r2) r4 hd fun z g5 H5 e5 o5 r5 => q z g5 H5 ((e13.trans e4).trans e5) o5 (RepF.from (e13.trans e4) r5)
    | false =>
      rw [if_neg Bool.false_ne_true] at w4 ⊢
      exact w4 _ g3 H3 e13 o3 (show Rep _ _ _ _ from .bl false)
  | _ => cases hk
theorem e_chain {op op' : CmpOp} {r r' : PySem.W.Frag → R2} {sem sem' : D → D → Option D} (hK : X.K = fr.p.K) (ho : OpR X (compareOp op) (r X.K)) (ho' : OpR X (compareOp op') (r' X.K)) (im : Im2 r sem) (im' : Im2 r' sem')
    (ha : PE X a (TV fr (vA fr.p.K) fa)) (hb : PE X b (TV fr (vA fr.p.K) fb)) (hc : PE X c (TV fr (vA fr.p.K) fc)) (hm : lastMarks [op, op'] [b, c] = false) :
    PE X (.Compare a [op, op'] [b, c] pos) (TV fr (vF fr.p.K) (evChain sem sem' fa fb fc)) := pe_weak (pe_chain ho ho' ha hb hc hm) (by rw [hK]; exact tChain_ok im im')
theorem t_chain {op op' : CmpOp} {r r' : PySem.W.Frag → R2} {sem sem' : D → D → Option D} (hK : X.K = fr.p.K) (ho : OpR X (compareOp op) (r X.K)) (ho' : OpR X (compareOp op') (r' X.K)) (im : Im2 r sem) (im' : Im2 r' sem')
    (ha : PE X a (TV fr (vA fr.p.K) fa)) (hb : PE X b (TV fr (vA fr.p.K) fb)) (hc : PE X c (TV fr (vA fr.p.K) fc)) (hm : lastMarks [op, op'] [b, c] = false) :
    PT X (.Compare a [op, op'] [b, c] pos) (TB fr (evT (evChain sem sem' fa fb fc))) := pt_weak (pt_chain ho ho' ha hb hc hm) (tTest_ok (by rw [hK]; exact tChain_ok im im'))

/-! - x -/
def ev1 (sem : D → Option D) (fa : En → M D) (rho : En) : M D := bnd (fa rho) fun x => lift (sem x)
theorem e_neg (ha : PE X a (TV fr (vA fr.p.K) fa)) : PE X (.UnaryOp .USub a pos) (TV fr (vF fr.p.K) (ev1 negD fa)) := pe_weak (pe_un un_neg ha) fun s H Q h => by
  obtain ⟨rho, g, m, rl, w⟩ := h
  refine ⟨rho, g, m, rl, wp_mono (wp_bnd.mp w) (fun dx m1 w1 v g1 H1 e1 o1 r1 => ?_) fun _ _ z => z⟩
  obtain ⟨d, hd, q⟩ := wp_lift.mp w1
  unfold negD at hd
  split at hd
  · cases hd
    have r1' : RepA _ _ _ _ _ := r1
    rw [r1'.int]
    exact ⟨_, rfl, q _ g1 H1 e1 o1 (show Rep _ _ _ _ from .int _)⟩
  · cases hd

/-! tests -/
theorem t_truth (hK : X.K = fr.p.K) (ha : PE X a (TV fr (vA fr.p.K) fa)) (he : ∀ whole, isTrue a X.env whole = (do let v ← whole; standAt a.pos; holding [v] (truthy v))) : PT X a (TB fr (fun rho => bnd (fa rho) truthM)) :=
  pt_weak (pt_truth ha he) fun s H Q ⟨rho, g, m, rl, w⟩ => ⟨rho, g, m, rl, wp_mono (wp_bnd.mp w) (fun dx m1 w1 v g1 H1 e1 o1 r1 => by
    obtain ⟨k, hk, q⟩ := wp_lift.mp w1
    refine ⟨k, ?_, q g1 H1 e1 o1⟩
    rw [hK]
    exact im_truth o1 r1 hk) fun _ _ z => z⟩
def tbNot (f : En → M Bool) (rho : En) : M Bool := bnd (f rho) fun b => ret (!b)
def tbAnd (f h : En → M Bool) (rho : En) : M Bool := bnd (f rho) fun b => if b = true then h rho else ret false
def tbOr (f h : En → M Bool) (rho : En) : M Bool := bnd (f rho) fun b => if b = true then ret true else h rho
variable {ta tb : En → M Bool} {rest : List Expr}
theorem t_not (ha : PT X a (TB fr ta)) : PT X (.UnaryOp .Not a pos) (TB fr (tbNot ta)) := pt_weak (pt_not ha) fun s H Q ⟨rho, g, m, rl, w⟩ => ⟨rho, g, m, rl, wp_mono (wp_bnd.mp w) (fun k m1 w1 g1 H1 e1 o1 => w1 g1 H1 e1 o1) fun _ _ z => z⟩
theorem pw_weak {t t' : TT} (h : PW X e t) (hw : ∀ s H Q, t' s H Q → t s H Q) : PW X e t' := ⟨fun wh pins s σ H Q I q => h.run wh pins s σ H Q I (hw σ H Q q)⟩
theorem t_and (ha : PT X a (TB fr ta)) (hb : PW X (.BoolOp .And (b :: rest) pos) (TB fr tb)) : PW X (.BoolOp .And (a :: b :: rest) pos) (TB fr (tbAnd ta tb)) := pw_weak (pw_and ha hb) fun s H Q ⟨rho, g, m, rl, w⟩ => ⟨rho, g, m, rl, wp_mono (wp_bnd.mp w) (fun k m1 w1 g1 H1 e1 o1 => by
  cases k with
  | true =>
    rw [if_pos rfl] at w1 ⊢
    exact ⟨rho, g1, m1, rl.ext e1 o1, wp_mono w1 (fun k2 m2 w2 g2 H2 e2 o2 => w2 g2 H2 (e1.trans e2) o2) fun _ _ z => z.from e1⟩
  | false =>
    rw [if_neg Bool.false_ne_true] at w1 ⊢
    exact w1 g1 H1 e1 o1) fun _ _ z => z⟩
theorem t_or (ha : PT X a (TB fr ta)) (hb : PW X (.BoolOp .Or (b :: rest) pos) (TB fr tb)) : PW X (.BoolOp .Or (a :: b :: rest) pos) (TB fr (tbOr ta tb)) := pw_weak (pw_or ha hb) fun s H Q ⟨rho, g, m, rl, w⟩ => ⟨rho, g, m, rl, wp_mono (wp_bnd.mp w) (fun k m1 w1 g1 H1 e1 o1 => by
  cases k with
  | true =>
    rw [if_pos rfl] at w1 ⊢
    exact w1 g1 H1 e1 o1
  | false =>
    rw [if_neg Bool.false_ne_true] at w1 ⊢
    exact ⟨rho, g1, m1, rl.ext e1 o1, wp_mono w1 (fun k2 m2 w2 g2 H2 e2 o2 => w2 g2 H2 (e1.trans e2) o2) fun _ _ z => z.from e1⟩) fun _ _ z => z⟩
/-! as values -/
def evNot (fa : En → M D) (rho : En) : M D := bnd (fa rho) fun x => bnd (truthM x) fun b => ret (.bl (!b))
theorem e_not (hK : X.K = fr.p.K) (ha : PE X a (TV fr (vA fr.p.K) fa)) : PE X (.UnaryOp .Not a pos) (TV fr (vF fr.p.K) (evNot fa)) := pe_weak (pe_notT ha) fun s H Q ⟨rho, g, m, rl, w⟩ => ⟨rho, g, m, rl, wp_mono (wp_bnd.mp w) (fun dx m1 w1 v g1 H1 e1 o1 r1 => by
  obtain ⟨k, hk, q⟩ := wp_lift.mp (wp_bnd.mp w1)
  exact ⟨k, by rw [hK]; exact im_truth o1 r1 hk, q _ g1 H1 e1 o1 (show Rep _ _ _ _ from .bl _)⟩) fun _ _ z => z⟩
/-- x and y: a bool x -/
def evAnd (fa fb : En → M D) (rho : En) : M D := bnd (fa rho) fun x => bnd (lift (asB x)) fun k => if k = true then fb rho else ret (.bl false)
def evOr (fa fb : En → M D) (rho : En) : M D := bnd (fa rho) fun x => bnd (lift (asB x)) fun k => if k = true then ret (.bl true) else fb rho
/-- how a value's kind passes from a later state to an earlier one -/
structure Kind (K : PySem.W.Frag) (vr : VR) : Prop where
  back : ∀ {g g1 g2 : Gh} {H H1 H2 : Hp} {v : V} {d : D}, Ext g H g1 H1 → vr H1 g2 H2 v d → vr H g2 H2 v d
  bl : ∀ {H0 : Hp} {g : Gh} {H : Hp} (b : Bool), vr H0 g H (.bl b) (.bl b)
  non : ∀ {H0 : Hp} {g : Gh} {H : Hp}, vr H0 g H .non .non
theorem kA (K : PySem.W.Frag) : Kind K (vA K) := ⟨fun _ h => h, fun b => (show Rep _ _ _ _ from .bl b), (show Rep _ _ _ _ from .non)⟩
theorem kZ (K : PySem.W.Frag) : Kind K (vZ K) := ⟨fun _ h => h, fun b => .bl b, .non⟩
theorem kF (K : PySem.W.Frag) : Kind K (vF K) := ⟨fun e h => RepF.from e h, fun b => (show Rep _ _ _ _ from .bl b), (show Rep _ _ _ _ from .non)⟩
theorem e_and {vr : VR} (kd : Kind fr.p.K vr) (ha : PE X a (TV fr (vA fr.p.K) fa)) (hb : PE X (.BoolOp .And (b :: rest) pos) (TV fr vr fb)) : PE X (.BoolOp .And (a :: b :: rest) pos) (TV fr vr (evAnd fa fb)) :=
  pe_weak (pe_and ha hb) fun s H Q ⟨rho, g, m, rl, w⟩ => ⟨rho, g, m, rl, wp_mono (wp_bnd.mp w) (fun dx m1 w1 v g1 H1 e1 o1 r1 => by
  obtain ⟨k, hk, w2⟩ := wp_lift.mp (wp_bnd.mp w1)
  cases dx with
  | bl kk =>
    cases hk
    have r1' : RepA _ _ _ _ _ := r1
    rw [r1'.bl]
    refine ⟨k, rfl, ?_⟩
    cases k with
    | true =>
      rw [if_pos rfl] at w2 ⊢
      exact ⟨rho, g1, m1, rl.ext e1 o1, wp_mono w2 (fun d2 m2 w3 v2 g2 H2 e2 o2 r2 => w3 v2 g2 H2 (e1.trans e2) o2 (kd.back e1 r2)) fun _ _ z => z.from e1⟩
    | false =>
      rw [if_neg Bool.false_ne_true] at w2 ⊢
      exact w2 _ g1 H1 e1 o1 (kd.bl false)
  | _ => cases hk) fun _ _ z => z⟩
theorem e_or {vr : VR} (kd : Kind fr.p.K vr) (ha : PE X a (TV fr (vA fr.p.K) fa)) (hb : PE X (.BoolOp .Or (b :: rest) pos) (TV fr vr fb)) : PE X (.BoolOp .Or (a :: b :: rest) pos) (TV fr vr (evOr fa fb)) :=
  pe_weak (pe_or ha hb) fun s H Q ⟨rho, g, m, rl, w⟩ => ⟨rho, g, m, rl, wp_mono (wp_bnd.mp w) (fun dx m1 w1 v g1 H1 e1 o1 r1 => by
  obtain ⟨k, hk, w2⟩ := wp_lift.mp (wp_bnd.mp w1)
  cases dx with
  | bl kk =>
    cases hk
    have r1' : RepA _ _ _ _ _ := r1
    rw [r1'.bl]
    refine ⟨k, rfl, ?_⟩
    cases k with
    | false =>
      rw [if_neg Bool.false_ne_true] at w2 ⊢
      exact ⟨rho, g1, m1, rl.ext e1 o1, wp_mono w2 (fun d2 m2 w3 v2 g2 H2 e2 o2 r2 => w3 v2 g2 H2 (e1.trans e2) o2 (kd.back e1 r2)) fun _ _ z => z.from e1⟩
    | true =>
      rw [if_pos rfl] at w2 ⊢
      exact w2 _ g1 H1 e1 o1 (kd.bl true)
  | _ => cases hk) fun _ _ z => z⟩
def evIf (t : En → M Bool) (fa fb : En → M D) (rho : En) : M D := bnd (t rho) fun k => if k = true then fa rho else fb rho
theorem e_if {vr : VR} (kd : Kind fr.p.K vr) (hc : PT X c (TB fr ta)) (ha : PE X a (TV fr vr fa)) (hb : PE X b (TV fr vr fb)) : PE X (.IfExp c a b pos) (TV fr vr (evIf ta fa fb)) :=
  pe_weak (pe_ifExp hc ha hb) fun s H Q ⟨rho, g, m, rl, w⟩ => ⟨rho, g, m, rl, wp_mono (wp_bnd.mp w) (fun k m1 w1 g1 H1 e1 o1 => by
  cases k with
  | true =>
    rw [if_pos rfl] at w1 ⊢
    exact ⟨rho, g1, m1, rl.ext e1 o1, wp_mono w1 (fun d2 m2 w3 v2 g2 H2 e2 o2 r2 => w3 v2 g2 H2 (e1.trans e2) o2 (kd.back e1 r2)) fun _ _ z => z.from e1⟩
  | false =>
    rw [if_neg Bool.false_ne_true] at w1 ⊢
    exact ⟨rho, g1, m1, rl.ext e1 o1, wp_mono w1 (fun d2 m2 w3 v2 g2 H2 e2 o2 r2 => w3 v2 g2 H2 (e1.trans e2) o2 (kd.back e1 r2)) fun _ _ z => z.from e1⟩) fun _ _ z => z⟩

/-! subscripts -/
theorem e_ix (hK : X.K = fr.p.K) (ha : PE X a (TV fr (vA fr.p.K) fa)) (hb : PE X b (TV fr (vA fr.p.K) fb)) (hs : PlainIx b) : PE X (.Subscript a b pos) (TV fr (vZ fr.p.K) (ev2 ixD fa fb)) := pe_weak (pe_ix ix_seq ha hb hs) fun s H Q h => by
  obtain ⟨rho, g, m, rl, w⟩ := h
  refine ⟨rho, g, m, rl, wp_mono (wp_bnd.mp w) (fun dx m1 w1 v g1 H1 e1 o1 r1 => ?_) fun _ _ z => z⟩
  refine ⟨rho, g1, m1, rl.ext e1 o1, wp_mono (wp_bnd.mp w1) (fun dy m2 w2 u g2 H2 e2 o2 r2 => ?_) fun _ _ z => z.from e1⟩
  obtain ⟨d, hd, q⟩ := wp_lift.mp w2
  rw [hK]
  exact im_ix fr.p g2 m2 H2 v u dx dy d Q o2 (RepA.ext e2 r1) r2 hd fun z r3 => q z g2 H2 (e1.trans e2) o2 r3
def asI (d : D) : Option Int := match d with
  | .int i => some i
  | _ => none
def evPart (f : Option (En → M D)) (rho : En) : M (Option Int) := match f with
  | none => ret none
  | some f => bnd (f rho) fun d => bnd (lift (asI d)) fun i => ret (some i)
def TO' (fr : Fr) (f : En → M (Option Int)) : TO := fun s H Q => ∃ rho g m, Rl fr g H rho m s ∧ (f rho m).wp (fun o m' => ∀ g' H', Ext g H g' H' → Ok fr.p g' m' H' → Q o H') (OkE fr g H s)
theorem po_weak {x : Option Expr} {t t' : TO} (h : PO X x t) (hw : ∀ s H Q, t' s H Q → t s H Q) : PO X x t' := ⟨fun pins s σ H Q I q => h.run pins s σ H Q I (hw σ H Q q)⟩
theorem p_none : PO X none (TO' fr (evPart none)) := po_weak po_none fun s H Q ⟨rho, g, m, rl, w⟩ => w g H (Ext.refl g H) rl.ok
theorem p_some (ha : PE X a (TV fr (vA fr.p.K) fa)) : PO X (some a) (TO' fr (evPart (some fa))) := po_weak (po_some ha) fun s H Q ⟨rho, g, m, rl, w⟩ => ⟨rho, g, m, rl, wp_mono (wp_bnd.mp w) (fun dx m1 w1 v g1 H1 e1 o1 r1 => by
  obtain ⟨i, hi, q⟩ := wp_lift.mp (wp_bnd.mp w1)
  cases dx with
  | int j =>
    cases hi
    have r1' : RepA _ _ _ _ _ := r1
    rw [r1'.int]
    exact ⟨i, rfl, q g1 H1 e1 o1⟩
  | _ => cases hi) fun _ _ z => z⟩
def evSl (fa : En → M D) (fl fh : En → M (Option Int)) (rho : En) : M D := bnd (fa rho) fun x => bnd (fl rho) fun lo => bnd (fh rho) fun hi => lift (slD x lo hi)
theorem e_sl {lo hi : Option Expr} {fl fh : En → M (Option Int)} {p2 : Pos} (hK : X.K = fr.p.K) (ha : PE X a (TV fr (vA fr.p.K) fa)) (hl : PO X lo (TO' fr fl)) (hh : PO X hi (TO' fr fh)) : PE X (.Subscript a (.Slice lo hi none p2) pos) (TV fr (vF fr.p.K) (evSl fa fl fh)) :=
  pe_weak (pe_slice o_sli ha hl hh) fun s H Q h => by
    obtain ⟨rho, g, m, rl, w⟩ := h
    refine ⟨rho, g, m, rl, wp_mono (wp_bnd.mp w) (fun dx m1 w1 v g1 H1 e1 o1 r1 => ?_) fun _ _ z => z⟩
    refine ⟨rho, g1, m1, rl.ext e1 o1, wp_mono (wp_bnd.mp w1) (fun lo m2 w2 g2 H2 e2 o2 => ?_) fun _ _ z => z.from e1⟩
    refine ⟨rho, g2, m2, rl.ext (e1.trans e2) o2, wp_mono (wp_bnd.mp w2) (fun hi m3 w3 g3 H3 e3 o3 => ?_) fun _ _ z => z.from (e1.trans e2)⟩
    obtain ⟨d, hd, q⟩ := wp_lift.mp w3
    have e13 := (e1.trans e2).trans e3
    rw [hK]
    exact im_sli fr.p g3 m3 H3 v dx d lo hi Q o3 (RepA.ext (e2.trans e3) r1) hd fun z g4 H4 e4 o4 r4 => q z g4 H4 (e13.trans e4) o4 (RepF.from e13 r4)

/-! argument lists -/
abbrev LR := Gh → Hp → List V → List D → Prop
def TLg (fr : Fr) (P : LR) (f : En → M (List D)) : TA := fun s H Q => ∃ rho g m, Rl fr g H rho m s ∧ (f rho m).wp (fun ds m' => ∀ vs g' H', Ext g H g' H' → Ok fr.p g' m' H' → P g' H' vs ds → Q vs H') (OkE fr g H s)
def lA (K : PySem.W.Frag) : LR := fun g H vs ds => RepAL K g H vs ds
def lZ (K : PySem.W.Frag) : LR := fun g _ vs ds => RepL K g vs ds
def evNil (_ : En) : M (List D) := ret []
def evCons (f : En → M D) (fs : En → M (List D)) (rho : En) : M (List D) := bnd (f rho) fun x => bnd (fs rho) fun xs => ret (x :: xs)
theorem a_nil {P : LR} (h0 : ∀ g H, P g H [] []) : PA X [] (TLg fr P evNil) := pa_weak pa_nil fun s H Q ⟨rho, g, m, rl, w⟩ => w [] g H (Ext.refl g H) rl.ok (h0 g H)
theorem a_cons {vr : VR} {P P' : LR} (st : ∀ {g g' : Gh} {H0 H H' : Hp} {v : V} {d : D}, Ext g H g' H' → vr H0 g H v d → vr H0 g' H' v d) (mk : ∀ {g : Gh} {H0 H : Hp} {v : V} {d : D} {vs : List V} {ds : List D}, vr H0 g H v d → P g H vs ds → P' g H (v :: vs) (d :: ds))
    (ha : PE X e (TV fr vr f)) (hr : PA X es (TLg fr P fs)) (hs : starEach (e :: es) X.env = (false, eval e X.env) :: starEach es X.env) : PA X (e :: es) (TLg fr P' (evCons f fs)) :=
  pa_weak (pa_cons ha hr hs) fun s H Q ⟨rho, g, m, rl, w⟩ => ⟨rho, g, m, rl, wp_mono (wp_bnd.mp w) (fun dx m1 w1 v g1 H1 e1 o1 r1 =>
    ⟨rho, g1, m1, rl.ext e1 o1, wp_mono (wp_bnd.mp w1) (fun ds m2 w2 vs g2 H2 e2 o2 r2 => w2 _ g2 H2 (e1.trans e2) o2 (mk (st e2 r1) r2)) fun _ _ z => z.from e1⟩) fun _ _ z => z⟩
theorem a_consA (ha : PE X e (TV fr (vA fr.p.K) f)) (hr : PA X es (TLg fr (lA fr.p.K) fs)) (hs : starEach (e :: es) X.env = (false, eval e X.env) :: starEach es X.env) : PA X (e :: es) (TLg fr (lA fr.p.K) (evCons f fs)) :=
  a_cons (vr := vA fr.p.K) (P := lA fr.p.K) (P' := lA fr.p.K) (fun e h => RepA.ext e h) (fun h t => Paired.cons h t) ha hr hs
theorem a_consZ (ha : PE X e (TV fr (vZ fr.p.K) f)) (hr : PA X es (TLg fr (lZ fr.p.K) fs)) (hs : starEach (e :: es) X.env = (false, eval e X.env) :: starEach es X.env) : PA X (e :: es) (TLg fr (lZ fr.p.K) (evCons f fs)) :=
  a_cons (vr := vZ fr.p.K) (P := lZ fr.p.K) (P' := lZ fr.p.K) (fun e h => Rep.mono e.le h) (fun h t => RepL.cons h t) ha hr hs
def tupM (ds : List D) : M D := lift (if ds.length ≤ sizeLine then some (.tup ds) else none)
def lstM (ds : List D) : M D := lift (if ds.length ≤ sizeLine then some (.lst ds) else none)
theorem e_tup {x1 : Nat} (h : PA X es (TLg fr (lZ fr.p.K) fs)) : PE X (.Tuple es x1 pos) (TV fr (vF fr.p.K) (fun rho => bnd (fs rho) tupM)) := pe_weak (pe_tup h) fun s H Q ⟨rho, g, m, rl, w⟩ => ⟨rho, g, m, rl, wp_mono (wp_bnd.mp w) (fun ds m1 w1 vs g1 H1 e1 o1 r1 => by
  obtain ⟨d, hd, q⟩ := wp_lift.mp w1
  split at hd
  · cases hd
    rename_i hz
    refine ⟨by rw [RepL.length r1]; exact hz, ?_⟩
    exact Ans.newT o1 r1 fun z g2 H2 e2 o2 r2 => q z g2 H2 (e1.trans e2) o2 (RepF.from e1 r2)
  · cases hd) fun _ _ z => z⟩
theorem e_lst (h : PA X es (TLg fr (lZ fr.p.K) fs)) : PE X (.List es pos) (TV fr (vF fr.p.K) (fun rho => bnd (fs rho) lstM)) := pe_weak (pe_lst h) fun s H Q ⟨rho, g, m, rl, w⟩ => ⟨rho, g, m, rl, wp_mono (wp_bnd.mp w) (fun ds m1 w1 vs g1 H1 e1 o1 r1 => by
  obtain ⟨d, hd, q⟩ := wp_lift.mp w1
  split at hd
  · cases hd
    rename_i hz
    refine ⟨by rw [RepL.length r1]; exact hz, ?_⟩
    exact Ans.newL o1 r1 fun z g2 H2 e2 o2 r2 => q z g2 H2 (e1.trans e2) o2 (RepF.from e1 r2)
  · cases hd) fun _ _ z => z⟩
/-! built-ins -/
def evB (sem : List D → Option D) (fs : En → M (List D)) (rho : En) : M D := bnd (fs rho) fun xs => lift (sem xs)
theorem tCB_ok {r : PySem.W.Frag → List V → Hp → VK → Prop} {sem : List D → Option D} (im : ImL r sem) (s : St) (H : Hp) (Q : VK) (h : TV fr (vF fr.p.K) (evB sem fs) s H Q) : tCB (r fr.p.K) (TLg fr (lA fr.p.K) fs) s H Q := by
  obtain ⟨rho, g, m, rl, w⟩ := h
  refine ⟨rho, g, m, rl, wp_mono (wp_bnd.mp w) (fun ds m1 w1 vs g1 H1 e1 o1 r1 => ?_) fun _ _ z => z⟩
  obtain ⟨d, hd, q⟩ := wp_lift.mp w1
  exact im fr.p g1 m1 H1 vs ds d Q o1 r1 hd fun z g2 H2 e2 o2 r2 => q z g2 H2 (e1.trans e2) o2 (RepF.from e1 r2)
theorem e_callB {x : Str} {id : String} {p : Pos} {r : PySem.W.Frag → List V → Hp → VK → Prop} {sem : List D → Option D} (hK : X.K = fr.p.K) (hc : CallR X (.builtin id) (r X.K)) (im : ImL r sem) (hg : Gl X x) (hm : X.mg x = none) (hv : bootBuiltins x = some (.builtin id))
    (ha : PA X (e :: es) (TLg fr (lA fr.p.K) fs)) (hn : x ≠ "__name__") (hdb : (x == ("__debug__" : Str)) = false) (he : starEach (e :: es) X.env = (false, eval e X.env) :: starEach es X.env) (hpl : (backTo pos (starEach es X.env)).any (·.1) = false) :
    PE X (.Call (.Name x p) (e :: es) [] pos) (TV fr (vF fr.p.K) (evB sem fs)) := pe_weak (pe_callB hc hg hm hv ha hn hdb he hpl) (by rw [hK]; exact tCB_ok im)
theorem e_callTy {x : Str} {T : String} {p : Pos} {r : PySem.W.Frag → List V → Hp → VK → Prop} {sem : List D → Option D} (hK : X.K = fr.p.K) (hc : CallR X (.type T) (r X.K)) (im : ImL r sem) (hg : Gl X x) (hm : X.mg x = none) (hv : bootBuiltins x = some (.type T))
    (ha : PA X (e :: es) (TLg fr (lA fr.p.K) fs)) (hn : x ≠ "__name__") (hdb : (x == ("__debug__" : Str)) = false) (he : starEach (e :: es) X.env = (false, eval e X.env) :: starEach es X.env) (hpl : (backTo pos (starEach es X.env)).any (·.1) = false) :
    PE X (.Call (.Name x p) (e :: es) [] pos) (TV fr (vF fr.p.K) (evB sem fs)) := pe_weak (pe_callTy hc hg hm hv ha hn hdb he hpl) (by rw [hK]; exact tCB_ok im)
end
end PF

namespace PF
open PySem L2

/-! ### statements -/
inductive Rs where
  | nx (rho : En) (m : Store) | rt (d : D) (m : Store) | bk (rho : En) (m : Store) | ct (rho : En) (m : Store) | exc (c : Nat) (rho : En) (m : Store) | bad
abbrev SM := En → Store → Rs
def RsW (fr : Fr) (rk : VR) (Dn : Ends) (gs : Gh) : Rs → Prop
  | .nx rho m => ∀ s g H, Le gs g → Rl fr g H rho m s → Dn.nx s H
  | .bk rho m => ∀ s g H, Le gs g → Rl fr g H rho m s → Dn.bk s H
  | .ct rho m => ∀ s g H, Le gs g → Rl fr g H rho m s → Dn.ct s H
  | .rt d m => ∀ v g H, Ext fr.g0 fr.H0 g H → Ok fr.p g m H → rk fr.H0 g H v d → Dn.rt v H
  | .exc c rho m => ∀ s g H, Le gs g → Rl fr g H rho m s → fr.W (fr.p.cls c) none s H
  | .bad => False
theorem RsW.le {fr : Fr} {rk : VR} {Dn : Ends} {g g' : Gh} (l : Le g g') {r : Rs} (h : RsW fr rk Dn g r) : RsW fr rk Dn g' r := by
  cases r with
  | nx rho m => exact fun s g2 H l2 r => h s g2 H (l.trans l2) r
  | bk rho m => exact fun s g2 H l2 r => h s g2 H (l.trans l2) r
  | ct rho m => exact fun s g2 H l2 r => h s g2 H (l.trans l2) r
  | rt d m => exact h
  | exc c rho m => exact fun s g2 H l2 r => h s g2 H (l.trans l2) r
  | bad => exact h
def TSt (fr : Fr) (rk : VR) (f : SM) : TS := fun Dn s H => ∃ rho g m, Rl fr g H rho m s ∧ RsW fr rk Dn g (f rho m)
/-- an expression's value in a statement -/
def exS {α : Type} (x : M α) (rho : En) (k : α → Store → Rs) (m : Store) : Rs := match x m with
  | .ok a m' => k a m'
  | .exc c m' => .exc c rho m'
  | .bad => .bad
theorem exS_wp {α : Type} {fr : Fr} {rk : VR} {Dn : Ends} {gs : Gh} {x : M α} {rho : En} {k : α → Store → Rs} {m : Store} (h : RsW fr rk Dn gs (exS x rho k m)) :
    (x m).wp (fun a m' => RsW fr rk Dn gs (k a m')) (fun c m' => ∀ s g H, Le gs g → Rl fr g H rho m' s → fr.W (fr.p.cls c) none s H) := by
  unfold exS at h
  unfold R.wp
  cases q : x m with
  | ok a m' => rw [q] at h; exact h
  | exc c m' => rw [q] at h; exact h
  | bad => rw [q] at h; exact h
theorem excE {fr : Fr} {g : Gh} {H : Hp} {rho : En} {m : Store} {s : St} (r : Rl fr g H rho m s) {c : Nat} {m' : Store} (h : ∀ s g1 H, Le g g1 → Rl fr g1 H rho m' s → fr.W (fr.p.cls c) none s H) : OkE fr g H s c m' := fun g' H' e o => h s g' H' e.le (r.ext e o)
def seqS (f h : SM) : SM := fun rho m => match f rho m with
  | .nx rho' m' => h rho' m'
  | .rt d m' => .rt d m'
  | .bk rho' m' => .bk rho' m'
  | .ct rho' m' => .ct rho' m'
  | .exc c rho' m' => .exc c rho' m'
  | .bad => .bad
def nxS : SM := fun rho m => .nx rho m

/-! ### the frame's slots stored -/
theorem set_get {α : Type} {l : List α} {i j : Nat} {x y : α} (h : (l.set i x)[j]? = some y) : (j = i ∧ y = x ∧ i < l.length) ∨ (j ≠ i ∧ l[j]? = some y) := by
  by_cases e : j = i
  · subst e
    by_cases hl : j < l.length
    · rw [List.getElem?_set_self hl] at h
      exact .inl ⟨rfl, (Option.some.inj h).symm, hl⟩
    · rw [List.getElem?_eq_none (by simpa using hl)] at h; cases h
  · rw [List.getElem?_set_ne (Ne.symm e)] at h
    exact .inr ⟨e, h⟩
theorem Ok.mutL {p : Par} {g : Gh} {m : Store} {H : Hp} (ok : Ok p g m H) {a : Addr} {vs : List V} (k1 : H a = some (.lst vs)) (k0 : g.F a = none) (k2 : g.B a = none) (ws : List V) : Ok p g m (upd H a (.lst ws)) := by
  have up : ∀ b o, b ≠ a → H b = some o → upd H a (.lst ws) b = some o := fun b o nb z => by rw [upd_ne nb]; exact z
  have nb : ∀ b, g.B b ≠ none → b ≠ a := fun b z y => z (by rw [y]; exact k2)
  have nf : ∀ b o, g.F b = some o → b ≠ a := fun b o z y => by rw [y, k0] at z; cases z
  have tabs : LamX.Tabs p.T (upd H a (.lst ws)) := fun q hq => by
    obtain ⟨ps, p1, p2, p3⟩ := ok.tabs q hq
    have kk : ∀ b, (∀ vs, H b ≠ some (.lst vs)) → b ≠ a := fun b z y => z vs (by rw [y]; exact k1)
    refine ⟨ps, up _ _ (kk _ fun vs z => by rw [p1] at z; cases z) p1, p2, fun pos cv hc => ?_⟩
    obtain ⟨c, e2, e3⟩ := p3 pos cv hc
    refine ⟨c, e2, up _ _ (kk _ fun vs z => ?_) e3⟩
    rw [e3] at z
    unfold LamX.CodeO at z
    cases z
  refine ⟨fun b o z => up b o (nf b o z) (ok.fh b o z), ok.bf, fun b z => by rw [upd_ne (nb b z)]; exact ok.bh b z, tabs, ok.tabB, ok.obl, fun n fs z => ?_⟩
  obtain ⟨x, e, dx, vf, q1, q2, q3, q4, q5⟩ := ok.obs n fs z
  refine ⟨x, e, dx, vf, up _ _ (nb x (by rw [q3]; simp)) q1, up _ _ (nb dx (by rw [q4]; simp)) q2, q3, q4, Paired.imp2 q5 fun q w z => ⟨z.1, ?_⟩⟩
  have z2 := z.2
  unfold FldR at z2 ⊢
  cases hw : w.2 with
  | lst ds =>
    rw [hw] at z2
    obtain ⟨b, vs', y1, y2, y3, y4⟩ := z2
    exact ⟨b, vs', y1, up _ _ (nb b (by rw [y3]; simp)) y2, y3, y4⟩
  | _ => rw [hw] at z2; exact z2
section
variable {fr : Fr} {g g1 : Gh} {H H1 : Hp} {rho : En} {m m1 : Store} {s : St} {i : Nat} {v : V} {d : D}
theorem SlotR.ofZ {ow : Addr → Option Nat} (hm : fr.md i = .frz) (r : Rep fr.p.K g v d) : SlotR fr ow g H i v d := by
  unfold SlotR
  rw [hm]
  exact r
theorem Rl.setZ (r : Rl fr g H rho m s) (hm : fr.md i = .frz) (h : Rep fr.p.K g v d) : Rl fr g H (rho.set i (some d)) m (s.set i (some v)) := by
  obtain ⟨ow, hv⟩ := r.val
  refine ⟨r.ok, r.ent, by rw [List.length_set, List.length_set]; exact r.len, ow, fun j e q => ?_⟩
  rcases set_get q with ⟨rfl, e1, hl⟩ | ⟨ne, q⟩
  · cases e1
    exact ⟨v, by rw [List.getElem?_set_self (by rw [← r.len]; exact hl)], SlotR.ofZ hm h⟩
  · obtain ⟨w, h1, h2⟩ := hv j e q
    exact ⟨w, by rw [List.getElem?_set_ne (Ne.symm ne)]; exact h1, h2⟩
/-- a slot is forgotten -/
theorem Rl.unset (r : Rl fr g H rho m s) : Rl fr g H (rho.set i none) m (s.set i none) := by
  obtain ⟨ow, hv⟩ := r.val
  refine ⟨r.ok, r.ent, by rw [List.length_set, List.length_set]; exact r.len, ow, fun j e q => ?_⟩
  rcases set_get q with ⟨rfl, e1, hl⟩ | ⟨ne, q⟩
  · cases e1
  · obtain ⟨w, h1, h2⟩ := hv j e q
    exact ⟨w, by rw [List.getElem?_set_ne (Ne.symm ne)]; exact h1, h2⟩
theorem SlotR.change {ow ow' : Addr → Option Nat} {j : Nat} (h : SlotR fr ow g H j v d) (hw : ∀ a, H a ≠ none → ow a = some j → ow' a = some j) : SlotR fr ow' g H j v d := by
  unfold SlotR at *
  cases q : fr.md j with
  | frz => rw [q] at h; exact h
  | own =>
    rw [q] at h
    cases d with
    | lst ds =>
      obtain ⟨a, vs, e0, e1, h1, h0, h2, h3, h4⟩ := h
      exact ⟨a, vs, e0, e1, h1, h0, h2, h3, hw a (by rw [h1]; simp) h4⟩
    | _ => exact h
  | bor => rw [q] at h; exact h
theorem Rl.setF (r : Rl fr g1 H1 rho m1 s) (e : Ext g1 H1 g H) (o : Ok fr.p g m H) (hm : fr.md i = .own) (h : RepF fr.p.K H1 g H v d) : Rl fr g H (rho.set i (some d)) m (s.set i (some v)) := by
  obtain ⟨ow, hv⟩ := r.val
  have L : (rho.set i (some d)).length = (s.set i (some v)).length := by rw [List.length_set, List.length_set]; exact r.len
  by_cases hd : ∃ ds, d = .lst ds
  · obtain ⟨ds, rfl⟩ := hd
    obtain ⟨a, vs, rfl, h0, h1, h2, h3, h4⟩ := h
    refine ⟨o, r.ent.trans e, L, fun b => if b = a then some i else ow b, fun j dd q => ?_⟩
    rcases set_get q with ⟨rfl, e1, hl⟩ | ⟨ne, q⟩
    · cases e1
      refine ⟨.ref a, by rw [List.getElem?_set_self (by rw [← r.len]; exact hl)], ?_⟩
      unfold SlotR
      rw [hm]
      exact ⟨a, vs, rfl, r.ent.fresh h0, h1, h2, h3, h4, by simp⟩
    · obtain ⟨w, k1, k2⟩ := hv j dd q
      refine ⟨w, by rw [List.getElem?_set_ne (Ne.symm ne)]; exact k1, ?_⟩
      refine (k2.change (ow' := fun b => if b = a then some i else ow b) fun b hb z => ?_).ext e
      have nb : b ≠ a := fun z => hb (by rw [z]; exact h0)
      simp only [nb, if_false]
      exact z
  · have h' : Rep fr.p.K g v d := by
      cases d with
      | lst ds => exact absurd ⟨ds, rfl⟩ hd
      | _ => exact h
    have r2 := r.ext e o
    obtain ⟨ow, hv⟩ := r2.val
    refine ⟨o, r.ent.trans e, L, ow, fun j dd q => ?_⟩
    rcases set_get q with ⟨rfl, e1, hl⟩ | ⟨ne, q⟩
    · cases e1
      refine ⟨v, by rw [List.getElem?_set_self (by rw [← r.len]; exact hl)], ?_⟩
      unfold SlotR
      rw [hm]
      cases d with
      | lst ds => exact absurd ⟨ds, rfl⟩ hd
      | _ => exact h'
    · obtain ⟨w, k1, k2⟩ := hv j dd q
      exact ⟨w, by rw [List.getElem?_set_ne (Ne.symm ne)]; exact k1, k2⟩
/-- an own list is changed in its place -/
theorem Rl.mut (r : Rl fr g H rho m s) (hm : fr.md i = .own) {ds es : List D} (hi : rho[i]? = some (some (.lst ds))) :
    ∃ a vs, s[i]? = some (some (.ref a)) ∧ H a = some (.lst vs) ∧ g.B a = none ∧ RepL fr.p.K g vs ds ∧ (∀ ws, RepL fr.p.K g ws es → Rl fr g (upd H a (.lst ws)) (rho.set i (some (.lst es))) m s) := by
  obtain ⟨ow, hv⟩ := r.val
  obtain ⟨v, h1, h2⟩ := hv i _ hi
  have h2' := h2
  unfold SlotR at h2
  rw [hm] at h2
  obtain ⟨a, vs, rfl, e1, k1, k0, k2, k3, k4⟩ := h2
  refine ⟨a, vs, h1, k1, k2, k3, fun ws he => ?_⟩
  have up : ∀ b o, b ≠ a → H b = some o → upd H a (.lst ws) b = some o := fun b o nb z => by rw [upd_ne nb]; exact z
  have ok' : Ok fr.p g m (upd H a (.lst ws)) := r.ok.mutL k1 k0 k2 ws
  have ent' : Ext fr.g0 fr.H0 g (upd H a (.lst ws)) := by
    refine ⟨r.ent.le, fun b o z n => up b o (fun y => ?_) (r.ent.hh b o z n), r.ent.fn, r.ent.bb, r.ent.bn, fun b z => ?_⟩
    · rw [y, e1] at z; cases z
    · by_cases y : b = a
      · rw [y, upd_same]; simp
      · rw [upd_ne y]; exact r.ent.no b z
  have hlen : i < rho.length := (List.getElem?_eq_some_iff.mp hi).1
  refine ⟨ok', ent', by rw [List.length_set]; exact r.len, ow, fun j dd q => ?_⟩
  rcases set_get q with ⟨rfl, e2, hl⟩ | ⟨ne, q⟩
  · cases e2
    refine ⟨.ref a, h1, ?_⟩
    unfold SlotR
    rw [hm]
    exact ⟨a, ws, rfl, e1, upd_same, k0, k2, he, k4⟩
  · obtain ⟨w, y1, y2⟩ := hv j dd q
    refine ⟨w, y1, ?_⟩
    unfold SlotR at y2 ⊢
    cases z : fr.md j with
    | frz => rw [z] at y2; exact y2
    | own =>
      rw [z] at y2
      cases dd with
      | lst es =>
        obtain ⟨b, vs', x1, x2, x3, x4, x5, x6, x7⟩ := y2
        refine ⟨b, vs', x1, x2, up _ _ (fun y => ?_) x3, x4, x5, x6, x7⟩
        rw [y, k4] at x7
        exact ne (Option.some.inj x7).symm
      | _ => exact y2
    | bor =>
      rw [z] at y2
      cases dd with
      | lst es =>
        obtain ⟨b, vs', x1, x2, x3, x4, x5⟩ := y2
        exact ⟨b, vs', x1, x2, up _ _ (fun y => x2 (by rw [y]; exact e1)) x3, x4, x5⟩
      | _ => exact y2
end

section
variable {X : Cx} {fr : Fr} {rk : VR} {a b e : Expr} {st : Stmt} {rest ss : List Stmt} {pos : Pos} {f : En → M D} {F G : SM} {t : En → M Bool}
theorem ps_weak {u u' : TS} (h : PS X st u) (hw : ∀ Dn s H, u' Dn s H → u Dn s H) : PS X st u' := ⟨fun pins s σ H Dn I q => h.run pins s σ H Dn I (hw Dn σ H q)⟩
theorem pss_weak {u u' : TS} (h : PSs X ss u) (hw : ∀ Dn s H, u' Dn s H → u Dn s H) : PSs X ss u' := ⟨fun pins s σ H Dn I q => h.run pins s σ H Dn I (hw Dn σ H q)⟩
theorem b_nil : PSs X [] (TSt fr rk nxS) := pss_weak pss_nil fun Dn s H ⟨rho, g, m, r, w⟩ => w s g H (Le.refl g) r
theorem b_cons (h1 : PS X st (TSt fr rk F)) (h2 : PSs X rest (TSt fr rk G)) : PSs X (st :: rest) (TSt fr rk (seqS F G)) := pss_weak (pss_cons h1 h2) fun Dn s H ⟨rho, g, m, r, w⟩ => by
  refine ⟨rho, g, m, r, ?_⟩
  unfold seqS at w
  cases q : F rho m with
  | nx rho' m' => rw [q] at w; exact fun s' g' H' l' r' => ⟨rho', g', m', r', w.le l'⟩
  | rt d m' => rw [q] at w; exact w
  | bk rho' m' => rw [q] at w; exact w
  | ct rho' m' => rw [q] at w; exact w
  | exc c rho' m' => rw [q] at w; exact w
  | bad => rw [q] at w; exact w
theorem s_pass : PS X (.Pass pos) (TSt fr rk nxS) := ps_weak ps_pass fun Dn s H ⟨rho, g, m, r, w⟩ => w s g H (Le.refl g) r
def bkS : SM := fun rho m => .bk rho m
def ctS : SM := fun rho m => .ct rho m
theorem s_break : PS X (.Break pos) (TSt fr rk bkS) := ps_weak ps_break fun Dn s H ⟨rho, g, m, r, w⟩ => w s g H (Le.refl g) r
theorem s_continue : PS X (.Continue pos) (TSt fr rk ctS) := ps_weak ps_continue fun Dn s H ⟨rho, g, m, r, w⟩ => w s g H (Le.refl g) r
def dropS (f : En → M D) : SM := fun rho => exS (f rho) rho fun _ m => .nx rho m
theorem s_expr (ha : PE X e (TV fr (vA fr.p.K) f)) (hs : swapsWith e none pos.line X.env = pure false) : PS X (.Expr e pos) (TSt fr rk (dropS f)) := ps_weak (ps_expr ha hs) fun Dn s H ⟨rho, g, m, r, w⟩ =>
  ⟨rho, g, m, r, wp_mono (exS_wp w) (fun d m' q v g' H' e o _ => q s g' H' e.le (r.ext e o)) fun c m' q => excE r q⟩
def setS (i : Nat) (f : En → M D) : SM := fun rho => exS (f rho) rho fun d m => .nx (rho.set i (some d)) m
theorem s_setZ {i : Nat} {x : Str} {pos' : Pos} (hm : fr.md i = .frz) (hN : X.N.Nodup) (hi : X.N[i]? = some x) (hx : Loc X.env.scope x) (ha : PE X e (TV fr (vZ fr.p.K) f)) (hs : swapsWith e (some (.Name x pos')) pos.line X.env = pure false) (hf : X.fn x = true ∨ X.env.scope.names.lookup x = some .local) :
    PS X (.Assign [.Name x pos'] e pos) (TSt fr rk (setS i f)) := ps_weak (ps_set hN hi hx ha hs hf) fun Dn s H ⟨rho, g, m, r, w⟩ =>
  ⟨rho, g, m, r, wp_mono (exS_wp w) (fun d m' q v g' H' e o z => q _ g' H' e.le ((r.ext e o).setZ hm z)) fun c m' q => excE r q⟩
theorem s_setF {i : Nat} {x : Str} {pos' : Pos} (hm : fr.md i = .own) (hN : X.N.Nodup) (hi : X.N[i]? = some x) (hx : Loc X.env.scope x) (ha : PE X e (TV fr (vF fr.p.K) f)) (hs : swapsWith e (some (.Name x pos')) pos.line X.env = pure false) (hf : X.fn x = true ∨ X.env.scope.names.lookup x = some .local) :
    PS X (.Assign [.Name x pos'] e pos) (TSt fr rk (setS i f)) := ps_weak (ps_set hN hi hx ha hs hf) fun Dn s H ⟨rho, g, m, r, w⟩ =>
  ⟨rho, g, m, r, wp_mono (exS_wp w) (fun d m' q v g' H' e o z => q _ g' H' e.le (r.setF e o hm z)) fun c m' q => excE r q⟩
/-! x += e, ints -/
def augI (sub : Bool) (x y : D) : Option D := match x, y with
  | .int i, .int j => some (.int (if sub then i - j else i + j))
  | _, _ => none
def augS (sub : Bool) (i : Nat) (f : En → M D) : SM := fun rho => exS (bnd (evVar i rho) fun x => bnd (f rho) fun y => lift (augI sub x y)) rho fun d m => .nx (rho.set i (some d)) m
theorem aug_ok {i : Nat} {sub : Bool} (hm : fr.md i = .frz) (Dn : Ends) (s : St) (H : Hp) (h : TSt fr rk (augS sub i f) Dn s H) : tAug i (TV fr (vA fr.p.K) f) (ipI (fun i j => if sub then i - j else i + j)) Dn s H := by
  obtain ⟨rho, g, m, r, w⟩ := h
  have w1 := wp_bnd.mp (exS_wp w)
  obtain ⟨x, hx, w2⟩ := wp_lift.mp w1
  obtain ⟨ow, hval⟩ := r.val
  obtain ⟨v, h2, h3⟩ := hval i x (join_some hx)
  refine ⟨v, h2, rho, g, m, r, wp_mono (wp_bnd.mp w2) (fun y m1 w3 u g1 H1 e1 o1 r1 => ?_) fun c m' q => excE r q⟩
  obtain ⟨d, hd, w4⟩ := wp_lift.mp w3
  unfold augI at hd
  split at hd
  · cases hd
    have r1' : RepA _ _ _ _ _ := r1
    have k := (h3.any r.ok).int
    subst k
    rw [r1'.int]
    exact ⟨_, _, rfl, rfl, w4 _ g1 H1 e1.le ((r.ext e1 o1).setZ hm (.int _))⟩
  · cases hd
theorem s_augA {i : Nat} {x : Str} {pos' : Pos} (hm : fr.md i = .frz) (hN : X.N.Nodup) (hi : X.N[i]? = some x) (hx : Loc X.env.scope x) (ha : PE X e (TV fr (vA fr.p.K) f)) (hf : X.fn x = true ∨ X.env.scope.names.lookup x = some .local) :
    PS X (.AugAssign (.Name x pos') .Add e pos) (TSt fr rk (augS false i f)) := ps_weak (ps_aug hN hi hx ha ip_add hf) fun Dn s H h => aug_ok (sub := false) hm Dn s H h
theorem s_augM {i : Nat} {x : Str} {pos' : Pos} (hm : fr.md i = .frz) (hN : X.N.Nodup) (hi : X.N[i]? = some x) (hx : Loc X.env.scope x) (ha : PE X e (TV fr (vA fr.p.K) f)) (hf : X.fn x = true ∨ X.env.scope.names.lookup x = some .local) :
    PS X (.AugAssign (.Name x pos') .Sub e pos) (TSt fr rk (augS true i f)) := ps_weak (ps_aug hN hi hx ha ip_sub hf) fun Dn s H h => aug_ok (sub := true) hm Dn s H h
/-! return -/
def retS (f : En → M D) : SM := fun rho => exS (f rho) rho fun d m => .rt d m
theorem s_ret (kd : Kind fr.p.K rk) (ha : PE X e (TV fr rk f)) : PS X (.Return (some e) pos) (TSt fr rk (retS f)) := ps_weak (ps_ret ha) fun Dn s H ⟨rho, g, m, r, w⟩ =>
  ⟨rho, g, m, r, wp_mono (exS_wp w) (fun d m' q v g' H' e o z => q v g' H' (r.ent.trans e) o (kd.back r.ent z)) fun c m' q => excE r q⟩
/-- an own list is handed back -/
theorem s_retOwn {i : Nat} {x : Str} {p : Pos} (hm : fr.md i = .own) (hN : X.N[i]? = some x) (hv : Vis X.env.scope x) (hd : (x == ("__debug__" : Str)) = false) (hcd : (x == ("__classdict__" : Str)) = false) :
    PS X (.Return (some (.Name x p)) pos) (TSt fr (vF fr.p.K) (retS (evVar i))) := ps_weak (ps_ret (pe_var hN hv hd hcd)) fun Dn s H ⟨rho, g, m, r, w⟩ => by
  obtain ⟨d, h1, q⟩ := wp_lift.mp (exS_wp w)
  obtain ⟨ow, hval⟩ := r.val
  obtain ⟨v, h2, h3⟩ := hval i d (join_some h1)
  refine ⟨v, h2, q v g H r.ent r.ok ?_⟩
  unfold SlotR at h3
  rw [hm] at h3
  show RepF _ _ _ _ _ _
  cases d with
  | lst ds =>
    obtain ⟨a, vs, e0, e1, k1, k0, k2, k3, _⟩ := h3
    exact ⟨a, vs, e0, e1, k1, k0, k2, k3⟩
  | _ => exact h3
/-! if -/
def ifS (t : En → M Bool) (F G : SM) : SM := fun rho => exS (t rho) rho fun b m => if b = true then F rho m else G rho m
theorem s_if {c : Expr} {p q : List Stmt} (hc : PT X c (TB fr t)) (hp : PSs X p (TSt fr rk F)) (hq : PSs X q (TSt fr rk G)) : PS X (.If c p q pos) (TSt fr rk (ifS t F G)) := ps_weak (ps_if hc hp hq) fun Dn s H ⟨rho, g, m, r, w⟩ =>
  ⟨rho, g, m, r, wp_mono (exS_wp w) (fun b m' q g' H' e o => by
    cases b with
    | true => rw [if_pos rfl] at q ⊢; exact ⟨rho, g', m', r.ext e o, q.le e.le⟩
    | false => rw [if_neg Bool.false_ne_true] at q ⊢; exact ⟨rho, g', m', r.ext e o, q.le e.le⟩) fun c m' q => excE r q⟩
/-! while: n turns at most -/
/-- behind a turn -/
def cont (k : SM) : Rs → Rs
  | .nx rho m => k rho m
  | .ct rho m => k rho m
  | .bk rho m => .nx rho m
  | .rt d m => .rt d m
  | .exc c rho m => .exc c rho m
  | .bad => .bad
def whileS (t : En → M Bool) (F : SM) : Nat → SM
  | 0 => fun _ _ => .bad
  | n + 1 => fun rho => exS (t rho) rho fun b m => if b = true then cont (whileS t F n) (F rho m) else .nx rho m
theorem s_while {c : Expr} {p : List Stmt} {n : Nat} (hpo : PassesOwn (model X.prog X.w) X.A X.env X.xe) (hc : PT X c (TB fr t)) (hp : PSs X p (TSt fr rk F)) : PS X (.While c p [] pos) (TSt fr rk (whileS t F n)) := ps_weak (ps_while hpo hc hp) fun Dn s H ⟨rho, g, m, r, w⟩ => by
  refine ⟨fun k s H => ∃ rho g m, Rl fr g H rho m s ∧ RsW fr rk Dn g (whileS t F k rho m), ⟨n, rho, g, m, r, w⟩, fun k s H => ?_⟩
  rintro ⟨rho, g, m, r, w⟩
  cases k with
  | zero => exact absurd w (fun z => z)
  | succ k =>
    refine ⟨rho, g, m, r, wp_mono (exS_wp w) (fun b m1 q g1 H1 e1 o1 => ?_) fun c m' q => excE r q⟩
    have r1 := r.ext e1 o1
    cases b with
    | false => rw [if_neg Bool.false_ne_true] at q; exact iteF (q s g1 H1 e1.le r1)
    | true =>
      rw [if_pos rfl] at q
      refine iteT ⟨fun s' H' => ∃ rho g m, Rl fr g H' rho m s' ∧ RsW fr rk Dn g (whileS t F k rho m), fun s' H' z => ⟨k, Nat.lt_succ_self k, z⟩, rho, g1, m1, r1, ?_⟩
      cases z : F rho m1 with
      | nx rho' m' => rw [z] at q; exact fun s2 g2 H2 l2 r2 => ⟨rho', g2, m', r2, q.le (e1.le.trans l2)⟩
      | ct rho' m' => rw [z] at q; exact fun s2 g2 H2 l2 r2 => ⟨rho', g2, m', r2, q.le (e1.le.trans l2)⟩
      | bk rho' m' => rw [z] at q; exact q.le e1.le
      | rt d m' => rw [z] at q; exact q
      | exc c rho' m' => rw [z] at q; exact q.le e1.le
      | bad => rw [z] at q; exact q
end
end PF

namespace PF
open PySem L2

/-! ### what is walked -/
/-- at every state of which P holds the iterator yields xs -/
def ItOn (p : Par) (P : Gh → Hp → Prop) (J : It) (xs : List D) : Prop := ∀ (i : Nat) (g : Gh) (m : Store) (H : Hp), P g H → Ok p g m H →
  (∀ d, xs[i]? = some d → J.go i H ∧ ∀ v H2, J.yld i H v H2 → ∃ g2, Ok p g2 m H2 ∧ Ext g H g2 H2 ∧ Rep p.K g2 v d) ∧ (xs.length ≤ i → J.stop i H)
def pst (any : Bool) (g : Gh) (H : Hp) : Gh → Hp → Prop := if any then fun g' H' => Ext g H g' H' else fun g' _ => Le g g'
def TIt (fr : Fr) (any : Bool) (f : En → M (List D)) : TI := fun s H Rr => ∃ rho g m, Rl fr g H rho m s ∧
  (f rho m).wp (fun xs m' => ∀ J g' H', Ext g H g' H' → Ok fr.p g' m' H' → ItOn fr.p (pst any g' H') J xs → Rr J H') (OkE fr g H s)
def itemsD : D → Option (List D)
  | .tup xs => some xs
  | .lst xs => some xs
  | .scr ns => some (ns.map D.int)
  | _ => none
section
variable {p : Par} {P : Gh → Hp → Prop} {a : Addr} {vs : List V} {ds : List D}
theorem itl (hL : ∀ g m H, P g H → Ok p g m H → SqL p.K H a vs ∧ RepL p.K g vs ds ∧ ∀ ws, SqL p.K H a ws → ws = vs ∨ True) (hq : ∀ g m H, P g H → Ok p g m H → SqL p.K H a vs ∧ RepL p.K g vs ds) : ItOn p P (Itl p.K a) ds := by
  intro i g m H hp o
  obtain ⟨h1, h2⟩ := hq g m H hp o
  refine ⟨fun d hd => ?_, fun hl => ⟨vs, h1, by rw [h2.length]; exact hl⟩⟩
  obtain ⟨v, k1, k2⟩ := h2.get hd
  refine ⟨⟨vs, v, h1, k1⟩, fun w H2 y => ?_⟩
  obtain ⟨e, y⟩ := y
  subst e
  have e2 := y vs h1
  rw [k1] at e2
  cases e2
  exact ⟨g, o, Ext.refl g _, k2⟩
theorem itl' (hq : ∀ g m H, P g H → Ok p g m H → SqL p.K H a vs ∧ RepL p.K g vs ds) : ItOn p P (Itl p.K a) ds := itl (fun g m H hp o => ⟨(hq g m H hp o).1, (hq g m H hp o).2, fun _ _ => .inr trivial⟩) hq
theorem itt' (hq : ∀ g m H, P g H → Ok p g m H → SqT p.K H a vs ∧ RepL p.K g vs ds) : ItOn p P (Itt p.K a) ds := by
  intro i g m H hp o
  obtain ⟨h1, h2⟩ := hq g m H hp o
  refine ⟨fun d hd => ?_, fun hl => ⟨vs, h1, by rw [h2.length]; exact hl⟩⟩
  obtain ⟨v, k1, k2⟩ := h2.get hd
  refine ⟨⟨vs, v, h1, k1⟩, fun w H2 y => ?_⟩
  obtain ⟨e, y⟩ := y
  subst e
  have e2 := y vs h1
  rw [k1] at e2
  cases e2
  exact ⟨g, o, Ext.refl g _, k2⟩
end
theorem pst_le {any : Bool} {g g' : Gh} {H H' : Hp} (h : pst any g H g' H') : Le g g' := by
  cases any with
  | true => exact (show Ext g H g' H' from h).le
  | false => exact h
theorem tup_at {p : Par} {any : Bool} {g : Gh} {H : Hp} {a : Addr} {vs : List V} {ds : List D} (h : g.F a = some (.tup vs)) (r : RepL p.K g vs ds) : ∀ g' m' H', pst any g H g' H' → Ok p g' m' H' → SqT p.K H' a vs ∧ RepL p.K g' vs ds :=
  fun g' m' H' q o => ⟨SqT.of (o.fh _ _ ((pst_le q).ff _ _ h)), r.mono (pst_le q)⟩
theorem lst_at {p : Par} {any : Bool} {g : Gh} {H : Hp} {a : Addr} {vs : List V} {ds : List D} (h : g.F a = some (.lst vs)) (r : RepL p.K g vs ds) : ∀ g' m' H', pst any g H g' H' → Ok p g' m' H' → SqL p.K H' a vs ∧ RepL p.K g' vs ds :=
  fun g' m' H' q o => ⟨SqL.of (o.fh _ _ ((pst_le q).ff _ _ h)), r.mono (pst_le q)⟩
theorem lstA_at {p : Par} {g : Gh} {H : Hp} {a : Addr} {vs : List V} {ds : List D} (h : H a = some (.lst vs)) (hb : g.B a = none) (r : RepL p.K g vs ds) : ∀ g' m' H', pst true g H g' H' → Ok p g' m' H' → SqL p.K H' a vs ∧ RepL p.K g' vs ds :=
  fun g' m' H' q o => ⟨SqL.of ((show Ext g H g' H' from q).hh _ _ h hb), r.mono (pst_le q)⟩
theorem scr_at {p : Par} {any : Bool} {g : Gh} {H : Hp} {a : Addr} {ns : List Int} (h : SqL p.K g.F a (ns.map V.int)) : ∀ g' m' H', pst any g H g' H' → Ok p g' m' H' → SqL p.K H' a (ns.map V.int) ∧ RepL p.K g' (ns.map V.int) (ns.map D.int) :=
  fun g' m' H' q o => ⟨o.fh.seq ((pst_le q).ff.seq h), RepL.of_ints ns⟩

section
variable {X : Cx} {fr : Fr} {tg a b e : Expr} {f fa fb : En → M D} {fs : En → M (List D)} {pos : Pos}
theorem PI.or {t u : TI} (h1 : PI X tg e t) (h2 : PI X tg e u) : PI X tg e (fun s H Rr => t s H Rr ∨ u s H Rr) := ⟨fun pins s σ H Rr I q => by
  rcases q with q | q
  · exact h1.run pins s σ H Rr I q
  · exact h2.run pins s σ H Rr I q⟩
theorem pi_weak {t t' : TI} (h : PI X tg e t) (hw : ∀ s H Q, t' s H Q → t s H Q) : PI X tg e t' := ⟨fun pins s σ H Q I q => h.run pins s σ H Q I (hw σ H Q q)⟩
def evSeq (f : En → M D) (rho : En) : M (List D) := bnd (f rho) fun d => lift (itemsD d)
/-- one expression, a list or a tuple: both walks are asked of its value -/
def iSeq (K : PySem.W.Frag) (t : TE) : TI := fun s H Rr => t s H fun x H1 => ∃ a, x = .ref a ∧ (((∃ xs, SqL K H1 a xs) ∧ Rr (Itl K a) H1) ∨ ((∃ xs, SqT K H1 a xs) ∧ Rr (Itt K a) H1))
theorem pi_seq {l : Expr} {tl : TE} (hl : PE X l tl) : PI X tg l (iSeq X.K tl) := by
  refine ⟨fun pins s σ H Rr I h => ?_⟩
  refine thn (hl.run pins s σ H _ I h) fun v s1 ⟨x, H1, I1, r1, q1⟩ => ?_
  obtain ⟨a, rfl, q⟩ := q1
  have e : v = Value.ref a := r1
  subst e
  rcases q with ⟨⟨xs, hq⟩, q⟩ | ⟨⟨xs, hq⟩, q⟩
  · obtain ⟨its, rv, p1, hz⟩ := I1.list hq
    refine PySem.wpAny_pyIter_list p1.isList ⟨_, [s1.heap.objs.size], _, _, H1, rfl, I1.kept (t' := s1.toks) (fun b o e => Heap.get?_push_of_some _ e), turn_list a s1.heap.objs.size, ⟨_, Heap.get?_push_size _ rfl, rfl, rfl⟩, fun b hb => ?_, q⟩
    rw [List.mem_singleton.mp hb]
    exact I1.fpOk (Nat.le_refl _) (I1.hok.fresh (Nat.le_refl _))
  · obtain ⟨its, rv, p1, hz⟩ := I1.tuple hq
    refine PySem.wpAny_pyIter_tuple (show s1.heap.IsTuple a its.toArray from p1) ⟨_, [s1.heap.objs.size], _, _, H1, rfl, I1.kept (t' := s1.toks) (fun b o e => Heap.get?_push_of_some _ e), turn_tuple a s1.heap.objs.size, ⟨_, Heap.get?_push_size _ rfl, rfl, rfl⟩, fun b hb => ?_, q⟩
    rw [List.mem_singleton.mp hb]
    exact I1.fpOk (Nat.le_refl _) (I1.hok.fresh (Nat.le_refl _))
theorem i_seqZ {any : Bool} (hK : X.K = fr.p.K) (ha : PE X a (TV fr (vZ fr.p.K) fa)) : PI X tg a (TIt fr any (evSeq fa)) := pi_weak (pi_seq ha) fun s H Rr ⟨rho, g, m, rl, w⟩ => by
  refine ⟨rho, g, m, rl, wp_mono (wp_bnd.mp w) (fun dx m1 w1 v g1 H1 e1 o1 r1 => ?_) fun _ _ z => z⟩
  obtain ⟨xs, hx, q⟩ := wp_lift.mp w1
  have r1 : Rep fr.p.K g1 v dx := r1
  rw [hK]
  cases r1 with
  | tup h t =>
    cases hx
    exact ⟨_, rfl, .inr ⟨⟨_, SqT.of (o1.fh _ _ h)⟩, q _ g1 H1 e1 o1 (itt' (tup_at h t))⟩⟩
  | lst h t =>
    cases hx
    exact ⟨_, rfl, .inl ⟨⟨_, SqL.of (o1.fh _ _ h)⟩, q _ g1 H1 e1 o1 (itl' (lst_at h t))⟩⟩
  | scr h =>
    cases hx
    exact ⟨_, rfl, .inl ⟨⟨_, o1.fh.seq h⟩, q _ g1 H1 e1 o1 (itl' (scr_at h))⟩⟩
  | _ => cases hx
theorem i_seqA (hK : X.K = fr.p.K) (ha : PE X a (TV fr (vA fr.p.K) fa)) : PI X tg a (TIt fr true (evSeq fa)) := pi_weak (pi_seq ha) fun s H Rr ⟨rho, g, m, rl, w⟩ => by
  refine ⟨rho, g, m, rl, wp_mono (wp_bnd.mp w) (fun dx m1 w1 v g1 H1 e1 o1 r1 => ?_) fun _ _ z => z⟩
  obtain ⟨xs, hx, q⟩ := wp_lift.mp w1
  have r1 : RepA fr.p.K g1 H1 v dx := r1
  rw [hK]
  cases dx with
  | tup ds =>
    cases hx
    obtain ⟨a, vs, rfl, h, t⟩ := r1.tup
    exact ⟨_, rfl, .inr ⟨⟨_, SqT.of (o1.fh _ _ h)⟩, q _ g1 H1 e1 o1 (itt' (tup_at h t))⟩⟩
  | lst ds =>
    cases hx
    obtain ⟨a, vs, rfl, h, hb, t⟩ := r1.lst
    exact ⟨_, rfl, .inl ⟨⟨_, SqL.of h⟩, q _ g1 H1 e1 o1 (itl' (lstA_at h hb t))⟩⟩
  | scr ns =>
    cases hx
    obtain ⟨a, rfl, h⟩ := r1.scr
    exact ⟨_, rfl, .inl ⟨⟨_, o1.fh.seq h⟩, q _ g1 H1 e1 o1 (itl' (scr_at h))⟩⟩
  | _ => cases hx
def rngD (lo hi : Int) : Option (List D) := if -(2 ^ 62) ≤ lo ∧ lo < 2 ^ 62 ∧ -(2 ^ 62) ≤ hi ∧ hi < 2 ^ 62 then some ((List.range (hi - lo).toNat).map fun (i : Nat) => D.int (lo + i)) else none
def rng1 : List D → Option (List D)
  | [.int j] => rngD 0 j
  | _ => none
def rng2 : List D → Option (List D)
  | [.int i, .int j] => rngD i j
  | _ => none
theorem it_rng {p : Par} {P : Gh → Hp → Prop} (lo : Int) (n : Nat) : ItOn p P (Itr lo n) ((List.range n).map fun (i : Nat) => D.int (lo + i)) := by
  intro i g m H _ o
  refine ⟨fun d hd => ?_, fun hl => by
    show n ≤ i
    simpa using hl⟩
  rw [List.getElem?_map] at hd
  cases q : (List.range n)[i]? with
  | none => rw [q] at hd; cases hd
  | some j =>
    rw [q] at hd
    cases hd
    obtain ⟨h1, h2⟩ := List.getElem?_eq_some_iff.mp q
    have h1' : i < n := by simpa using h1
    have h2' : i = j := by simpa using h2
    subst h2'
    refine ⟨h1', fun v H2 y => ?_⟩
    obtain ⟨e1, e2⟩ := y
    subst e1 e2
    exact ⟨g, o, Ext.refl g _, .int _⟩
def evI (sem : List D → Option (List D)) (fs : En → M (List D)) (rho : En) : M (List D) := bnd (fs rho) fun xs => lift (sem xs)
theorem i_rng1 {any : Bool} {p : Pos} (hg : Gl X "range") (hm : X.mg "range" = none) (ha : PA X [e] (TLg fr (lA fr.p.K) fs)) (hs : starEach [e] X.env = [(false, eval e X.env)]) : PI X tg (.Call (.Name "range" p) [e] [] pos) (TIt fr any (evI rng1 fs)) :=
  pi_weak (pi_range1 hg hm ha hs) fun s H Rr ⟨rho, g, m, rl, w⟩ => ⟨rho, g, m, rl, wp_mono (wp_bnd.mp w) (fun ds m1 w1 vs g1 H1 e1 o1 r1 => by
    obtain ⟨xs, hx, q⟩ := wp_lift.mp w1
    unfold rng1 at hx
    split at hx
    · obtain ⟨v, rfl, r⟩ := RepAL.one r1
      rw [r.int]
      unfold rngD at hx
      split at hx
      · rename_i j h
        cases hx
        refine ⟨j, rfl, h.2.2.1, h.2.2.2, q _ g1 H1 e1 o1 ?_⟩
        have z := it_rng (p := fr.p) (P := pst any g1 H1) 0 j.toNat
        simpa using z
      · cases hx
    · cases hx) fun _ _ z => z⟩
theorem i_rng2 {any : Bool} {p : Pos} (hg : Gl X "range") (hm : X.mg "range" = none) (ha : PA X [a, e] (TLg fr (lA fr.p.K) fs)) (hs : starEach [a, e] X.env = [(false, eval a X.env), (false, eval e X.env)]) (hs2 : starEach [e] X.env = [(false, eval e X.env)]) : PI X tg (.Call (.Name "range" p) [a, e] [] pos) (TIt fr any (evI rng2 fs)) :=
  pi_weak (pi_range2 hg hm ha hs hs2) fun s H Rr ⟨rho, g, m, rl, w⟩ => ⟨rho, g, m, rl, wp_mono (wp_bnd.mp w) (fun ds m1 w1 vs g1 H1 e1 o1 r1 => by
    obtain ⟨xs, hx, q⟩ := wp_lift.mp w1
    unfold rng2 at hx
    split at hx
    · obtain ⟨v, u, rfl, r, r'⟩ := RepAL.two r1
      rw [r.int, r'.int]
      unfold rngD at hx
      split at hx
      · rename_i i j h
        cases hx
        exact ⟨i, j, rfl, ⟨h.1, h.2.1, h.2.2.1, h.2.2.2⟩, q _ g1 H1 e1 o1 (it_rng i _)⟩
      · cases hx
    · cases hx) fun _ _ z => z⟩
/-! enumerate, zip -/
def enumD (xs : List D) : List D := xs.zipIdx.map fun q => .tup [.int (q.2 : Nat), q.1]
def enm1 : List D → Option (List D)
  | [.lst xs] => some (enumD xs)
  | _ => none
theorem enum_get {xs : List D} {i : Nat} {d : D} (h : (enumD xs)[i]? = some d) : ∃ x, xs[i]? = some x ∧ d = .tup [.int (i : Nat), x] := by
  unfold enumD at h
  rw [List.getElem?_map] at h
  cases q : xs.zipIdx[i]? with
  | none => rw [q] at h; cases h
  | some y =>
    rw [q] at h
    cases h
    rw [List.getElem?_zipIdx] at q
    cases z : xs[i]? with
    | none => rw [z] at q; cases q
    | some x =>
      rw [z] at q
      cases q
      exact ⟨x, rfl, by simp⟩
theorem it_enum {p : Par} {P : Gh → Hp → Prop} {a : Addr} {vs : List V} {ds : List D} (hq : ∀ g m H, P g H → Ok p g m H → SqL p.K H a vs ∧ RepL p.K g vs ds) : ItOn p P (Ite p.K a) (enumD ds) := by
  intro i g m H hp o
  obtain ⟨h1, h2⟩ := hq g m H hp o
  refine ⟨fun d hd => ?_, fun hl => ⟨vs, h1, by rw [h2.length]; simpa [enumD] using hl⟩⟩
  obtain ⟨x, hx, rfl⟩ := enum_get hd
  obtain ⟨v, k1, k2⟩ := h2.get hx
  refine ⟨⟨vs, v, h1, k1⟩, fun w H2 y => ?_⟩
  obtain ⟨T, u, rfl, hT, rfl, y⟩ := y
  have e2 := y vs h1
  rw [k1] at e2
  cases e2
  obtain ⟨o2, e2⟩ := o.new hT (.tup [.int (i : Nat), v])
  exact ⟨_, o2, e2, .tup (show upd g.F T _ T = _ from upd_same) (.cons (.int _) (.cons (k2.mono (Le.put (o.fnone hT))) .nil))⟩
theorem i_enumA {p tpos : Pos} {elts : List Expr} {kk : Nat} (hK : X.K = fr.p.K) (hg : Gl X "enumerate") (hm : X.mg "enumerate" = none) (ha : PA X [e] (TLg fr (lA fr.p.K) fs)) (hs : starEach [e] X.env = [(false, eval e X.env)]) : PI X (.Tuple elts kk tpos) (.Call (.Name "enumerate" p) [e] [] pos) (TIt fr true (evI enm1 fs)) :=
  pi_weak (pi_enum hg hm ha hs) fun s H Rr ⟨rho, g, m, rl, w⟩ => ⟨rho, g, m, rl, wp_mono (wp_bnd.mp w) (fun ds m1 w1 vs g1 H1 e1 o1 r1 => by
    obtain ⟨xs, hx, q⟩ := wp_lift.mp w1
    unfold enm1 at hx
    split at hx
    · obtain ⟨v, rfl, r⟩ := RepAL.one r1
      cases hx
      obtain ⟨a, us, rfl, h, hb, t⟩ := r.lst
      refine ⟨a, us, rfl, SqL.of h, ?_⟩
      rw [hK]
      exact q _ g1 H1 e1 o1 (it_enum (lstA_at h hb t))
    · cases hx) fun _ _ z => z⟩
theorem i_enumZ {any : Bool} {p tpos : Pos} {elts : List Expr} {kk : Nat} (hK : X.K = fr.p.K) (hg : Gl X "enumerate") (hm : X.mg "enumerate" = none) (ha : PA X [e] (TLg fr (lZ fr.p.K) fs)) (hs : starEach [e] X.env = [(false, eval e X.env)]) : PI X (.Tuple elts kk tpos) (.Call (.Name "enumerate" p) [e] [] pos) (TIt fr any (evI enm1 fs)) :=
  pi_weak (pi_enum hg hm ha hs) fun s H Rr ⟨rho, g, m, rl, w⟩ => ⟨rho, g, m, rl, wp_mono (wp_bnd.mp w) (fun ds m1 w1 vs g1 H1 e1 o1 r1 => by
    obtain ⟨xs, hx, q⟩ := wp_lift.mp w1
    unfold enm1 at hx
    split at hx
    · have r1 : RepL fr.p.K g1 vs _ := r1
      cases r1 with
      | cons r t =>
        cases t
        cases hx
        cases r with
        | lst h t =>
          refine ⟨_, _, rfl, SqL.of (o1.fh _ _ h), ?_⟩
          rw [hK]
          exact q _ g1 H1 e1 o1 (it_enum (lst_at h t))
    · cases hx) fun _ _ z => z⟩
def zipD (xs ys : List D) : List D := List.zipWith (fun x y => .tup [x, y]) xs ys
def zip2 : List D → Option (List D)
  | [.lst xs, .lst ys] => some (zipD xs ys)
  | _ => none
theorem it_zip {p : Par} {P : Gh → Hp → Prop} {a b : Addr} {vs us : List V} {ds es : List D} (hq : ∀ g m H, P g H → Ok p g m H → SqL p.K H a vs ∧ RepL p.K g vs ds) (hq2 : ∀ g m H, P g H → Ok p g m H → SqL p.K H b us ∧ RepL p.K g us es) : ItOn p P (Itz p.K a b) (zipD ds es) := by
  intro i g m H hp o
  obtain ⟨h1, h2⟩ := hq g m H hp o
  obtain ⟨k1, k2⟩ := hq2 g m H hp o
  refine ⟨fun d hd => ?_, fun hl => ⟨vs, us, h1, k1, by rw [h2.length, k2.length]; simp [zipD] at hl; omega⟩⟩
  unfold zipD at hd
  rw [List.getElem?_zipWith] at hd
  cases q1 : ds[i]? with
  | none => rw [q1] at hd; simp at hd
  | some x =>
    cases q2 : es[i]? with
    | none => rw [q1, q2] at hd; simp at hd
    | some y =>
      rw [q1, q2] at hd
      cases hd
      obtain ⟨v, e1, e2⟩ := h2.get q1
      obtain ⟨u, f1, f2⟩ := k2.get q2
      refine ⟨⟨vs, us, v, u, h1, k1, e1, f1⟩, fun w H2 z => ?_⟩
      obtain ⟨T, v', u', rfl, hT, rfl, z1, z2⟩ := z
      have e3 := z1 vs h1
      rw [e1] at e3
      cases e3
      have e4 := z2 us k1
      rw [f1] at e4
      cases e4
      obtain ⟨o2, x2⟩ := o.new hT (.tup [v, u])
      exact ⟨_, o2, x2, .tup (show upd g.F T _ T = _ from upd_same) (.cons (e2.mono (Le.put (o.fnone hT))) (.cons (f2.mono (Le.put (o.fnone hT))) .nil))⟩
theorem i_zipA {p tpos : Pos} {elts : List Expr} {kk : Nat} (hK : X.K = fr.p.K) (hg : Gl X "zip") (hm : X.mg "zip" = none) (ha : PA X [a, e] (TLg fr (lA fr.p.K) fs)) (hs : starEach [a, e] X.env = (false, eval a X.env) :: starEach [e] X.env) (hpl : (backTo pos (starEach [e] X.env)).any (·.1) = false) : PI X (.Tuple elts kk tpos) (.Call (.Name "zip" p) [a, e] [] pos) (TIt fr true (evI zip2 fs)) :=
  pi_weak (pi_zip hg hm ha hs hpl) fun s H Rr ⟨rho, g, m, rl, w⟩ => ⟨rho, g, m, rl, wp_mono (wp_bnd.mp w) (fun ds m1 w1 vs g1 H1 e1 o1 r1 => by
    obtain ⟨xs, hx, q⟩ := wp_lift.mp w1
    unfold zip2 at hx
    split at hx
    · obtain ⟨v, u, rfl, r, r'⟩ := RepAL.two r1
      cases hx
      obtain ⟨a, us, rfl, h, hb, t⟩ := r.lst
      obtain ⟨b, us', rfl, h', hb', t'⟩ := r'.lst
      refine ⟨a, b, us, us', rfl, SqL.of h, SqL.of h', ?_⟩
      rw [hK]
      exact q _ g1 H1 e1 o1 (it_zip (lstA_at h hb t) (lstA_at h' hb' t'))
    · cases hx) fun _ _ z => z⟩
theorem i_zipZ {any : Bool} {p tpos : Pos} {elts : List Expr} {kk : Nat} (hK : X.K = fr.p.K) (hg : Gl X "zip") (hm : X.mg "zip" = none) (ha : PA X [a, e] (TLg fr (lZ fr.p.K) fs)) (hs : starEach [a, e] X.env = (false, eval a X.env) :: starEach [e] X.env) (hpl : (backTo pos (starEach [e] X.env)).any (·.1) = false) : PI X (.Tuple elts kk tpos) (.Call (.Name "zip" p) [a, e] [] pos) (TIt fr any (evI zip2 fs)) :=
  pi_weak (pi_zip hg hm ha hs hpl) fun s H Rr ⟨rho, g, m, rl, w⟩ => ⟨rho, g, m, rl, wp_mono (wp_bnd.mp w) (fun ds m1 w1 vs g1 H1 e1 o1 r1 => by
    obtain ⟨xs, hx, q⟩ := wp_lift.mp w1
    unfold zip2 at hx
    split at hx
    · have r1 : RepL fr.p.K g1 vs _ := r1
      cases r1 with
      | cons r t =>
        cases t with
        | cons r' t =>
          cases t
          cases hx
          cases r with
          | lst h t =>
            cases r' with
            | lst h' t' =>
              refine ⟨_, _, _, _, rfl, SqL.of (o1.fh _ _ h), SqL.of (o1.fh _ _ h'), ?_⟩
              rw [hK]
              exact q _ g1 H1 e1 o1 (it_zip (lst_at h t) (lst_at h' t'))
    · cases hx) fun _ _ z => z⟩
end

/-! ### targets -/
inductive Tg where
  | nm (i : Nat) | tp (is : List Nat) | tn (i : Nat) (is : List Nat)
  deriving DecidableEq
def setAll : List Nat → List D → En → Option En
  | [], [], rho => some rho
  | i :: is, d :: ds, rho => setAll is ds (rho.set i (some d))
  | _, _, _ => none
def bindN (i : Nat) (is : List Nat) (d : D) (rho : En) : Option En := match d with
  | .tup [x, .tup ds] => setAll is ds (rho.set i (some x))
  | _ => none
def Tg.bind (t : Tg) (d : D) (rho : En) : Option En := match t with
  | .nm i => some (rho.set i (some d))
  | .tp is => (match d with
    | .tup ds => setAll is ds rho
    | _ => none)
  | .tn i is => bindN i is d rho
def Tg.sl : Tg → List Nat
  | .nm i => [i]
  | .tp is => is
  | .tn i is => i :: is
theorem wipe_get (s : St) : ∀ (vs : List Nat) (j : Nat), (wipe s vs)[j]? = if j ∈ vs then (s[j]?).map (fun _ => none) else s[j]?
  | [], j => by simp [wipe]
  | v :: vs, j => by
    unfold wipe
    have ih := wipe_get s vs j
    by_cases e : v = j
    · subst e
      by_cases hl : v < s.length
      · rw [List.getElem?_set_self (by rw [wipe_length]; exact hl)]
        simp [hl]
      · rw [List.getElem?_eq_none (by rw [List.length_set, wipe_length]; omega)]
        have : s[v]? = none := List.getElem?_eq_none (by omega)
        simp [this]
    · rw [List.getElem?_set_ne e, ih]
      have : (j ∈ v :: vs) ↔ j ∈ vs := by
        rw [List.mem_cons]
        exact ⟨fun z => z.resolve_left fun y => e y.symm, .inr⟩
      by_cases h : j ∈ vs
      · simp [h]
      · rw [if_neg h, if_neg (fun z => h (this.mp z))]
theorem wipe_set {s : St} {vs : List Nat} {i : Nat} {x : Option V} (h : i ∈ vs) : wipe (s.set i x) vs = wipe s vs := by
  apply List.ext_getElem?
  intro j
  rw [wipe_get, wipe_get]
  by_cases e : i = j
  · subst e
    rw [if_pos h, if_pos h]
    by_cases hl : i < s.length
    · rw [List.getElem?_set_self hl]
      simp [hl]
    · have : s.length ≤ i := by omega
      simp [this]
  · rw [List.getElem?_set_ne e]
def TgOk (fr : Fr) (G : TG) (t : Tg) : Prop := ∀ (g : Gh) (H : Hp) (rho : En) (m : Store) (s : St) (v : V) (d : D) (rho' : En) (Q : St → Hp → Prop), Rl fr g H rho m s → Rep fr.p.K g v d → t.bind d rho = some rho' →
  (∀ s', (∀ vs, (∀ i ∈ t.sl, i ∈ vs) → wipe s' vs = wipe s vs) → Rl fr g H rho' m s' → Q s' H) → G v s H Q
theorem tg_nm {fr : Fr} {i : Nat} (hm : fr.md i = .frz) : TgOk fr (gName i) (.nm i) := by
  intro g H rho m s v d rho' Q r rv e q
  cases e
  exact q _ (fun vs h => wipe_set (h i (by simp [Tg.sl]))) (r.setZ hm rv)
def gNames : List Nat → TGs
  | [] => gNil
  | i :: is => gCons (gName i) (gNames is)
theorem tg_names {fr : Fr} {g : Gh} {H : Hp} {m : Store} : ∀ {is : List Nat} {ds : List D} {vs : List V} {rho rho' : En} {s : St} {Q : St → Hp → Prop}, (∀ i ∈ is, fr.md i = .frz) → Rl fr g H rho m s → RepL fr.p.K g vs ds → setAll is ds rho = some rho' →
    (∀ s', (∀ ws, (∀ i ∈ is, i ∈ ws) → wipe s' ws = wipe s ws) → Rl fr g H rho' m s' → Q s' H) → gNames is vs s H Q
  | [], [], _, _, _, _, _, _, r, .nil, e, q => by
    cases e
    exact ⟨rfl, q _ (fun _ _ => rfl) r⟩
  | i :: is, d :: ds, _, rho, _, s, Q, hm, r, .cons h t, e, q => by
    refine ⟨_, _, rfl, tg_names (fun j hj => hm j (List.mem_cons_of_mem _ hj)) (r.setZ (hm i (List.mem_cons_self ..)) h) t e fun s' hw r' => q s' (fun ws hs => ?_) r'⟩
    rw [hw ws fun j hj => hs j (List.mem_cons_of_mem _ hj)]
    exact wipe_set (hs i (List.mem_cons_self ..))
  | [], _ :: _, _, _, _, _, _, _, _, _, e, _ => by cases e
  | _ :: _, [], _, _, _, _, _, _, _, _, e, _ => by cases e
theorem setAll_len : ∀ {is : List Nat} {ds : List D} {rho rho' : En}, setAll is ds rho = some rho' → is.length = ds.length
  | [], [], _, _, _ => rfl
  | i :: is, d :: ds, rho, rho', e => congrArg Nat.succ (setAll_len (show setAll is ds (rho.set i (some d)) = some rho' from e))
  | [], _ :: _, _, _, e => by cases e
  | _ :: _, [], _, _, e => by cases e
theorem tg_tp {fr : Fr} {is : List Nat} (hm : ∀ i ∈ is, fr.md i = .frz) : TgOk fr (gTup fr.p.K is.length (gNames is)) (.tp is) := by
  intro g H rho m s v d rho' Q r rv e q
  unfold Tg.bind at e
  cases d with
  | tup ds =>
    cases rv with
    | tup h t => exact ⟨_, _, rfl, SqT.of (r.ok.fh _ _ h), by rw [t.length]; exact (setAll_len e).symm, tg_names hm r t e q⟩
  | _ => cases e
theorem tg_tn {fr : Fr} {i : Nat} {is : List Nat} (h0 : fr.md i = .frz) (hm : ∀ i ∈ is, fr.md i = .frz) : TgOk fr (gTup fr.p.K 2 (gCons (gName i) (gCons (gTup fr.p.K is.length (gNames is)) gNil))) (.tn i is) := by
  intro g H rho m s v d rho' Q r rv e q
  have e : bindN i is d rho = some rho' := e
  unfold bindN at e
  split at e
  · cases rv with
    | tup h t =>
      cases t with
      | cons t1 t2 =>
        cases t2 with
        | cons t3 t4 =>
          cases t4
          refine ⟨_, _, rfl, SqT.of (r.ok.fh _ _ h), rfl, _, _, rfl, ?_⟩
          cases t3 with
          | tup h3 t5 =>
            refine ⟨_, _, rfl, _, _, rfl, SqT.of (r.ok.fh _ _ h3), by rw [t5.length]; exact (setAll_len e).symm, ?_⟩
            refine tg_names hm (r.setZ h0 t1) t5 e fun s' hw r' => ⟨rfl, q s' (fun ws hs => ?_) r'⟩
            rw [hw ws fun j hj => hs j (List.mem_cons_of_mem _ hj)]
            exact wipe_set (hs i (List.mem_cons_self ..))
  · cases e

/-! ### for -/
def forS (t : Tg) (F : SM) : List D → SM
  | [] => fun rho m => .nx rho m
  | d :: ds => fun rho m => match t.bind d rho with
    | none => .bad
    | some rho' => cont (forS t F ds) (F rho' m)
def forT (fi : En → M (List D)) (t : Tg) (F : SM) : SM := fun rho => exS (fi rho) rho fun xs m => forS t F xs rho m
section
variable {X : Cx} {fr : Fr} {rk : VR} {tg iter : Expr} {body : List Stmt} {pos : Pos} {fi : En → M (List D)} {G : TG} {t : Tg} {F : SM}
theorem s_for (hp : PassesOwn (model X.prog X.w) X.A X.env X.xe) (hc : X.calm = true) (hi : PI X tg iter (TIt fr false fi)) (hg : PG X tg G) (hG : TgOk fr G t) (hb : PSs X body (TSt fr rk F)) (hs : ∀ x, foldedSetIterable iter X.env x = pure x) :
    PS X (.For tg iter body [] pos) (TSt fr rk (forT fi t F)) := ps_weak (ps_for hp hc hi hg hb hs) fun Dn s H ⟨rho, g, m, r, w⟩ => by
  refine ⟨rho, g, m, r, wp_mono (exS_wp w) (fun xs m1 q J g1 H1 e1 o1 it => ?_) fun c m' q => excE r q⟩
  refine ⟨fun i k s H => i ≤ xs.length ∧ k = xs.length - i ∧ ∃ rho g m, Le g1 g ∧ Rl fr g H rho m s ∧ RsW fr rk Dn g (forS t F (xs.drop i) rho m), ⟨xs.length, Nat.zero_le _, rfl, rho, g1, m1, Le.refl g1, r.ext e1 o1, q.le e1.le⟩, fun i k s H => ?_⟩
  rintro ⟨hi, hk, rho, g, m, l, r, w⟩
  have itn := it i g m H (show pst false g1 H1 g H from l) r.ok
  by_cases hlt : i < xs.length
  · refine .inr ?_
    have hd : xs.drop i = xs[i] :: xs.drop (i + 1) := List.drop_eq_getElem_cons hlt
    rw [hd] at w
    obtain ⟨go, yl⟩ := itn.1 xs[i] (List.getElem?_eq_getElem hlt)
    refine ⟨go, fun s' H' => i + 1 ≤ xs.length ∧ ∃ rho g m, Le g1 g ∧ Rl fr g H' rho m s' ∧ RsW fr rk Dn g (forS t F (xs.drop (i + 1)) rho m), fun s' H' ⟨h1, z⟩ => ⟨xs.length - (i + 1), by omega, h1, rfl, z⟩, fun v H' y => ?_⟩
    obtain ⟨g2, o2, e2, rv⟩ := yl v H' y
    have w' : RsW fr rk Dn g (match t.bind xs[i] rho with
      | none => .bad
      | some rho' => cont (forS t F (xs.drop (i + 1))) (F rho' m)) := w
    cases hb' : t.bind xs[i] rho with
    | none => rw [hb'] at w'; exact absurd w' (fun z => z)
    | some rho' =>
      rw [hb'] at w'
      have w' : RsW fr rk Dn g (cont (forS t F (xs.drop (i + 1))) (F rho' m)) := w'
      refine hG g2 H' rho m s v xs[i] rho' _ (r.ext e2 o2) rv hb' fun s' _ r' => ⟨rho', g2, m, r', ?_⟩
      cases z : F rho' m with
      | nx r2 m2 => rw [z] at w'; exact fun s3 g3 H3 l3 r3 => ⟨hlt, r2, g3, m2, l.trans (e2.le.trans l3), r3, w'.le (e2.le.trans l3)⟩
      | ct r2 m2 => rw [z] at w'; exact fun s3 g3 H3 l3 r3 => ⟨hlt, r2, g3, m2, l.trans (e2.le.trans l3), r3, w'.le (e2.le.trans l3)⟩
      | bk r2 m2 => rw [z] at w'; exact w'.le e2.le
      | rt d m2 => rw [z] at w'; exact w'
      | exc c r2 m2 => rw [z] at w'; exact w'.le e2.le
      | bad => rw [z] at w'; exact w'
  · have e : i = xs.length := by omega
    subst e
    rw [List.drop_length] at w
    exact .inl ⟨itn.2 (Nat.le_refl _), w s g H (Le.refl g) r⟩
end
end PF

namespace PF
open PySem L2

/-! ### comprehensions -/
def noX {α : Type} (x : M α) : M α := fun m => match x m with
  | .ok a m' => .ok a m'
  | .exc _ _ => .bad
  | .bad => .bad
theorem wp_noX {α : Type} {x : M α} {m : Store} {P : α → Store → Prop} {E : Nat → Store → Prop} (h : (noX x m).wp P E) : (x m).wp P (fun _ _ => False) := by
  unfold noX R.wp at *
  cases q : x m with
  | ok a m' => rw [q] at h; exact h
  | exc c m' => rw [q] at h; exact h
  | bad => rw [q] at h; exact h
/-- what the items give: the target bound, the test, the element -/
def compL (t : Tg) (c : En → M Bool) (f : En → M D) (rho : En) : List D → M (List D)
  | [] => ret []
  | d :: ds => match t.bind d rho with
    | none => fun _ => .bad
    | some rho' => bnd (noX (c rho')) fun b => if b = true then bnd (noX (f rho')) fun y => bnd (compL t c f rho ds) fun ys => ret (y :: ys) else compL t c f rho ds
def wipeE (rho : En) : List Nat → En
  | [] => rho
  | v :: vs => (wipeE rho vs).set v none
theorem Rl.wipe {fr : Fr} {g : Gh} {H : Hp} {rho : En} {m : Store} {s : St} (r : Rl fr g H rho m s) : ∀ vs : List Nat, Rl fr g H (wipeE rho vs) m (L2.wipe s vs)
  | [] => r
  | v :: vs => (Rl.wipe r vs).unset
def evComp (fi : En → M (List D)) (t : Tg) (c : En → M Bool) (f : En → M D) (vs : List Nat) (rho : En) : M D :=
  bnd (fi rho) fun xs => bnd (lift (if xs.length ≤ sizeLine then some () else none)) fun _ => bnd (compL t c f (wipeE rho vs) xs) fun ys => ret (.lst ys)
abbrev Fr.still (fr : Fr) : Fr := { fr with W := fun _ _ _ _ => False }
theorem Rl.still {fr : Fr} {g : Gh} {H : Hp} {rho : En} {m : Store} {s : St} (r : Rl fr g H rho m s) : Rl fr.still g H rho m s := ⟨r.ok, r.ent, r.len, r.val⟩
theorem Rl.unstill {fr : Fr} {g : Gh} {H : Hp} {rho : En} {m : Store} {s : St} (r : Rl fr.still g H rho m s) : Rl fr g H rho m s := ⟨r.ok, r.ent, r.len, r.val⟩
theorem Ext.later {g g' : Gh} {H H' : Hp} (e : Ext g H g' H') {a : Addr} (h : H a = none) (u : HO) : Ext g H g' (upd H' a u) := by
  refine ⟨e.le, fun b o z n => ?_, e.fn, e.bb, e.bn, fun b z => ?_⟩
  · rw [upd_ne (fun y => by rw [y, h] at z; cases z)]
    exact e.hh b o z n
  · by_cases y : b = a
    · rw [y, upd_same]; simp
    · rw [upd_ne y]; exact e.no b z
section
variable {X : Cx} {fr : Fr} {wi : TI} {G : TG} {t : Tg} {c : En → M Bool} {f : En → M D} {fi : En → M (List D)} {vs : List Nat}
theorem comp_ok (hG : TgOk fr.still G t) (hsl : ∀ i ∈ t.sl, i ∈ vs) (s : St) (H : Hp) (Q : VK) (h : TV fr (vF fr.p.K) (evComp fi t c f vs) s H Q) :
    tLc (TIt fr true fi) G (TB fr.still c) (TV fr.still (vZ fr.p.K) f) vs s H Q := by
  obtain ⟨rho, g, m, rl, w⟩ := h
  refine ⟨rho, g, m, rl, wp_mono (wp_bnd.mp w) (fun xs m1 w1 J g1 H1 e1 o1 it => ?_) fun _ _ z => z⟩
  obtain ⟨_, hz, w2⟩ := wp_lift.mp (wp_bnd.mp w1)
  have hz : xs.length ≤ sizeLine := by
    split at hz
    · assumption
    · cases hz
  have w3 := wp_bnd.mp w2
  intro Da hDa
  have hDH : H Da = none := e1.fresh hDa
  let Fin : List D → R (List D) → Prop := fun done r => r.wp (fun ys m' => Ans fr.p g m' H (.lst (done ++ ys)) Q) (OkE fr g H s)
  refine ⟨fun i k H' => i ≤ xs.length ∧ k = xs.length - i ∧ ∃ g' m' done acc, Ext g1 H1 g' H' ∧ Ok fr.p g' m' H' ∧ H' Da = some (.lst acc) ∧ g'.F Da = none ∧ g'.B Da = none ∧ RepL fr.p.K g' acc done ∧ done.length ≤ i ∧ Fin done (compL t c f (wipeE rho vs) (xs.drop i) m'), ⟨xs.length, Nat.zero_le _, rfl, ?_⟩, fun i k H' => ?_⟩
  · obtain ⟨o2, e2⟩ := o1.raw hDa (.lst [])
    exact ⟨g1, m1, [], [], e2, o2, upd_same, o1.fnone hDa, o1.bnone hDa, .nil, Nat.le_refl 0, by
      show (compL t c f (wipeE rho vs) xs m1).wp _ _
      exact wp_mono w3 (fun ys m' z => z) fun _ _ z => z⟩
  · rintro ⟨hi, hk, g', m', done, acc, e2, o2, hD, hF, hB, ra, hdl, fin⟩
    have itn := it i g' m' H' (show pst true g1 H1 g' H' from e2) o2
    by_cases hlt : i < xs.length
    · refine .inr ?_
      have hd : xs.drop i = xs[i] :: xs.drop (i + 1) := List.drop_eq_getElem_cons hlt
      rw [hd] at fin
      obtain ⟨go, yl⟩ := itn.1 xs[i] (List.getElem?_eq_getElem hlt)
      refine ⟨go, fun H2 => i + 1 ≤ xs.length ∧ ∃ g' m' done acc, Ext g1 H1 g' H2 ∧ Ok fr.p g' m' H2 ∧ H2 Da = some (.lst acc) ∧ g'.F Da = none ∧ g'.B Da = none ∧ RepL fr.p.K g' acc done ∧ done.length ≤ i + 1 ∧ Fin done (compL t c f (wipeE rho vs) (xs.drop (i + 1)) m'),
        fun H2 ⟨h1, z⟩ => ⟨xs.length - (i + 1), by omega, h1, rfl, z⟩, fun x H2 y => ?_⟩
      obtain ⟨g2, o3, e3, rx⟩ := yl x H2 y
      have fin' : Fin done ((match t.bind xs[i] (wipeE rho vs) with
        | none => fun _ => R.bad
        | some rho' => bnd (noX (c rho')) fun b => if b = true then bnd (noX (f rho')) fun y => bnd (compL t c f (wipeE rho vs) (xs.drop (i + 1))) fun ys => ret (y :: ys) else compL t c f (wipeE rho vs) (xs.drop (i + 1))) m') := fin
      cases hb : t.bind xs[i] (wipeE rho vs) with
      | none => rw [hb] at fin'; exact absurd fin' (fun z => z)
      | some rho' =>
        rw [hb] at fin'
        have fin2 : ((bnd (noX (c rho')) fun b => if b = true then bnd (noX (f rho')) fun y => bnd (compL t c f (wipeE rho vs) (xs.drop (i + 1))) fun ys => ret (y :: ys) else compL t c f (wipeE rho vs) (xs.drop (i + 1))) m').wp (fun ys m' => Ans fr.p g m' H (.lst (done ++ ys)) Q) (OkE fr g H s) := fin'
        have e13 := e2.trans e3
        have rw0 := ((rl.ext (e1.trans e13) o3).wipe vs).still
        have hDa2 : ∀ {g4 : Gh} {H4 : Hp}, Ext g2 H2 g4 H4 → H4 Da = some (.lst acc) ∧ g4.F Da = none ∧ g4.B Da = none := fun {g4 H4} e4 => by
          have z := e3.trans e4
          have n : H' Da ≠ none := by rw [hD]; simp
          exact ⟨z.hh _ _ hD hB, z.fn _ n hF, z.bn _ n hB⟩
        refine hG g2 H2 (wipeE rho vs) m' (L2.wipe s vs) x xs[i] rho' _ rw0 rx hb fun s' hw r' => ⟨?_, rho', g2, m', r', wp_mono (wp_noX (wp_bnd.mp fin2)) (fun b m4 w4 g4 H4 e4 o4 => ?_) fun _ _ z => z.elim⟩
        · rw [hw vs hsl]
          apply List.ext_getElem?
          intro j
          rw [wipe_get, wipe_get]
          split
          · cases s[j]? <;> simp
          · rfl
        cases b with
        | true =>
          rw [if_pos rfl] at w4 ⊢
          refine ⟨rho', g4, m4, r'.ext e4 o4, wp_mono (wp_noX (wp_bnd.mp w4)) (fun y m5 w5 v g5 H5 e5 o5 r5 => ?_) fun _ _ z => z.elim⟩
          have e45 := e4.trans e5
          obtain ⟨k1, k2, k3⟩ := hDa2 e45
          refine ⟨acc, k1, ?_, hlt, g5, m5, done ++ [y], acc ++ [v], (e13.trans e45).later hDa _, o5.mutL k1 k2 k3 _, upd_same, k2, k3, (ra.mono (e3.trans e45).le).append (.cons r5 .nil), by rw [List.length_append]; simp; omega, ?_⟩
          · have := ra.length
            omega
          · refine wp_mono (wp_bnd.mp w5) (fun ys m6 w6 => ?_) fun _ _ z => z
            rw [List.append_assoc]
            exact w6
        | false =>
          rw [if_neg Bool.false_ne_true] at w4 ⊢
          obtain ⟨k1, k2, k3⟩ := hDa2 e4
          exact ⟨hlt, g4, m4, done, acc, e13.trans e4, o4, k1, k2, k3, ra.mono (e3.trans e4).le, by omega, w4⟩
    · have e : i = xs.length := by omega
      subst e
      rw [List.drop_length] at fin
      have fin : Ans fr.p g m' H (.lst (done ++ [])) Q := fin
      rw [List.append_nil] at fin
      exact .inl ⟨itn.2 (Nat.le_refl _), fin _ g' H' (e1.trans e2) o2 ⟨Da, acc, rfl, hDH, hD, hF, hB, ra⟩⟩
theorem pts_weak {X : Cx} {ifs : List Expr} {t t' : TT} (h : PTs X ifs t) (hw : ∀ s H Q, t' s H Q → t s H Q) : PTs X ifs t' := ⟨fun pins s σ H Q I q => h.run pins s σ H Q I (hw σ H Q q)⟩
def yesB (_ : En) : M Bool := ret true
theorem ts_nil {X : Cx} : PTs X [] (TB fr yesB) := pts_weak pts_nil fun s H Q ⟨rho, g, m, r, w⟩ => w g H (Ext.refl g H) r.ok
end
section
variable {X : Cx} {fr : Fr} {rk : VR} {elt tg iter : Expr} {ifs : List Expr} {scope : Scope} {own : List (Str × Nat)} {pos : Pos} {G : TG} {t : Tg} {c : En → M Bool} {f : En → M D} {fi : En → M (List D)}
theorem e_comp (hc : X.calm = true) (hN : X.N.Nodup) (hi : PI X tg iter (TIt fr true fi)) (ok : BlkOk X.N X.env.scope scope own) (hG : TgOk fr.still G t) (hsl : ∀ i ∈ t.sl, i ∈ own.map (·.2))
    (hg : ∀ (s : Shared) (H : Hp) (C : Addr) (cl : List (Str × Addr)) (fp : List Addr), PG (X.blk s H scope (compEnvC scope cl C X.env) fp) tg G) (ht : ∀ (s : Shared) (H : Hp) (C : Addr) (cl : List (Str × Addr)) (fp : List Addr), PTs (X.blk s H scope (compEnvC scope cl C X.env) fp) ifs (TB fr.still c))
    (he : ∀ (s : Shared) (H : Hp) (C : Addr) (cl : List (Str × Addr)) (fp : List Addr), PE (X.blk s H scope (compEnvC scope cl C X.env) fp) elt (TV fr.still (vZ fr.p.K) f)) (hs : ∀ x, foldedSetIterable iter X.env x = pure x) :
    PE X (.ListComp elt [⟨tg, iter, ifs, 0⟩] scope pos) (TV fr (vF fr.p.K) (evComp fi t c f (own.map (·.2)))) := pe_weak (pe_lc hc hN hi ok hg ht he hs) (comp_ok hG hsl)
theorem s_setLcZ {i : Nat} {y : Str} {py spos : Pos} (hm : fr.md i = .frz) (hc : X.calm = true) (hN : X.N.Nodup) (hy : X.N[i]? = some y) (hyl : X.env.scope.names.lookup y = some .local)
    (hsw : swapsWith (.ListComp elt [⟨tg, iter, ifs, 0⟩] scope pos) (some (.Name y py)) spos.line X.env = pure true) (hi : PI X tg iter (TIt fr true fi)) (ok : BlkOk X.N X.env.scope scope own) (hG : TgOk fr.still G t) (hsl : ∀ i ∈ t.sl, i ∈ own.map (·.2))
    (hg : ∀ (s : Shared) (H : Hp) (C : Addr) (cl : List (Str × Addr)) (fp : List Addr), PG (X.blk s H scope (compEnvC scope cl C X.env) fp) tg G) (ht : ∀ (s : Shared) (H : Hp) (C : Addr) (cl : List (Str × Addr)) (fp : List Addr), PTs (X.blk s H scope (compEnvC scope cl C X.env) fp) ifs (TB fr.still c))
    (he : ∀ (s : Shared) (H : Hp) (C : Addr) (cl : List (Str × Addr)) (fp : List Addr), PE (X.blk s H scope (compEnvC scope cl C X.env) fp) elt (TV fr.still (vZ fr.p.K) f)) (hs : ∀ x, foldedSetIterable iter X.env x = pure x) :
    PS X (.Assign [.Name y py] (.ListComp elt [⟨tg, iter, ifs, 0⟩] scope pos) spos) (TSt fr rk (setS i (evComp fi t c f (own.map (·.2))))) := ps_weak (ps_setLc hc hN hy hyl hsw hi ok hg ht he hs) fun Dn s H ⟨rho, g, m, r, w⟩ =>
  comp_ok hG hsl s H _ ⟨rho, g, m, r, wp_mono (exS_wp w) (fun d m' q v g' H' e o z => by
    obtain ⟨g2, o2, e2, z2⟩ := RepF.frz o e z
    exact q _ g2 H' e2.le ((r.ext e2 o2).setZ hm z2)) fun c m' q => excE r q⟩
theorem s_setLcF {i : Nat} {y : Str} {py spos : Pos} (hm : fr.md i = .own) (hc : X.calm = true) (hN : X.N.Nodup) (hy : X.N[i]? = some y) (hyl : X.env.scope.names.lookup y = some .local)
    (hsw : swapsWith (.ListComp elt [⟨tg, iter, ifs, 0⟩] scope pos) (some (.Name y py)) spos.line X.env = pure true) (hi : PI X tg iter (TIt fr true fi)) (ok : BlkOk X.N X.env.scope scope own) (hG : TgOk fr.still G t) (hsl : ∀ i ∈ t.sl, i ∈ own.map (·.2))
    (hg : ∀ (s : Shared) (H : Hp) (C : Addr) (cl : List (Str × Addr)) (fp : List Addr), PG (X.blk s H scope (compEnvC scope cl C X.env) fp) tg G) (ht : ∀ (s : Shared) (H : Hp) (C : Addr) (cl : List (Str × Addr)) (fp : List Addr), PTs (X.blk s H scope (compEnvC scope cl C X.env) fp) ifs (TB fr.still c))
    (he : ∀ (s : Shared) (H : Hp) (C : Addr) (cl : List (Str × Addr)) (fp : List Addr), PE (X.blk s H scope (compEnvC scope cl C X.env) fp) elt (TV fr.still (vZ fr.p.K) f)) (hs : ∀ x, foldedSetIterable iter X.env x = pure x) :
    PS X (.Assign [.Name y py] (.ListComp elt [⟨tg, iter, ifs, 0⟩] scope pos) spos) (TSt fr rk (setS i (evComp fi t c f (own.map (·.2))))) := ps_weak (ps_setLc hc hN hy hyl hsw hi ok hg ht he hs) fun Dn s H ⟨rho, g, m, r, w⟩ =>
  comp_ok hG hsl s H _ ⟨rho, g, m, r, wp_mono (exS_wp w) (fun d m' q v g' H' e o z => q _ g' H' e.le (r.setF e o hm z)) fun c m' q => excE r q⟩
end
end PF

namespace PF
open PySem L2

/-! ### an own list changed -/
def lstAt (i : Nat) (rho : En) : M (List D) := lift (match rho[i]? with
  | some (some (.lst ds)) => some ds
  | _ => none)
theorem lstAt_some {i : Nat} {rho : En} {ds : List D} (h : (match rho[i]? with
  | some (some (.lst ds)) => some ds
  | _ => none) = some ds) : rho[i]? = some (some (.lst ds)) := by
  split at h
  · cases h; assumption
  · cases h
section
variable {X : Cx} {fr : Fr} {rk : VR} {a b e : Expr} {pos apos cpos p : Pos} {f fi : En → M D} {fs : En → M (List D)} {i : Nat} {x : Str}
def appS (i : Nat) (f : En → M D) : SM := fun rho => exS (bnd (lstAt i rho) fun ds => bnd (f rho) fun d => lift (if ds.length < sizeLine then some (.lst (ds ++ [d])) else none)) rho fun d m => .nx (rho.set i (some d)) m
theorem Rl.own {fr : Fr} {g : Gh} {H : Hp} {rho : En} {m : Store} {s : St} (r : Rl fr g H rho m s) (hm : fr.md i = .own) {ds : List D} (hi : rho[i]? = some (some (.lst ds))) : ∃ a vs, s[i]? = some (some (.ref a)) ∧ H a = some (.lst vs) ∧ g.B a = none := by
  obtain ⟨a, vs, h1, h2, h3, _⟩ := r.mut (es := ds) hm hi
  exact ⟨a, vs, h1, h2, h3⟩
theorem s_append (hm : fr.md i = .own) (hN : X.N[i]? = some x) (hv : Vis X.env.scope x) (hd : (x == ("__debug__" : Str)) = false) (hcd : (x == ("__classdict__" : Str)) = false) (ha : PE X e (TV fr (vZ fr.p.K) f))
    (hse : starEach [e] X.env = (false, eval e X.env) :: starEach [] X.env)
    (hbase : attributeBase (.Name x p) "append" X.env (eval (.Name x p) X.env) = eval (.Name x p) X.env)
    (hfew : ((backTo cpos (starEach [e] X.env)).all (fun x => !x.1) && (backToKw cpos (keywordEach [] X.env)).all (fun x => x.1.isSome) && decide ([e].length + ([] : List Keyword).length + (if ([] : List Keyword).isEmpty then 0 else 1) < 30)) = true)
    (hline : (apos.endLine == cpos.line) = true) (hpl : (backTo cpos (starEach [] X.env)).any (·.1) = false) (hsw : swapsWith (.Call (.Attribute (.Name x p) "append" apos) [e] [] cpos) none pos.line X.env = pure false) :
    PS X (.Expr (.Call (.Attribute (.Name x p) "append" apos) [e] [] cpos) pos) (TSt fr rk (appS i f)) :=
  ps_weak (ps_expr (pe_bm PySem.F.plainAttrs_list PySem.F.slot_list_append PySem.F.type_list_append mt_append (pe_var hN hv hd hcd) (a_consZ ha (a_nil (P := lZ fr.p.K) fun _ _ => RepL.nil) hse) hbase hfew hline hse hpl) hsw) fun Dn s H ⟨rho, g, m, r, w⟩ => by
    obtain ⟨ds, hds, w1⟩ := wp_lift.mp (wp_bnd.mp (exS_wp w))
    have hi := lstAt_some hds
    obtain ⟨a, vs, h1, h2, h3⟩ := r.own hm hi
    refine ⟨.ref a, h1, .inl ⟨rfl, vs, SqL.of h2⟩, rho, g, m, r, ?_⟩
    show (bnd (f rho) _ m).wp _ _
    refine wp_bnd.mpr (wp_mono (wp_bnd.mp w1) (fun d m1 w2 => ?_) fun c m' q => excE r q)
    obtain ⟨dd, hdd, q⟩ := wp_lift.mp w2
    show ∀ vs g' H', _
    intro us g1 H1 e1 o1 ru
    have ru : RepL fr.p.K g1 us [d] := ru
    cases ru with
    | cons rv t =>
      cases t
      split at hdd
      · cases hdd
        rename_i hz
        have r1 := r.ext e1 o1
        obtain ⟨a', vs', k1, k2, k3, k4, k5⟩ := r1.mut (es := ds ++ [d]) hm hi
        rw [h1] at k1
        cases k1
        exact ⟨a, vs', _, rfl, rfl, k2, by rw [k4.length]; exact hz, q s g1 _ e1.le (k5 _ (k4.append (.cons rv .nil)))⟩
      · cases hdd
def extS (i : Nat) (f : En → M D) : SM := fun rho => exS (bnd (lstAt i rho) fun ds => bnd (f rho) fun d => lift (match d with
  | .lst es => if ds.length + es.length ≤ sizeLine then some (.lst (ds ++ es)) else none
  | _ => none)) rho fun d m => .nx (rho.set i (some d)) m
theorem s_extend (hm : fr.md i = .own) (hN : X.N[i]? = some x) (hv : Vis X.env.scope x) (hd : (x == ("__debug__" : Str)) = false) (hcd : (x == ("__classdict__" : Str)) = false) (ha : PE X e (TV fr (vA fr.p.K) f))
    (hse : starEach [e] X.env = (false, eval e X.env) :: starEach [] X.env)
    (hbase : attributeBase (.Name x p) "extend" X.env (eval (.Name x p) X.env) = eval (.Name x p) X.env)
    (hfew : ((backTo cpos (starEach [e] X.env)).all (fun x => !x.1) && (backToKw cpos (keywordEach [] X.env)).all (fun x => x.1.isSome) && decide ([e].length + ([] : List Keyword).length + (if ([] : List Keyword).isEmpty then 0 else 1) < 30)) = true)
    (hline : (apos.endLine == cpos.line) = true) (hpl : (backTo cpos (starEach [] X.env)).any (·.1) = false) (hsw : swapsWith (.Call (.Attribute (.Name x p) "extend" apos) [e] [] cpos) none pos.line X.env = pure false) :
    PS X (.Expr (.Call (.Attribute (.Name x p) "extend" apos) [e] [] cpos) pos) (TSt fr rk (extS i f)) :=
  ps_weak (ps_expr (pe_bm PySem.F.plainAttrs_list PySem.F.slot_list_extend PySem.F.type_list_extend mt_extend (pe_var hN hv hd hcd) (a_consA ha (a_nil (P := lA fr.p.K) fun _ _ => Paired.nil) hse) hbase hfew hline hse hpl) hsw) fun Dn s H ⟨rho, g, m, r, w⟩ => by
    obtain ⟨ds, hds, w1⟩ := wp_lift.mp (wp_bnd.mp (exS_wp w))
    have hi := lstAt_some hds
    obtain ⟨a, vs, h1, h2, h3⟩ := r.own hm hi
    refine ⟨.ref a, h1, .inl ⟨rfl, vs, SqL.of h2⟩, rho, g, m, r, ?_⟩
    show (bnd (f rho) _ m).wp _ _
    refine wp_bnd.mpr (wp_mono (wp_bnd.mp w1) (fun d m1 w2 => ?_) fun c m' q => excE r q)
    obtain ⟨dd, hdd, q⟩ := wp_lift.mp w2
    show ∀ vs g' H', _
    intro us g1 H1 e1 o1 ru
    obtain ⟨v, rfl, rv⟩ := RepAL.one ru
    split at hdd
    · rename_i es
      split at hdd
      · cases hdd
        rename_i hz
        have r1 := r.ext e1 o1
        obtain ⟨b, us, rfl, l1, l2, l3⟩ := rv.lst
        obtain ⟨a', vs', k1, k2, k3, k4, k5⟩ := r1.mut (es := ds ++ es) hm hi
        rw [h1] at k1
        cases k1
        exact ⟨a, b, vs', us, rfl, rfl, k2, l1, by rw [k4.length, l3.length]; exact hz, q s g1 _ e1.le (k5 _ (k4.append l3))⟩
      · cases hdd
    · cases hdd
/-! x[k] = e; x[k] += e -/
def putL (ds : List D) (k : D) (d : D) : Option D := match k with
  | .int j => (match ixN ds.length j with
    | some n => some (.lst (ds.set n d))
    | none => none)
  | _ => none
theorem putL_some {ds : List D} {k d dd : D} (h : putL ds k d = some dd) : ∃ j n, k = .int j ∧ ixN ds.length j = some n ∧ dd = .lst (ds.set n d) := by
  unfold putL at h
  split at h
  · split at h
    · cases h
      exact ⟨_, _, rfl, by assumption, rfl⟩
    · cases h
  · cases h
def putS (i : Nat) (fi f : En → M D) : SM := fun rho => exS (bnd (f rho) fun d => bnd (lstAt i rho) fun ds => bnd (fi rho) fun k => lift (putL ds k d)) rho fun d m => .nx (rho.set i (some d)) m
theorem s_put (hm : fr.md i = .own) (hN : X.N[i]? = some x) (hv : Vis X.env.scope x) (hd : (x == ("__debug__" : Str)) = false) (hcd : (x == ("__classdict__" : Str)) = false) (ha : PE X e (TV fr (vZ fr.p.K) f)) (hb : PE X b (TV fr (vA fr.p.K) fi))
    (hset : ∀ v, assign (.Subscript (.Name x p) b apos) X.env v = (do
      let ov ← holding [v] (eval (.Name x p) X.env)
      let iv ← holding [v, ov] (eval b X.env)
      standAt apos
      holding [v, ov, iv] (setItem ov iv v)
      release [v, ov, iv] []))
    (hs : swapsWithSole [.Subscript (.Name x p) b apos] e pos.line X.env = pure false) (hw : swappedStores [.Subscript (.Name x p) b apos] e X.env = pure none) (h1 : (assignEach [.Subscript (.Name x p) b apos] X.env).map (·.2) = [assign (.Subscript (.Name x p) b apos) X.env]) :
    PS X (.Assign [.Subscript (.Name x p) b apos] e pos) (TSt fr rk (putS i fi f)) :=
  ps_weak (ps_asg ha (pg_sub (pe_var hN hv hd hcd) hb set_list hset) hs hw h1) fun Dn s H ⟨rho, g, m, r, w⟩ => by
    refine ⟨rho, g, m, r, wp_mono (wp_bnd.mp (exS_wp w)) (fun d m1 w1 v g1 H1 e1 o1 rv => ?_) fun c m' q => excE r q⟩
    obtain ⟨ds, hds, w2⟩ := wp_lift.mp (wp_bnd.mp w1)
    have hi := lstAt_some hds
    have r1 := r.ext e1 o1
    obtain ⟨a, vs, k1, k2, k3⟩ := r1.own hm hi
    refine ⟨.ref a, k1, rho, g1, m1, r1, wp_mono (wp_bnd.mp w2) (fun k m2 w3 kv g2 H2 e2 o2 rk2 => ?_) fun c m' q => excE r1 (fun s g3 H l r3 => q s g3 H (e1.le.trans l) r3)⟩
    obtain ⟨dd, hdd, q⟩ := wp_lift.mp w3
    obtain ⟨j, n, rfl, hj, rfl⟩ := putL_some hdd
    have rk2 : RepA _ _ _ _ _ := rk2
    rw [rk2.int]
    have r2 := r1.ext e2 o2
    obtain ⟨a', vs', l1, l2, l3, l4, l5⟩ := r2.mut (es := ds.set n d) hm hi
    rw [k1] at l1
    cases l1
    exact ⟨a, vs', j, n, rfl, rfl, l2, by rw [l4.length]; exact hj, q s g2 _ (e1.le.trans e2.le) (l5 _ (l4.set (Rep.mono e2.le rv) n))⟩
theorem get_list : PGet X (fun o i H Q => ∃ p xs k v, o = .ref p ∧ i = .int k ∧ SqL X.K H p xs ∧ atI xs k = some v ∧ Q v H) := by
  intro pins s σ H o i ov iv Q I ro ri h
  obtain ⟨p, xs, k, z, rfl, rfl, hq, he, q⟩ := h
  have e1 : ov = Value.ref p := ro
  subst e1
  obtain ⟨t, rfl⟩ := ri
  obtain ⟨its, r, pl, hz⟩ := I.list hq
  obtain ⟨j, h1, h2, h3, h4, h5⟩ := atI_get he
  obtain ⟨w, ew, rw'⟩ := r.get h2
  have hl := r.length
  have hn := line63
  by_cases h0 : 0 ≤ k
  · have hj : k.toNat = j := by
      have z1 : seqIndex? k xs.length = some k.toNat := PySem.StrLaws.seqIndex_nonneg h0 h5
      rw [z1] at h1
      exact Option.some.inj h1
    exact wpAny_getItem_list pl.isList h0 (by omega) (x := w) (by rw [hj]; simpa using ew) ⟨z, H, I, rw', q⟩
  · have hj : (k + (its.toArray.size : Int)).toNat = j := by
      have z2 : ixN xs.length k = some j := by
        unfold atI at he
        unfold ixN at he ⊢
        rw [if_neg h0, if_pos (by omega)] at he ⊢
        have z3 := (ixN_seq (n := xs.length) (i := k) (j := (k + xs.length).toNat) (by unfold ixN; rw [if_neg h0, if_pos (by omega)])).1
        rw [z3] at h1
        exact h1
      unfold ixN at z2
      rw [if_neg h0, if_pos (by omega)] at z2
      rw [List.size_toArray, ← hl]
      exact Option.some.inj z2
    exact wpAny_getItem_list_neg pl.isList (by omega) (by rw [List.size_toArray]; omega) (by omega) (x := w) (by rw [hj]; simpa using ew) ⟨z, H, I, rw', q⟩
def augPutS (sub : Bool) (i : Nat) (fi f : En → M D) : SM := fun rho => exS (bnd (lstAt i rho) fun ds => bnd (fi rho) fun k => bnd (lift (ixD (.lst ds) k)) fun old => bnd (f rho) fun y => bnd (lift (augI sub old y)) fun d => lift (putL ds k d)) rho fun d m => .nx (rho.set i (some d)) m
theorem augPut_ok {sub : Bool} (hK : X.K = fr.p.K) (hm : fr.md i = .own) (Dn : Ends) (s : St) (H : Hp) (h : TSt fr rk (augPutS sub i fi f) Dn s H) :
    tAugS (tVar i) (TV fr (vA fr.p.K) fi) (TV fr (vA fr.p.K) f) (fun o i H Q => ∃ p xs k v, o = .ref p ∧ i = .int k ∧ SqL X.K H p xs ∧ atI xs k = some v ∧ Q v H) (ipI (fun i j => if sub then i - j else i + j)) rSetL Dn s H := by
  obtain ⟨rho, g, m, r, w⟩ := h
  obtain ⟨ds, hds, w1⟩ := wp_lift.mp (wp_bnd.mp (exS_wp w))
  have hi := lstAt_some hds
  obtain ⟨a, vs, h1, h2, h3⟩ := r.own hm hi
  refine ⟨.ref a, h1, rho, g, m, r, wp_mono (wp_bnd.mp w1) (fun k m1 w2 kv g1 H1 e1 o1 rk1 => ?_) fun c m' q => excE r q⟩
  obtain ⟨old, hold, w3⟩ := wp_lift.mp (wp_bnd.mp w2)
  have r1 := r.ext e1 o1
  obtain ⟨a1, vs1, k1, k2, k3, k4, _⟩ := r1.mut (es := ds) hm hi
  rw [h1] at k1
  cases k1
  have rk1 : RepA _ _ _ _ _ := rk1
  cases k with
  | int j =>
    have hold : atI ds j = some old := hold
    rw [rk1.int]
    obtain ⟨ov, q1, q2⟩ := atI_rep k4 hold
    refine ⟨a, vs1, j, ov, rfl, rfl, SqL.of k2, q1, rho, g1, m1, r1, wp_mono (wp_bnd.mp w3) (fun y m2 w4 yv g2 H2 e2 o2 ry => ?_) fun c m' q => excE r1 (fun s g3 H l r3 => q s g3 H (e1.le.trans l) r3)⟩
    obtain ⟨d, hd, w5⟩ := wp_lift.mp (wp_bnd.mp w4)
    obtain ⟨dd, hdd, q⟩ := wp_lift.mp w5
    obtain ⟨j', n, ej, hj, rfl⟩ := putL_some hdd
    cases ej
    have ry : RepA _ _ _ _ _ := ry
    unfold augI at hd
    split at hd
    · cases hd
      have q2' := Rep.mono e2.le q2
      cases q2'
      rw [ry.int]
      have r2 := r1.ext e2 o2
      obtain ⟨a2, vs2, l1, l2, l3, l4, l5⟩ := r2.mut (es := ds.set n _) hm hi
      rw [h1] at l1
      cases l1
      exact ⟨_, _, rfl, rfl, a, vs2, j, n, rfl, rfl, l2, by rw [l4.length]; exact hj, q s g2 _ (e1.le.trans e2.le) (l5 _ (l4.set (.int _) n))⟩
    · cases hd
  | _ => cases hold
theorem s_augPutA {tpos : Pos} (hK : X.K = fr.p.K) (hm : fr.md i = .own) (hN : X.N[i]? = some x) (hv : Vis X.env.scope x) (hd : (x == ("__debug__" : Str)) = false) (hcd : (x == ("__classdict__" : Str)) = false) (ha : PE X e (TV fr (vA fr.p.K) f)) (hb : PE X b (TV fr (vA fr.p.K) fi))
    (has : ∀ ov iv new, augStore b ov iv new = (do holding [new, ov, iv] (setItem ov iv new); release [new, ov, iv] []; pure .next)) :
    PS X (.AugAssign (.Subscript (.Name x p) b tpos) .Add e pos) (TSt fr rk (augPutS false i fi f)) := ps_weak (ps_augS (pe_var hN hv hd hcd) hb get_list ha ip_add set_list has) fun Dn s H h => augPut_ok (sub := false) hK hm Dn s H h
theorem s_augPutM {tpos : Pos} (hK : X.K = fr.p.K) (hm : fr.md i = .own) (hN : X.N[i]? = some x) (hv : Vis X.env.scope x) (hd : (x == ("__debug__" : Str)) = false) (hcd : (x == ("__classdict__" : Str)) = false) (ha : PE X e (TV fr (vA fr.p.K) f)) (hb : PE X b (TV fr (vA fr.p.K) fi))
    (has : ∀ ov iv new, augStore b ov iv new = (do holding [new, ov, iv] (setItem ov iv new); release [new, ov, iv] []; pure .next)) :
    PS X (.AugAssign (.Subscript (.Name x p) b tpos) .Sub e pos) (TSt fr rk (augPutS true i fi f)) := ps_weak (ps_augS (pe_var hN hv hd hcd) hb get_list ha ip_sub set_list has) fun Dn s H h => augPut_ok (sub := true) hK hm Dn s H h
/-! several names -/
def unpS (t : Tg) (f : En → M D) : SM := fun rho => exS (f rho) rho fun d m => match t.bind d rho with
  | some rho' => .nx rho' m
  | none => .bad
theorem s_unpack {tg : Expr} {t : Tg} {G : TG} (hG : TgOk fr G t) (hg : PG X tg G) (ha : PE X e (TV fr (vZ fr.p.K) f)) (hs : swapsWithSole [tg] e pos.line X.env = pure false) (hw : swappedStores [tg] e X.env = pure none) (h1 : (assignEach [tg] X.env).map (·.2) = [assign tg X.env]) :
    PS X (.Assign [tg] e pos) (TSt fr rk (unpS t f)) := ps_weak (ps_asg ha hg hs hw h1) fun Dn s H ⟨rho, g, m, r, w⟩ => by
  refine ⟨rho, g, m, r, wp_mono (exS_wp w) (fun d m1 w1 v g1 H1 e1 o1 rv => ?_) fun c m' q => excE r q⟩
  cases hb : t.bind d rho with
  | none => rw [hb] at w1; exact absurd w1 (fun z => z)
  | some rho' =>
    rw [hb] at w1
    exact hG g1 H1 rho m1 s v d rho' _ (r.ext e1 o1) rv hb fun s' _ r' => w1 s' g1 H1 e1.le r'
def parS (i j : Nat) (f h : En → M D) : SM := fun rho => exS (bnd (f rho) fun x => bnd (h rho) fun y => ret (x, y)) rho fun q m => .nx ((rho.set i (some q.1)).set j (some q.2)) m
theorem s_par {j : Nat} {y : Str} {f h : En → M D} {px py pt pt2 : Pos} {kt k2 : Nat} (hc : X.calm = true) (hmi : fr.md i = .frz) (hmj : fr.md j = .frz) (hN : X.N.Nodup) (hi : X.N[i]? = some x) (hj : X.N[j]? = some y) (hij : i ≠ j)
    (hx : X.env.scope.names.lookup x = some .local) (hy : X.env.scope.names.lookup y = some .local) (ha : PE X a (TV fr (vZ fr.p.K) f)) (hb : PE X b (TV fr (vZ fr.p.K) h)) (hse : starEach [a, b] X.env = (false, eval a X.env) :: starEach [b] X.env) (hse2 : starEach [b] X.env = (false, eval b X.env) :: starEach [] X.env)
    (hw : swappedStores [.Tuple [.Name x px, .Name y py] kt pt] (.Tuple [a, b] k2 pt2) X.env = pure (some [x, y])) (hs : swapsWithSole [.Tuple [.Name x px, .Name y py] kt pt] (.Tuple [a, b] k2 pt2) pos.line X.env = pure false) :
    PS X (.Assign [.Tuple [.Name x px, .Name y py] kt pt] (.Tuple [a, b] k2 pt2) pos) (TSt fr rk (parS i j f h)) :=
  ps_weak (ps_par hc hN hi hj hij hx hy (a_consZ ha (a_consZ hb (a_nil (P := lZ fr.p.K) fun _ _ => RepL.nil) hse2) hse) hw hs) fun Dn s H ⟨rho, g, m, r, w⟩ => by
    refine ⟨rho, g, m, r, ?_⟩
    show (bnd (f rho) _ m).wp _ _
    refine wp_bnd.mpr (wp_mono (wp_bnd.mp (exS_wp w)) (fun d1 m1 w1 => ?_) fun c m' q => excE r q)
    refine wp_bnd.mpr ?_
    show (bnd (h rho) _ m1).wp _ _
    refine wp_bnd.mpr (wp_mono (wp_bnd.mp w1) (fun d2 m2 w2 => ?_) fun c m' q => excE r q)
    show ∀ vs g' H', _
    intro us g1 H1 e1 o1 ru
    have ru : RepL fr.p.K g1 us [d1, d2] := ru
    cases ru with
    | cons rv t =>
      cases t with
      | cons rv2 t =>
        cases t
        exact ⟨_, _, rfl, w2 _ g1 H1 e1.le (((r.ext e1 o1).setZ hmi rv).setZ hmj rv2)⟩
/-! raise, try -/
def raiseS (c : Nat) : SM := fun rho m => .exc c rho m
theorem s_raise {c : Nat} {C : Addr} {msg : Str} {jj : Nat} {p2 p3 : Pos} {bmB : List Value} {B newId initId : String} (hc : X.calm = true) (tk : Takes X fr.W) (F : ExcBaseFacts B newId initId bmB) (q : PySem.W.excIn X.K C bmB newId = true) (gC : X.mg x = some (.ref C)) (kC : PySem.W.keepIn X.K (.ref C) = true) (rs : Raises X (.ref C)) (hg : Gl X x) (hdb : (x == ("__debug__" : Str)) = false)
    (hcl : fr.p.cls c = .ref C) : PS X (.Raise (some (.Call (.Name x p) [.Constant (.str msg) jj p2] [] p3)) none pos) (TSt fr rk (raiseS c)) := ps_weak (ps_raise hc tk (pmk_own F q gC kC rs hg hdb)) fun Dn s H ⟨rho, g, m, r, w⟩ => by
  have w := w s g H (Le.refl g) r
  rw [hcl] at w
  exact w
abbrev Fr.wish (fr : Fr) (W : WX) : Fr := { fr with W := W }
theorem Rl.wish {fr : Fr} {g : Gh} {H : Hp} {rho : En} {m : Store} {s : St} (r : Rl fr g H rho m s) (W : WX) : Rl (fr.wish W) g H rho m s := ⟨r.ok, r.ent, r.len, r.val⟩
theorem Rl.unwish {fr : Fr} {g : Gh} {H : Hp} {rho : En} {m : Store} {s : St} {W : WX} (r : Rl (fr.wish W) g H rho m s) : Rl fr g H rho m s := ⟨r.ok, r.ent, r.len, r.val⟩
/-- the clauses: the class that each names, its suite -/
def catchS (exm : Nat → Nat → Bool) : List (Nat × SM) → Nat → SM
  | [], c => fun rho m => .exc c rho m
  | (h, G) :: r, c => if exm c h = true then G else catchS exm r c
def tryS (exm : Nat → Nat → Bool) (F : SM) (hs : List (Nat × SM)) : SM := fun rho m => match F rho m with
  | .exc c r2 m2 => catchS exm hs c r2 m2
  | .nx r2 m2 => .nx r2 m2
  | .rt d m2 => .rt d m2
  | .bk r2 m2 => .bk r2 m2
  | .ct r2 m2 => .ct r2 m2
  | .bad => .bad
theorem RsW.unstill {fr : Fr} {rk : VR} {Dn : Ends} {g : Gh} {r : Rs} (h : ∀ c rho m, r ≠ .exc c rho m) (w : RsW fr rk Dn g r) : RsW fr.still rk Dn g r := by
  cases r with
  | nx rho m => exact fun s g2 H l2 r => w s g2 H l2 r.unstill
  | bk rho m => exact fun s g2 H l2 r => w s g2 H l2 r.unstill
  | ct rho m => exact fun s g2 H l2 r => w s g2 H l2 r.unstill
  | rt d m => exact w
  | exc c rho m => exact absurd rfl (h c rho m)
  | bad => exact w
/-- a suite that raises is not followed -/
def stillS (G : SM) : SM := fun rho m => match G rho m with
  | .exc _ _ _ => .bad
  | .nx r2 m2 => .nx r2 m2
  | .rt d m2 => .rt d m2
  | .bk r2 m2 => .bk r2 m2
  | .ct r2 m2 => .ct r2 m2
  | .bad => .bad
theorem still_ok {G : SM} {Dn : Ends} {g : Gh} {rho : En} {m : Store} (w : RsW fr rk Dn g (stillS G rho m)) : RsW fr.still rk Dn g (G rho m) := by
  unfold stillS at w
  cases q : G rho m with
  | exc c r2 m2 => rw [q] at w; exact absurd w (fun z => z)
  | nx r2 m2 => rw [q] at w; exact RsW.unstill (fun _ _ _ z => by cases z) w
  | rt d m2 => rw [q] at w; exact w
  | bk r2 m2 => rw [q] at w; exact RsW.unstill (fun _ _ _ z => by cases z) w
  | ct r2 m2 => rw [q] at w; exact RsW.unstill (fun _ _ _ z => by cases z) w
  | bad => rw [q] at w; exact w
abbrev hdT (fr : Fr) (rk : VR) (l : List (Nat × SM)) : List (Value × (Addr → Value → Option Addr → TS)) := l.map fun q => (fr.p.cls q.1, fun _ _ _ => TSt fr.still rk q.2)
theorem many_ok {exm : Nat → Nat → Bool} (hex : ∀ c h, (∃ b, PySem.W.exmOne fr.p.K (fr.p.cls c) (fr.p.cls h) = some b) → PySem.W.exmOne fr.p.K (fr.p.cls c) (fr.p.cls h) = some (exm c h)) {Dn : Ends} {g : Gh} {H : Hp} {rho : En} {m : Store} {s : St} {c : Nat} (r : Rl fr g H rho m s) :
    ∀ {l : List (Nat × SM)}, (∀ q ∈ l, ∃ b, PySem.W.exmOne fr.p.K (fr.p.cls c) (fr.p.cls q.1) = some b) → RsW fr rk Dn g (catchS exm (l.map fun q => (q.1, stillS q.2)) c rho m) → wMany fr.p.K fr.W Dn (hdT fr rk l) (fr.p.cls c) none s H
  | [], _, w => w s g H (Le.refl g) r
  | (h, G) :: l, hb, w => by
    have hx := hex c h (hb (h, G) (List.mem_cons_self ..))
    refine ⟨exm c h, hx, fun e a _ => ?_, fun e => ?_⟩
    · have w' : RsW fr rk Dn g ((if exm c h = true then stillS G else catchS exm (l.map fun q => (q.1, stillS q.2)) c) rho m) := w
      rw [if_pos e] at w'
      exact ⟨rho, g, m, r.still, still_ok w'⟩
    · have w' : RsW fr rk Dn g ((if exm c h = true then stillS G else catchS exm (l.map fun q => (q.1, stillS q.2)) c) rho m) := w
      rw [if_neg (by rw [e]; exact Bool.false_ne_true)] at w'
      exact many_ok hex r (fun q hq => hb q (List.mem_cons_of_mem _ hq)) w'
theorem s_try {exm : Nat → Nat → Bool} {body : List Stmt} {h0 : ExceptHandler} {hds : List ExceptHandler} {F : SM} {l : List (Nat × SM)} (hK : X.K = fr.p.K) (hs : X.stack = X.env :: X.outer) (hf : X.env.frame = some X.env.locals) (tk : Takes X fr.W)
    (hex : ∀ c h, (∃ b, PySem.W.exmOne fr.p.K (fr.p.cls c) (fr.p.cls h) = some b) → PySem.W.exmOne fr.p.K (fr.p.cls c) (fr.p.cls h) = some (exm c h)) (hall : ∀ c, ∀ q ∈ l, ∃ b, PySem.W.exmOne fr.p.K (fr.p.cls c) (fr.p.cls q.1) = some b)
    (hb : ∀ (W : WX) (pn : List (Addr × Obj)) (xe : Value → Shared → Prop), Takes (X.tr pn xe) W → PassesOwn (model X.prog X.w) X.A X.env xe → PSs (X.tr pn xe) body (TSt (fr.wish W) rk F))
    (hh : HdsOk X (h0 :: hds) (hdT fr rk l)) : PS X (.Try body (h0 :: hds) [] [] pos) (TSt fr rk (tryS exm F (l.map fun q => (q.1, stillS q.2)))) :=
  ps_weak (ps_try_many (tb := fun W => TSt (fr.wish W) rk F) hs hf tk hb hh) fun Dn s H ⟨rho, g, m, r, w⟩ => by
    refine ⟨rho, g, m, r.wish _, ?_⟩
    unfold tryS at w
    cases q : F rho m with
    | exc c r2 m2 =>
      rw [q] at w
      intro s' g' H' l' r'
      rw [hK]
      exact many_ok hex r'.unwish (hall c) (w.le l')
    | nx r2 m2 => rw [q] at w; exact fun s' g' H' l' r' => w s' g' H' l' r'.unwish
    | rt d m2 => rw [q] at w; exact w
    | bk r2 m2 => rw [q] at w; exact fun s' g' H' l' r' => w s' g' H' l' r'.unwish
    | ct r2 m2 => rw [q] at w; exact fun s' g' H' l' r' => w s' g' H' l' r'.unwish
    | bad => rw [q] at w; exact w
end
end PF

namespace PF
open PySem L2

/-! ### built-ins -/
def asInts : List D → Option (List Int)
  | [] => some []
  | .int i :: r => (asInts r).map (i :: ·)
  | _ => none
theorem asInts_some : ∀ {ds : List D} {ns : List Int}, asInts ds = some ns → ds = ns.map D.int
  | [], _, h => by cases h; rfl
  | .int i :: r, ns, h => by
    have h' : (asInts r).map (i :: ·) = some ns := h
    cases q : asInts r with
    | none => rw [q] at h'; cases h'
    | some k =>
      rw [q] at h'
      cases h'
      rw [asInts_some q]
      rfl
  | .non :: _, _, h => by cases h
  | .bl _ :: _, _, h => by cases h
  | .str _ :: _, _, h => by cases h
  | .tup _ :: _, _, h => by cases h
  | .lst _ :: _, _, h => by cases h
  | .obj _ :: _, _, h => by cases h
  | .scr _ :: _, _, h => by cases h
theorem asInts_map : ∀ ns : List Int, asInts (ns.map D.int) = some ns
  | [] => rfl
  | n :: ns => by
    show (asInts (ns.map D.int)).map (n :: ·) = _
    rw [asInts_map ns]
    rfl
def lstInts : D → Option (List Int)
  | .lst ds => asInts ds
  | _ => none
theorem lstInts_rep {p : Par} {g : Gh} {H : Hp} {v : V} {d : D} {ns : List Int} (r : RepA p.K g H v d) (h : lstInts d = some ns) : ∃ a, v = .ref a ∧ SqL p.K H a (ns.map V.int) := by
  cases d with
  | lst ds =>
    obtain ⟨a, vs, rfl, h1, _, h3⟩ := r.lst
    rw [asInts_some h] at h3
    exact ⟨a, rfl, by rw [← h3.ints]; exact SqL.of h1⟩
  | _ => cases h
def sumD (d : D) : Option D := (lstInts d).map fun ns => .int ns.sum
theorem im_sum : ImL rSum (one sumD) := by
  intro p g m H xs dxs d Q o rx e q
  obtain ⟨dx, rfl, e1⟩ := one_some e
  obtain ⟨v, rfl, r⟩ := rx.one
  clear e
  have e := e1
  clear e1
  unfold sumD at e
  cases z : lstInts dx with
  | none => rw [z] at e; cases e
  | some ns =>
    rw [z] at e
    cases e
    obtain ⟨a, rfl, h⟩ := lstInts_rep r z
    exact ⟨a, ns, rfl, h, q.int o⟩
def maxL : List Int → Int
  | [] => 0
  | [a] => a
  | a :: b :: r => max a (maxL (b :: r))
def minL : List Int → Int
  | [] => 0
  | [a] => a
  | a :: b :: r => min a (minL (b :: r))
theorem maxL_eq : ∀ {ns : List Int} {m : Int}, m ∈ ns → (∀ y ∈ ns, y ≤ m) → m = maxL ns
  | [], _, h, _ => by cases h
  | [a], m, h, _ => by
    rw [List.mem_singleton] at h
    exact h
  | a :: b :: r, m, h, k => by
    have hb : (∀ y ∈ b :: r, y ≤ maxL (b :: r)) ∧ maxL (b :: r) ∈ b :: r := maxL_is (b :: r) (by simp)
    show m = max a (maxL (b :: r))
    have h1 := k a (List.mem_cons_self ..)
    have h2 := k _ (List.mem_cons_of_mem _ hb.2)
    rcases List.mem_cons.mp h with e | e
    · omega
    · have := hb.1 m e
      omega
where
  maxL_is : ∀ (ns : List Int), ns ≠ [] → (∀ y ∈ ns, y ≤ maxL ns) ∧ maxL ns ∈ ns
  | [], h => absurd rfl h
  | [a], _ => ⟨fun y hy => by rw [List.mem_singleton.mp hy]; exact Int.le_refl _, by simp [maxL]⟩
  | a :: b :: r, _ => by
    have ih := maxL_is (b :: r) (by simp)
    refine ⟨fun y hy => ?_, ?_⟩
    · show y ≤ max a (maxL (b :: r))
      rcases List.mem_cons.mp hy with e | e
      · omega
      · have := ih.1 y e; omega
    · show max a (maxL (b :: r)) ∈ a :: b :: r
      by_cases h : a ≤ maxL (b :: r)
      · rw [Int.max_eq_right h]; exact List.mem_cons_of_mem _ ih.2
      · rw [Int.max_eq_left (by omega)]; exact List.mem_cons_self ..
theorem minL_eq : ∀ {ns : List Int} {m : Int}, m ∈ ns → (∀ y ∈ ns, m ≤ y) → m = minL ns
  | [], _, h, _ => by cases h
  | [a], m, h, _ => by
    rw [List.mem_singleton] at h
    exact h
  | a :: b :: r, m, h, k => by
    have hb : (∀ y ∈ b :: r, minL (b :: r) ≤ y) ∧ minL (b :: r) ∈ b :: r := minL_is (b :: r) (by simp)
    show m = min a (minL (b :: r))
    have h1 := k a (List.mem_cons_self ..)
    have h2 := k _ (List.mem_cons_of_mem _ hb.2)
    rcases List.mem_cons.mp h with e | e
    · omega
    · have := hb.1 m e
      omega
where
  minL_is : ∀ (ns : List Int), ns ≠ [] → (∀ y ∈ ns, minL ns ≤ y) ∧ minL ns ∈ ns
  | [], h => absurd rfl h
  | [a], _ => ⟨fun y hy => by rw [List.mem_singleton.mp hy]; exact Int.le_refl _, by simp [minL]⟩
  | a :: b :: r, _ => by
    have ih := minL_is (b :: r) (by simp)
    refine ⟨fun y hy => ?_, ?_⟩
    · show min a (minL (b :: r)) ≤ y
      rcases List.mem_cons.mp hy with e | e
      · omega
      · have := ih.1 y e; omega
    · show min a (minL (b :: r)) ∈ a :: b :: r
      by_cases h : a ≤ minL (b :: r)
      · rw [Int.min_eq_left h]; exact List.mem_cons_self ..
      · rw [Int.min_eq_right (by omega)]; exact List.mem_cons_of_mem _ ih.2
def mmD (f : List Int → Int) (d : D) : Option D := match lstInts d with
  | some (n :: ns) => some (.int (f (n :: ns)))
  | _ => none
def mm2D (mx : Bool) : D → D → Option D
  | .int i, .int j => some (.int (if mx then (if j > i then j else i) else (if j < i then j else i)))
  | _, _ => none
def mm (mx : Bool) : List D → Option D
  | [d] => mmD (if mx then maxL else minL) d
  | [d, e] => mm2D mx d e
  | _ => none
abbrev rMM (mx : Bool) (K : PySem.W.Frag) : List V → Hp → VK → Prop := fun xs H Q => (if mx then rMax K else rMin K) xs H Q ∨ ∃ i j, xs = [.int i, .int j] ∧ Q (.int (if mx then (if j > i then j else i) else (if j < i then j else i))) H
theorem im_mm (mx : Bool) : ImL (rMM mx) (mm mx) := by
  intro p g m H xs dxs d Q o rx e q
  unfold mm at e
  split at e
  · obtain ⟨v, rfl, r⟩ := rx.one
    unfold mmD at e
    split at e
    · rename_i n ns hn
      cases e
      obtain ⟨a, rfl, h⟩ := lstInts_rep r hn
      refine .inl ?_
      cases mx with
      | true => exact ⟨a, _, rfl, h, by simp, fun m h1 h2 => by
          rw [maxL_eq h1 h2]
          exact q.int o⟩
      | false => exact ⟨a, _, rfl, h, by simp, fun m h1 h2 => by
          rw [minL_eq h1 h2]
          exact q.int o⟩
    · cases e
  · obtain ⟨v, u, rfl, r, r'⟩ := rx.two
    unfold mm2D at e
    split at e
    · cases e
      rw [r.int, r'.int]
      exact .inr ⟨_, _, rfl, q.int o⟩
    · cases e
  · cases e
theorem o_max {X : Cx} (hc : X.calm = true) : CallR X (.builtin "max") (rMM true X.K) := (cr_max hc).or (call_max2 hc)
theorem o_min {X : Cx} (hc : X.calm = true) : CallR X (.builtin "min") (rMM false X.K) := (cr_min hc).or (call_min2 hc)
def listD (d : D) : Option D := (itemsD d).map .lst
abbrev rList (K : PySem.W.Frag) : List V → Hp → VK → Prop := fun xs H Q => ∃ p ys, xs = [.ref p] ∧ (SqL K H p ys ∨ SqT K H p ys) ∧ ∀ l, H l = none → Q (.ref l) (upd H l (.lst ys))
theorem im_list : ImL rList (one listD) := by
  intro p g m H xs dxs d Q o rx e q
  obtain ⟨dx, rfl, e1⟩ := one_some e
  obtain ⟨v, rfl, r⟩ := rx.one
  clear e
  have e := e1
  clear e1
  unfold listD at e
  cases dx with
  | tup ds =>
    cases e
    obtain ⟨a, vs, rfl, h1, h3⟩ := r.tup
    exact ⟨a, vs, rfl, .inr (o.sqT h1), q.newL o h3⟩
  | lst ds =>
    cases e
    obtain ⟨a, vs, rfl, h1, _, h3⟩ := r.lst
    exact ⟨a, vs, rfl, .inl (SqL.of h1), q.newL o h3⟩
  | scr ns =>
    cases e
    obtain ⟨a, rfl, h1⟩ := r.scr
    exact ⟨a, _, rfl, .inl (o.fh.seq h1), q.newL o (RepL.of_ints ns)⟩
  | _ => cases e
def tupleD (d : D) : Option D := match d with
  | .tup xs => some (.tup xs)
  | .lst xs => some (.tup xs)
  | _ => none
abbrev rTuple (K : PySem.W.Frag) : List V → Hp → VK → Prop := fun xs H Q => ∃ p ys, xs = [.ref p] ∧ ((SqL K H p ys ∧ ∀ l, H l = none → Q (.ref l) (upd H l (.tup ys))) ∨ (SqT K H p ys ∧ Q (.ref p) H))
theorem im_tuple : ImL rTuple (one tupleD) := by
  intro p g m H xs dxs d Q o rx e q
  obtain ⟨dx, rfl, e1⟩ := one_some e
  obtain ⟨v, rfl, r⟩ := rx.one
  clear e
  have e := e1
  clear e1
  unfold tupleD at e
  cases dx with
  | tup ds =>
    cases e
    obtain ⟨a, vs, rfl, h1, h3⟩ := r.tup
    exact ⟨a, vs, rfl, .inr ⟨o.sqT h1, q.flat o (.tup h1 h3) fun _ z => by cases z⟩⟩
  | lst ds =>
    cases e
    obtain ⟨a, vs, rfl, h1, _, h3⟩ := r.lst
    exact ⟨a, vs, rfl, .inl ⟨SqL.of h1, q.newT o h3⟩⟩
  | _ => cases e
def int1D (d : D) : Option D := match d with
  | .int i => some (.int i)
  | .bl k => some (.int (if k then 1 else 0))
  | _ => none
abbrev rInt1 (K : PySem.W.Frag) : List V → Hp → VK → Prop := fun xs H Q => (∃ i, xs = [.int i] ∧ Q (.int i) H) ∨ ∃ k, xs = [.bl k] ∧ Q (.int (if k then 1 else 0)) H
theorem im_int1 : ImL rInt1 (one int1D) := by
  intro p g m H xs dxs d Q o rx e q
  obtain ⟨dx, rfl, e1⟩ := one_some e
  obtain ⟨v, rfl, r⟩ := rx.one
  clear e
  have e := e1
  clear e1
  unfold int1D at e
  cases dx with
  | int i => cases e; rw [r.int]; exact .inl ⟨i, rfl, q.int o⟩
  | bl k => cases e; rw [r.bl]; exact .inr ⟨k, rfl, q.int o⟩
  | _ => cases e
def str1D (d : D) : Option D := match d with
  | .int i => if i.natAbs.log2 < 1920 then some (.str (toString i)) else none
  | _ => none
abbrev rStr1 (K : PySem.W.Frag) : List V → Hp → VK → Prop := fun xs H Q => ∃ i, xs = [.int i] ∧ i.natAbs.log2 < 1920 ∧ Q (.str (toString i)) H
theorem im_str1 : ImL rStr1 (one str1D) := by
  intro p g m H xs dxs d Q o rx e q
  obtain ⟨dx, rfl, e1⟩ := one_some e
  obtain ⟨v, rfl, r⟩ := rx.one
  clear e
  have e := e1
  clear e1
  unfold str1D at e
  cases dx with
  | int i =>
    have e : (if i.natAbs.log2 < 1920 then some (D.str (toString i)) else none) = some d := e
    split at e
    · cases e; rw [r.int]; exact ⟨i, rfl, by assumption, q.str o⟩
    · cases e
  | _ => cases e
/-! sorted -/
def pairOf (d : D) : Option (Int × Int) := match d with
  | .tup [.int i, .int j] => some (i, j)
  | _ => none
theorem pairOf_some {d : D} {p : Int × Int} (h : pairOf d = some p) : d = .tup [.int p.1, .int p.2] := by
  unfold pairOf at h
  split at h
  · cases h; rfl
  · cases h
def asPairs : List D → Option (List (Int × Int))
  | [] => some []
  | d :: r => (pairOf d).bind fun p => (asPairs r).map (p :: ·)
theorem asPairs_cons {d : D} {r : List D} {ps : List (Int × Int)} (h : asPairs (d :: r) = some ps) : ∃ i j qs, d = .tup [.int i, .int j] ∧ asPairs r = some qs ∧ ps = (i, j) :: qs := by
  have h : ((pairOf d).bind fun p => (asPairs r).map (p :: ·)) = some ps := h
  cases z : pairOf d with
  | none => rw [z] at h; cases h
  | some p =>
    rw [z] at h
    have h : (asPairs r).map (p :: ·) = some ps := h
    cases q : asPairs r with
    | none => rw [q] at h; cases h
    | some qs =>
      rw [q] at h
      cases h
      exact ⟨p.1, p.2, qs, pairOf_some z, rfl, rfl⟩
def lexLe (p q : Int × Int) : Bool := !(SrtO.lexB q p)
def sortP (ps : List (Int × Int)) : List (Int × Int) := ps.mergeSort lexLe
def pairD (p : Int × Int) : D := .tup [.int p.1, .int p.2]
def sortI (ns : List Int) : List Int := ns.mergeSort fun a b => decide (a ≤ b)
def sortedD (d : D) : Option D := match d with
  | .lst ds => (match asInts ds with
    | some ns => some (.lst ((sortI ns).map D.int))
    | none => (asPairs ds).map fun ps => .lst ((sortP ps).map pairD))
  | _ => none
abbrev rSorted2 (K : PySem.W.Frag) : List V → Hp → VK → Prop := fun xs H Q => rSortedPO K xs H Q ∨ rSortedI K xs H Q
theorem o_sorted {X : Cx} : CallR X (.builtin "sorted") (rSorted2 X.K) := cr_sortedPO.or cr_sortedI
def keyV (H : Hp) : V → Int × Int
  | .ref t => (match H t with
    | some (.tup [.int i, .int j]) => (i, j)
    | _ => (0, 0))
  | _ => (0, 0)
theorem pairs_rep {p : Par} {g : Gh} {m : Store} {H : Hp} (o : Ok p g m H) : ∀ {ds : List D} {vs : List V} {ps : List (Int × Int)}, asPairs ds = some ps → RepL p.K g vs ds → vs.map (keyV H) = ps ∧ ∀ v ∈ vs, ∃ t, v = .ref t ∧ H t = some (.tup [.int (keyV H v).1, .int (keyV H v).2]) ∧ Rep p.K g v (pairD (keyV H v))
  | [], _, _, h, .nil => by cases h; exact ⟨rfl, fun v hv => by cases hv⟩
  | d :: ds, _, _, h, .cons r t => by
    obtain ⟨i, j, qs, rfl, h2, rfl⟩ := asPairs_cons h
    obtain ⟨e1, e2⟩ := pairs_rep o h2 t
    cases r with
    | tup hf rl =>
      cases rl with
      | cons r1 r2 =>
        cases r2 with
        | cons r3 r4 =>
          cases r4
          cases r1
          cases r3
          rename_i a
          have hk : keyV H (.ref a) = (i, j) := by
            show (match H a with
              | some (HO.tup [V.int i, V.int j]) => (i, j)
              | _ => (0, 0)) = _
            rw [o.fh _ _ hf]
          refine ⟨by rw [List.map_cons, hk, e1], fun v hv => ?_⟩
          rcases List.mem_cons.mp hv with z | z
          · rw [z, hk]
            exact ⟨a, rfl, o.fh _ _ hf, .tup hf (.cons (.int i) (.cons (.int j) .nil))⟩
          · exact e2 v z
theorem RepL.of_map {K : PySem.W.Frag} {g : Gh} {f : V → D} : ∀ {vs : List V}, (∀ v ∈ vs, Rep K g v (f v)) → RepL K g vs (vs.map f)
  | [], _ => .nil
  | v :: vs, h => .cons (h v (List.mem_cons_self ..)) (RepL.of_map fun w hw => h w (List.mem_cons_of_mem _ hw))
theorem im_sorted : ImL rSorted2 (one sortedD) := by
  intro p g m H xs dxs d Q o rx e q
  obtain ⟨dx, rfl, e1⟩ := one_some e
  obtain ⟨v, rfl, r⟩ := rx.one
  clear e
  unfold sortedD at e1
  split at e1
  · rename_i ds
    obtain ⟨a, vs, rfl, h1, _, h3⟩ := r.lst
    split at e1
    · rename_i ns hn
      cases e1
      rw [asInts_some hn] at h3
      refine .inr ⟨a, ns, rfl, by rw [← h3.ints]; exact SqL.of h1, fun ns' l hp hs hl => ?_⟩
      have ee : ns' = sortI ns := List.Perm.eq_of_pairwise (le := fun a b => a ≤ b) (fun a b _ _ x y => by omega) hs ((List.pairwise_mergeSort (fun a b c x y => by rw [decide_eq_true_eq] at *; omega) (fun a b => by simp only [Bool.or_eq_true, decide_eq_true_eq]; omega) ns).imp fun h => by rw [decide_eq_true_eq] at h; exact h) (hp.trans (List.mergeSort_perm _ _).symm)
      rw [ee]
      exact q.newL o (RepL.of_ints _) l hl
    · cases z : asPairs ds with
      | none => rw [z] at e1; cases e1
      | some ps =>
        rw [z] at e1
        cases e1
        obtain ⟨k1, k2⟩ := pairs_rep o z h3
        refine .inl ⟨a, vs, keyV H, rfl, SqL.of h1, fun x hx => ?_, fun ys l hs hb hl => ?_⟩
        · obtain ⟨t, e, ht, _⟩ := k2 x hx
          exact ⟨t, e, ht⟩
        · have hm : ∀ y ∈ ys, Rep p.K g y (pairD (keyV H y)) := fun y hy => by
            obtain ⟨t, _, _, hr⟩ := k2 y (hb.perm.mem_iff.mp hy)
            exact hr
          have ee : ys.map (keyV H) = sortP ps := List.Perm.eq_of_pairwise (le := fun a b => lexLe a b = true) (fun a b _ _ x y => by
            unfold lexLe at x y
            rw [Bool.not_eq_true'] at x y
            have x := SrtO.lexB_no.mp x
            have y := SrtO.lexB_no.mp y
            exact Prod.ext (by omega) (by omega)) (by
            rw [List.pairwise_map]
            exact hs.imp fun h => by unfold lexLe; rw [Bool.not_eq_true']; exact h) (List.pairwise_mergeSort (fun a b c x y => by
              unfold lexLe at *
              rw [Bool.not_eq_true'] at *
              have x := SrtO.lexB_no.mp x
              have y := SrtO.lexB_no.mp y
              exact SrtO.lexB_no.mpr (by omega)) (fun a b => by
              unfold lexLe
              rw [Bool.or_eq_true, Bool.not_eq_true', Bool.not_eq_true']
              by_cases x : SrtO.lexB b a = false
              · exact .inl x
              · rw [Bool.not_eq_false] at x
                have x := SrtO.lexB_iff.mp x
                exact .inr (SrtO.lexB_no.mpr (by omega))) ps) ((hb.perm.map (keyV H)).trans (by rw [k1]; exact (List.mergeSort_perm _ _).symm))
          have rr := RepL.of_map (f := fun v => pairD (keyV H v)) hm
          have e3 : ys.map (fun v => pairD (keyV H v)) = (sortP ps).map pairD := by
            rw [← ee, List.map_map]
            rfl
          rw [e3] at rr
          exact q.newL o rr l hl
  · cases e1
/-! isinstance -/
inductive Ty where
  | int | bool | str | tuple | list | none
  deriving DecidableEq
def Ty.nm : Ty → String
  | .int => "int" | .bool => "bool" | .str => "str" | .tuple => "tuple" | .list => "list" | .none => "NoneType"
def tyD : D → Option Ty
  | .non => some .none
  | .bl _ => some .bool
  | .int _ => some .int
  | .str _ => some .str
  | .tup _ => some .tuple
  | .lst _ => some .list
  | _ => Option.none
def Ty.isi : Ty → Ty → Bool
  | .int, .int => true
  | .bool, .int => true
  | .bool, .bool => true
  | .str, .str => true
  | .tuple, .tuple => true
  | .list, .list => true
  | .none, .none => true
  | _, _ => false
theorem isi_kit : ∀ a b : Ty, b.nm ≠ "NoneType" → kitB a.nm b.nm = some (a.isi b) := by
  intro a b h
  cases a <;> cases b <;> first | (exact absurd rfl h) | decide +kernel
theorem tyD_rep {p : Par} {g : Gh} {m : Store} {H : Hp} {v : V} {d : D} {t : Ty} (o : Ok p g m H) (r : RepA p.K g H v d) (h : tyD d = some t) : TyX p.K H v (.type t.nm) := by
  cases d with
  | non => cases h; rw [r.non]; exact .base .non
  | bl b => cases h; rw [r.bl]; exact .base (.bl b)
  | int i => cases h; rw [r.int]; exact .base (.int i)
  | str x => cases h; rw [r.str]; exact .base (.str x)
  | tup ds =>
    cases h
    obtain ⟨a, vs, rfl, h1, _⟩ := r.tup
    exact .base (.tup (o.fh _ _ h1))
  | lst ds =>
    cases h
    obtain ⟨a, vs, rfl, h1, _⟩ := r.lst
    exact .base (.lst h1)
  | _ => cases h
section
variable {X : Cx} {fr : Fr} {a b e : Expr} {es : List Expr} {pos : Pos} {f fa fb : En → M D} {fs : En → M (List D)}
def isiD (t : Ty) (d : D) : Option D := (tyD d).map fun a => .bl (a.isi t)
theorem e_isi {t : Ty} {x y : Str} {p p2 : Pos} (hK : X.K = fr.p.K) (ht : t.nm ≠ "NoneType") (hg : Gl X x) (hm : X.mg x = none) (hv : bootBuiltins x = some (.builtin "isinstance")) (hn : x ≠ "__name__") (hdb : (x == ("__debug__" : Str)) = false)
    (hg2 : Gl X y) (hm2 : X.mg y = none) (hv2 : bootBuiltins y = some (.type t.nm)) (hn2 : y ≠ "__name__") (hdb2 : (y == ("__debug__" : Str)) = false) (ha : PE X a (TV fr (vA fr.p.K) fa))
    (he : starEach [a, .Name y p2] X.env = (false, eval a X.env) :: starEach [.Name y p2] X.env) :
    PE X (.Call (.Name x p) [a, .Name y p2] [] pos) (TV fr (vF fr.p.K) (ev1 (isiD t) fa)) :=
  pe_weak (pe_callB call_isi hg hm hv (pa_cons ha (pa_cons (pe_bltn (v := .ty t.nm) hg2 hm2 hv2 rfl hn2 hdb2) pa_nil) he) hn hdb he) fun s H Q ⟨rho, g, m, rl, w⟩ => by
    refine ⟨rho, g, m, rl, wp_mono (wp_bnd.mp w) (fun dx m1 w1 v g1 H1 e1 o1 r1 => ?_) fun _ _ z => z⟩
    obtain ⟨d, hd, q⟩ := wp_lift.mp w1
    unfold isiD at hd
    cases z : tyD dx with
    | none => rw [z] at hd; cases hd
    | some k =>
      rw [z] at hd
      cases hd
      refine ⟨v, .ty t.nm, .type k.nm, .type t.nm, k.isi t, rfl, .ty _, ?_, kit_ty (isi_kit k t ht), q _ g1 H1 e1 o1 (show Rep _ _ _ _ from .bl _)⟩
      rw [hK]
      exact tyD_rep o1 r1 z
def lrngD (d : D) : Option D := match d with
  | .int n => if 0 ≤ n ∧ n ≤ 16777216 then some (.lst ((List.range n.toNat).map fun (i : Nat) => .int (i : Int))) else none
  | _ => none
theorem e_lrng {p p2 pos2 : Pos} (hc : X.calm = true) (hg : Gl X "list") (hm : X.mg "list" = none) (hg2 : Gl X "range") (hm2 : X.mg "range" = none) (ha : PE X a (TV fr (vA fr.p.K) fa)) (he : starEach [a] X.env = (false, eval a X.env) :: starEach [] X.env) :
    PE X (.Call (.Name "list" p) [.Call (.Name "range" p2) [a] [] pos2] [] pos) (TV fr (vF fr.p.K) (ev1 lrngD fa)) := pe_weak (pe_listRg hc hg hm (prg_1 hg2 hm2 ha he)) fun s H Q ⟨rho, g, m, rl, w⟩ => by
  refine ⟨rho, g, m, rl, wp_mono (wp_bnd.mp w) (fun dx m1 w1 v g1 H1 e1 o1 r1 => ?_) fun _ _ z => z⟩
  obtain ⟨d, hd, q⟩ := wp_lift.mp w1
  unfold lrngD at hd
  split at hd
  · split at hd
    · rename_i n hn
      cases hd
      have r1 : RepA _ _ _ _ _ := r1
      refine ⟨n, r1.int, ?_⟩
      · refine ⟨RgOk.of_le (Int.le_refl 0) hn.2 (by omega) hn.1, ?_⟩
        have z : RepL fr.p.K g1 (rgV 0 n) ((List.range n.toNat).map fun (i : Nat) => D.int (i : Int)) := by
          have e1 := RepL.of_ints (K := fr.p.K) (g := g1) ((List.range n.toNat).map fun (i : Nat) => (i : Int))
          rw [List.map_map, List.map_map] at e1
          unfold rgV
          simpa [Function.comp_def] using e1
        exact Ans.newL o1 z fun z g2 H2 e2 o2 r2 => q z g2 H2 (e1.trans e2) o2 (RepF.from e1 r2)
    · cases hd
  · cases hd
end

/-! ### calls of the text's own defs -/
def RepM (K : PySem.W.Frag) (g : Gh) (H : Hp) : List Md → List V → List D → Prop
  | [], [], [] => True
  | md :: ms, v :: vs, d :: ds => (match md with
    | .frz => Rep K g v d
    | _ => RepA K g H v d) ∧ RepM K g H ms vs ds
  | _, _, _ => False
def lM (K : PySem.W.Frag) (ms : List Md) : LR := fun g H vs ds => RepM K g H ms vs ds
def spD (p : Par) (ms : List Md) (vr : VR) (rn : List D → M D) : Sp := fun vs H Q E => ∃ ds g m, Ok p g m H ∧ RepM p.K g H ms vs ds ∧
  (rn ds m).wp (fun d m' => ∀ v g' H', Ext g H g' H' → Ok p g' m' H' → vr H g' H' v d → Q v H') (fun c m' => ∀ g' H', Ext g H g' H' → Ok p g' m' H' → E (p.cls c) none H')
theorem RepM.length {K : PySem.W.Frag} {g : Gh} {H : Hp} : ∀ {ms : List Md} {vs : List V} {ds : List D}, RepM K g H ms vs ds → vs.length = ms.length ∧ ds.length = ms.length
  | [], [], [], _ => ⟨rfl, rfl⟩
  | _ :: ms, _ :: vs, _ :: ds, h => ⟨congrArg Nat.succ (RepM.length h.2).1, congrArg Nat.succ (RepM.length h.2).2⟩
  | [], [], _ :: _, h => h.elim
  | [], _ :: _, _, h => h.elim
  | _ :: _, [], _, h => h.elim
  | _ :: _, _ :: _, [], h => h.elim
section
variable {X : Cx} {fr : Fr} {a b e : Expr} {es : List Expr} {pos p : Pos} {f : En → M D} {fs : En → M (List D)} {x : Str} {k : Nat} {fn : Addr} {fd : FuncData} {ps : List Str} {ms : List Md} {vr : VR} {rn : List D → M D}
theorem a_nilM : PA X [] (TLg fr (lM fr.p.K []) evNil) := a_nil fun _ _ => trivial
theorem a_consMZ (ha : PE X e (TV fr (vZ fr.p.K) f)) (hr : PA X es (TLg fr (lM fr.p.K ms) fs)) (hs : starEach (e :: es) X.env = (false, eval e X.env) :: starEach es X.env) : PA X (e :: es) (TLg fr (lM fr.p.K (.frz :: ms)) (evCons f fs)) :=
  a_cons (vr := vZ fr.p.K) (P := lM fr.p.K ms) (P' := lM fr.p.K (.frz :: ms)) (fun e h => Rep.mono e.le h) (fun h t => ⟨h, t⟩) ha hr hs
theorem a_consMA (ha : PE X e (TV fr (vA fr.p.K) f)) (hr : PA X es (TLg fr (lM fr.p.K ms) fs)) (hs : starEach (e :: es) X.env = (false, eval e X.env) :: starEach es X.env) : PA X (e :: es) (TLg fr (lM fr.p.K (.bor :: ms)) (evCons f fs)) :=
  a_cons (vr := vA fr.p.K) (P := lM fr.p.K ms) (P' := lM fr.p.K (.bor :: ms)) (fun e h => RepA.ext e h) (fun h t => ⟨h, t⟩) ha hr hs
def evCall (rn : List D → M D) (fs : En → M (List D)) (rho : En) : M D := bnd (fs rho) rn
theorem e_call (kd : Kind fr.p.K vr) (F : FnOk X.prog X.w X.K X.mg X.base (L2.CX X.prog X.w) k fn fd ps (spD fr.p ms vr rn)) (hr : Room k X.A) (hg : Gl X x) (hm : X.mg x = some (.ref fn)) (hk : PySem.W.keepIn X.K (.ref fn) = true) (hb : Binds X.K fd ps []) (tk : Takes X fr.W)
    (ha : PA X (e :: es) (TLg fr (lM fr.p.K ms) fs)) (hdb : (x == ("__debug__" : Str)) = false) (he : starEach (e :: es) X.env = (false, eval e X.env) :: starEach es X.env) (hpl : (backTo pos (starEach es X.env)).any (·.1) = false) :
    PE X (.Call (.Name x p) (e :: es) [] pos) (TV fr vr (evCall rn fs)) := pe_weak (pe_callS F hr hg hm hk hb (fun σ => passAt tk σ) ha hdb he hpl) fun s H Q ⟨rho, g, m, rl, w⟩ =>
  ⟨rho, g, m, rl, wp_mono (wp_bnd.mp w) (fun ds m1 w1 vs g1 H1 e1 o1 r1 => ⟨ds, g1, m1, o1, r1, wp_mono w1 (fun d m2 q v g2 H2 e2 o2 r2 => q v g2 H2 (e1.trans e2) o2 (kd.back e1 r2)) fun c m2 q g2 H2 e2 o2 => q g2 H2 (e1.trans e2) o2⟩) fun _ _ z => z⟩
def evCall0 (rn : List D → M D) (_ : En) : M D := noX (rn [])
theorem e_call0 (kd : Kind fr.p.K vr) (F : FnOk X.prog X.w X.K X.mg X.base (L2.CX X.prog X.w) k fn fd ps (spD fr.p [] vr rn)) (hr : Room k X.A) (hg : Gl X x) (hm : X.mg x = some (.ref fn)) (hk : PySem.W.keepIn X.K (.ref fn) = true) (hb : Binds X.K fd ps []) (hdb : (x == ("__debug__" : Str)) = false) :
    PE X (.Call (.Name x p) [] [] pos) (TV fr vr (evCall0 rn)) := pe_weak (pe_call0 (E := E0) F hr hg hm hk hb .nil passL hdb) fun s H Q ⟨rho, g, m, rl, w⟩ =>
  ⟨[], g, m, rl.ok, trivial, wp_mono (wp_noX w) (fun d m2 q => q) fun _ _ z => z.elim⟩
/-! the body -/
def callF (nv : Nat) (F : SM) (ds : List D) : M D := fun m => match F (ds.map some ++ List.replicate (nv - ds.length) none) m with
  | .nx _ m' => .ok .non m'
  | .rt d m' => .ok d m'
  | .exc c _ m' => .exc c m'
  | .bk _ _ => .bad
  | .ct _ _ => .bad
  | .bad => .bad
theorem RepM.get {K : PySem.W.Frag} {g : Gh} {H : Hp} : ∀ {ms : List Md} {vs : List V} {ds : List D} {i : Nat} {d : D}, RepM K g H ms vs ds → ds[i]? = some d → ∃ v md, vs[i]? = some v ∧ ms[i]? = some md ∧ (match md with
    | .frz => Rep K g v d
    | _ => RepA K g H v d)
  | [], [], [], _, _, _, e => by simp at e
  | md :: ms, v :: vs, d :: ds, 0, _, h, e => by
    simp only [List.getElem?_cons_zero, Option.some.injEq] at e
    subst e
    exact ⟨v, md, rfl, rfl, h.1⟩
  | _ :: ms, _ :: vs, _ :: ds, i + 1, _, h, e => by
    simp only [List.getElem?_cons_succ] at e ⊢
    exact RepM.get h.2 e
  | [], [], _ :: _, _, _, h, _ => h.elim
  | [], _ :: _, _, _, _, h, _ => h.elim
  | _ :: _, [], _, _, _, h, _ => h.elim
  | _ :: _, _ :: _, [], _, _, h, _ => h.elim
theorem rl_start {p : Par} {md : Nat → Md} {g : Gh} {m : Store} {H : Hp} {W : WX} {N : List Str} {vs : List V} {ds : List D} {ms : List Md} (o : Ok p g m H) (r : RepM p.K g H ms vs ds) (hmd : ∀ i x, ms[i]? = some x → md i = x ∧ x ≠ .own) (hl : ds.length ≤ N.length) :
    Rl ⟨p, md, g, H, W⟩ g H (ds.map some ++ List.replicate (N.length - ds.length) none) m (L2.start N vs) := by
  obtain ⟨l1, l2⟩ := r.length
  refine ⟨o, Ext.refl g H, by unfold L2.start; simp; omega, fun _ => none, fun i d h => ?_⟩
  by_cases hi : i < ds.length
  · rw [List.getElem?_append_left (by simpa using hi), List.getElem?_map] at h
    cases q : ds[i]? with
    | none => rw [q] at h; cases h
    | some e =>
      rw [q] at h
      cases h
      obtain ⟨v, x, h1, h2, h3⟩ := r.get q
      obtain ⟨h4, h5⟩ := hmd i x h2
      refine ⟨v, ?_, ?_⟩
      · unfold L2.start
        rw [List.getElem?_append_left (by rw [List.length_map]; omega), List.getElem?_map, h1]
        rfl
      · unfold SlotR
        show match md i with | .frz => _ | .own => _ | .bor => _
        rw [h4]
        cases x with
        | frz => exact h3
        | own => exact absurd rfl h5
        | bor =>
          cases d with
          | lst es =>
            obtain ⟨a, ws, e1, k1, k2, k3⟩ := h3
            exact ⟨a, ws, e1, by show H a ≠ none; rw [k1]; simp, k1, k2, k3⟩
          | _ => exact h3
  · rw [List.getElem?_append_right (by simpa using Nat.le_of_not_lt hi), List.getElem?_replicate] at h
    split at h <;> cases h
theorem fn_ok {P : Program} {w : World} {K : PySem.W.Frag} {mg : Str → Option Value} {base : Heap} {nm qual : Str} {params : Arguments} {body : List Stmt} {scope : Scope} {N : List Str} {pr : Par} {md : Nat → Md} {F : SM} (hK : pr.K = K) (Fd : FunD K nm qual params body scope [] [] fn fd) (S : FnScope N ps scope)
    (hms : ms.length = ps.length) (hmd : ∀ i x, ms[i]? = some x → md i = x ∧ x ≠ .own) (hl : ps.length ≤ N.length) (kd : Kind pr.K vr)
    (hB : ∀ (cdv : Value) (A : Around) (outer : List Env) (s : Shared) (H : Hp) (E : XK) (g : Gh), Room k (A.deeper (PyProof.Rows.envOfC qual scope s.heap.objs.size fn cdv)) →
      PSs (cxOf (L2.CX P w) P w K mg base N qual scope fn cdv A outer s H E) body (TSt ⟨pr, md, g, H, fun cls d _ H => E cls d H⟩ vr F)) :
    FnOk P w K mg base (L2.CX P w) (k + 1) fn fd ps (spD pr ms vr (callF N.length F)) := by
  refine Fd.ok S (fun vs H Q E h => ?_) fun cdv A outer s H vs Q E hr h => ?_
  · obtain ⟨ds, g, m, _, r, _⟩ := h
    rw [r.length.1, hms]
  · obtain ⟨ds, g, m, o, r, q⟩ := h
    refine ⟨_, hB cdv A outer s H E g hr, _, g, m, rl_start o r hmd (by rw [r.length.2, hms]; exact hl), ?_⟩
    unfold callF at q
    cases z : F (ds.map some ++ List.replicate (N.length - ds.length) none) m with
    | nx rho' m' =>
      rw [z] at q
      intro s' g' H' _ r'
      exact q .non g' H' r'.ent r'.ok kd.non
    | rt d m' => rw [z] at q; exact fun v g' H' e o rv => q v g' H' e o rv
    | exc c rho' m' => rw [z] at q; exact fun s' g' H' _ r' => q g' H' r'.ent r'.ok
    | bk rho' m' => rw [z] at q; exact absurd q (fun z => z)
    | ct rho' m' => rw [z] at q; exact absurd q (fun z => z)
    | bad => rw [z] at q; exact absurd q (fun z => z)
end
end PF

namespace PF
open PySem PySem.Spec L2

/-! ### sorted(rest, key=lambda at: (-(left * shares[at] % every), at)) -/
def lamSc : Scope := { kind := .function, names := [("at", .local), ("every", .free), ("left", .free), ("shares", .free)], isGenerator := false, isCoroutine := false, more := [] }
def lamAr (q : Pos) : Arguments := { posonlyargs := [], args := [{ arg := "at", annotation := none, pos := q }], vararg := none, kwonlyargs := [], kw_defaults := [], kwarg := none, defaults := [] }
structure LamP where
  (a b c d e f g h i j : Pos)
def lamBody (p : LamP) : Expr := .Tuple [.UnaryOp .USub (.BinOp (.BinOp (.Name "left" p.a) .Mult (.Subscript (.Name "shares" p.b) (.Name "at" p.c) p.d) p.e) .Mod (.Name "every" p.f) p.g) p.h, .Name "at" p.i] 0 p.j
section
variable {P : Program} {w : World} {A : Around} {E : Value → Shared → Prop} {s : Shared}
theorem lam_body {env : Env} {p : LamP} {m : Str → Option Value} {cl cs ce : Addr} {i L S ev : Int} {ti tl ts te : Tok} {a : Addr} {its : Array Value} {Q : Value → Shared → Prop}
    (hk : env.scope.kind = .function) (k1 : env.kindOf "at" = some .local) (k2 : env.kindOf "left" = some .free) (k3 : env.kindOf "shares" = some .free) (k4 : env.kindOf "every" = some .free)
    (hn : s.heap.Ns env.locals m) (ha : m "at" = some (.int i ti)) (c1 : env.cells.lookup ("left" : Str) = some cl) (v1 : s.heap.IsCell cl (some (.int L tl))) (c2 : env.cells.lookup ("shares" : Str) = some cs) (v2 : s.heap.IsCell cs (some (.ref a)))
    (c3 : env.cells.lookup ("every" : Str) = some ce) (v3 : s.heap.IsCell ce (some (.int ev te))) (hl : s.heap.IsList a its) (h0 : 0 ≤ i) (hfit : i < 2 ^ 63) (hx : its[i.toNat]? = some (.int S ts)) (he : 0 < ev) (hm : IntMulOk L S)
    (h : ∀ t tk, Q (.ref s.heap.objs.size) { s with heap := s.heap.push { cls := .type "tuple", data := .seq [Value.int (-(L * S % ev)) t, Value.int i ti].toArray }, toks := tk }) :
    wpAny (model P w) A (eval (lamBody p) env) Q E s := by
  refine wpAny_Tuple ?_
  refine Calls.spliced_cons (wpAny_UnaryOp ?_)
  refine wpAny_BinOp (wpAny_BinOp ?_)
  refine wpAny_Name (wpAny_loadName_free hk k2 c1 v1 ?_)
  refine wpAny_Subscript_Name_late (wpAny_Name (wpAny_loadName_free hk k3 c2 v2 ?_))
  refine wpAny_Name (wpAny_loadName_local hk k1 hn ha ?_)
  refine ⟨"list", _, F.slot_list_getitem.lookup, hl.typeIs, wpAny_getItem_list hl h0 hfit hx ?_⟩
  refine PyProof.Rows.mul_int ?_ hm
  refine wpAny_Name (wpAny_loadName_free hk k4 c3 v3 ?_)
  refine PyProof.Rows.mod_int' (by omega) ?_
  refine PyProof.Rows.neg_int ?_
  refine Calls.spliced_cons (wpAny_Name (wpAny_loadName_local hk k1 hn ha ?_))
  refine Calls.spliced_nil ⟨by show 2 ≤ sizeLine; decide, ?_⟩
  have e : (L * S).fmod ev = L * S % ev := Int.fmod_eq_emod_of_nonneg _ (by omega)
  rw [e]
  exact h _ _

abbrev lamClo (cells : List (Str × Addr)) : List (Str × Addr) := cloFrom cells lamSc.names []
theorem lam_call {f c' : Addr} {qual : Str} {p : LamP} {q : Pos} {pm ctv : Value} {cells : List (Str × Addr)} {cl cs ce : Addr} {i L S ev : Int} {ti tl ts te : Tok} {a : Addr} {its : Array Value} (hroom : A.depth < recursionLimit)
    (hf : s.heap.get? f = some (PySem.W.kla_obj "<lambda>" qual (lamAr q) (lamBody p) lamSc (lamClo cells) pm c' ctv)) (hc : s.heap.CodeRec (.ref c') qual) (lim : s.heap.NoLimit)
    (c1 : cells.lookup ("left" : Str) = some cl) (v1 : s.heap.IsCell cl (some (.int L tl))) (c2 : cells.lookup ("shares" : Str) = some cs) (v2 : s.heap.IsCell cs (some (.ref a)))
    (c3 : cells.lookup ("every" : Str) = some ce) (v3 : s.heap.IsCell ce (some (.int ev te))) (hl : s.heap.IsList a its) (h0 : 0 ≤ i) (hfit : i < 2 ^ 63) (hx : its[i.toNat]? = some (.int S ts)) (he : 0 < ev) (hm : IntMulOk L S) :
    wpAny (model P w) A (call (.ref f) [.int i ti]) (PySem.W.KeyPure (.tuple [.int (-(L * S % ev)), .int i]) s) (fun _ _ => False) s := by
  refine wpAny_call (PySem.W.kla_callFunE hroom hf rfl rfl rfl rfl hc ?_)
  refine wpAny_mono (Q := fun (b : List (Str × Value)) s1 => b = [(("at" : Str), Value.int i ti)] ∧ s1 = s) (E := fun _ _ => False) (wpAny_pure ⟨rfl, rfl⟩) ?_ fun _ _ z => z.elim
  rintro b s1 ⟨rfl, rfl⟩
  refine wpAny_newFunctionEnv (show ∀ x ∈ lamSc.names, x.2 ≠ .cell by decide) (fun y hy => ?_) (fun h' hns hsb => ?_) rfl
  · rw [List.mem_singleton.mp hy]
    rfl
  have kp : ∀ b o, s1.heap.get? b = some o → h'.get? b = some o := fun b o e => hsb.extBut b o (Nat.ne_of_lt (Heap.lt_size e)) (Heap.get?_push_of_some _ e)
  have ck : ∀ {c : Addr} {v : Option Value}, s1.heap.IsCell c v → h'.IsCell c v := fun {c v} ⟨o, ho, hd⟩ => ⟨o, kp _ _ ho, hd⟩
  have lk : h'.IsList a its := by
    obtain ⟨o, ho, hr⟩ := hl
    exact ⟨o, kp _ _ ho, hr⟩
  have e1 : lamClo cells = [(("shares" : Str), cs), (("left" : Str), cl), (("every" : Str), ce)] := by
    show [(("shares" : Str), (cells.lookup ("shares" : Str)).getD 0), (("left" : Str), (cells.lookup ("left" : Str)).getD 0), (("every" : Str), (cells.lookup ("every" : Str)).getD 0)] = _
    rw [c1, c2, c3]
    rfl
  refine ⟨lim.keeps kp, PySem.W.kla_codeExpr ?_⟩
  show wpAny _ _ (eval (lamBody p) (newEnv lamSc s1.heap.objs.size mainGlobals (lamClo cells) (qual ++ ".<locals>.") (some f) (.ref c') none builtinsNs)) _ _ _
  rw [e1]
  refine lam_body (m := fun x => ([(("at" : Str), Value.int i ti)] : List (Str × Value)).reverse.lookup x) rfl rfl rfl rfl rfl hns rfl rfl (ck v1) rfl (ck v2) rfl (ck v3) lk h0 hfit hx he hm fun t tk => ?_
  refine ⟨_, _, rfl, fun b o z => Heap.get?_push_of_some _ (kp b o z), ?_⟩
  have rd : ReadsAll (h'.push { cls := .type "tuple", data := .seq [Value.int (-(L * S % ev)) t, Value.int i ti].toArray }) [Value.int (-(L * S % ev)) t, Value.int i ti] [.int (-(L * S % ev)), .int i] ([] ++ ([] ++ [])) := .cons (.int _ _) (.cons (.int _ _) .nil)
  exact Reads.tuple (Heap.get?_push_size _ rfl) rfl rfl rd
end
section
variable {X : Cx} {pins : List (Addr × Obj)} {σ : L2.St} {H : Hp} {s : Shared}
theorem lam_make3 {T : List (Addr × Str)} {c P : Addr} {params : Arguments} {body : Expr} {scope : Scope} {pos : Pos} {E : Value → Shared → Prop} {Q : Value → Shared → Prop} (I : Inv X pins σ H s) (TB : LamX.TabB X.base X.mg c P) (hcode : X.env.code = .ref c)
    (hm : (P, X.env.qual ++ "<lambda>") ∈ T) (hu : ∀ p ∈ T, p.1 = P → p.2 = X.env.qual ++ "<lambda>") (hT : LamX.Tabs T H) (hdef : defaultsOf params X.env = ([], [])) (hfree : ∀ y ∈ scope.names, y.2 = .free → ∃ c, X.env.cells.lookup y.1 = some c)
    (h : ∀ (f c' : Addr) (pm ctv : Value) (H1 : Hp) (s' : Shared), Inv X pins σ H1 s' → (∀ b o, b ≠ P → H b = some o → H1 b = some o) → H1 P ≠ none → LamX.Tabs T H1 →
      s'.heap.get? f = some (PySem.W.kla_obj "<lambda>" (X.env.qual ++ "<lambda>") params body scope (cloFrom X.env.cells scope.names []) pm c' ctv) → H1 c' = some (LamX.CodeO c' (X.env.qual ++ "<lambda>")) → Q (.ref f) s') :
    wpAny (model X.prog X.w) X.A (eval (.Lambda params body scope pos) X.env) Q E s := by
  obtain ⟨ps, hP, ht, ha⟩ := hT _ hm
  refine PySem.W.kla_eval hdef ?_
  have bP := TB.bm.keeps I.bk
  have hP' := I.hok P _ hP
  cases hc : codeAmong pos ps.toList with
  | some cv =>
    obtain ⟨c', rfl, hco⟩ := ha pos cv hc
    refine PySem.W.kla_makeFunctionHit (mg := X.mg) (c := c) (P := P) (ps := ps) (closure_ok hfree) I.ok.glob (I.mod.glob.keeps I.bk) hcode (TB.code.keeps I.bk) hP' ht hc bP fun ctv h' tk hx hsz => ?_
    exact h h'.objs.size c' _ ctv H _ (I.kept fun b o e => Heap.get?_push_of_some _ (hx b o e)) (fun _ _ _ z => z) (by rw [hP]; simp) hT (Heap.get?_push_size _ rfl) hco
  | none =>
    refine PySem.W.kla_makeFunction (mg := X.mg) (c := c) (P := P) (ps := ps) (closure_ok hfree) I.ok.glob (I.mod.glob.keeps I.bk) hcode (TB.code.keeps I.bk) hP' ht hc TB.gP bP fun c' ctv h' tk hx hge hlt hrec htb => ?_
    obtain ⟨c2, oc, vs, t, e2, hoc, hd, hv⟩ := hrec
    cases e2
    have nC : H c' = none := I.hok.fresh hge
    have I1 := LamX.inv_table (t' := tk) (more := #[rawInt pos.line, rawInt pos.col, .ref c']) (h' := h'.push (PySem.W.kla_obj "<lambda>" (X.env.qual ++ "<lambda>") params body scope (cloFrom X.env.cells scope.names []) ((X.mg "__name__").getD .none) c' ctv)) I hP
      (fun b o hb e => Heap.get?_push_of_some _ (hx b o hb e)) (Heap.get?_push_of_some _ htb) hge ⟨oc, vs, t, Heap.get?_push_of_some _ hoc, hd, hv⟩
    have kk : ∀ b o, b ≠ P → H b = some o → upd (upd H P (.tbl (ps ++ #[rawInt pos.line, rawInt pos.col, .ref c']))) c' (LamX.CodeO c' (X.env.qual ++ "<lambda>")) b = some o := fun b o nb e => by
      rw [upd_ne (ne_of_none e nC), upd_ne nb]
      exact e
    have eP : upd (upd H P (.tbl (ps ++ #[rawInt pos.line, rawInt pos.col, .ref c']))) c' (LamX.CodeO c' (X.env.qual ++ "<lambda>")) P = some (.tbl (ps ++ #[rawInt pos.line, rawInt pos.col, .ref c'])) := by rw [upd_ne (ne_of_none hP nC), upd_same]
    have kc : ∀ b o, H b = some o → (∀ ps, o ≠ .tbl ps) → upd (upd H P (.tbl (ps ++ #[rawInt pos.line, rawInt pos.col, .ref c']))) c' (LamX.CodeO c' (X.env.qual ++ "<lambda>")) b = some o := fun b o e n => kk b o (fun z => n ps (Option.some.inj (e.symm.trans (by rw [z]; exact hP)))) e
    refine h h'.objs.size c' _ ctv _ _ I1 kk (by rw [eP]; simp) (fun p hp => ?_) (Heap.get?_push_size _ rfl) upd_same
    by_cases hb : p.1 = P
    · rw [hu p hp hb, hb]
      refine ⟨_, eP, ?_, fun p' cv hcv => ?_⟩
      · rw [Array.toList_append]
        exact PySem.TriplesOk_snoc _ _ _ _ ht
      · rw [Array.toList_append] at hcv
        rcases LamX.among_app _ ht hcv with z | z
        · obtain ⟨c0, e1, e2⟩ := ha p' cv z
          exact ⟨c0, e1, kc _ _ e2 LamX.codeO_ne⟩
        · exact ⟨c', z, upd_same⟩
    · obtain ⟨ps', a1, a2, a3⟩ := hT p hp
      refine ⟨ps', kk _ _ hb a1, a2, fun p' cv hcv => ?_⟩
      obtain ⟨c0, e1, e2⟩ := a3 p' cv hcv
      exact ⟨c0, e1, kc _ _ e2 LamX.codeO_ne⟩
end
/-- the code table has grown -/
theorem Ok.table {p : Par} {g : Gh} {m : Store} {H H1 : Hp} (o : Ok p g m H) {q : Addr × Str} (hq : q ∈ p.T) (kk : ∀ b u, b ≠ q.1 → H b = some u → H1 b = some u) (kP : H1 q.1 ≠ none) (t1 : LamX.Tabs p.T H1) : Ok p g m H1 ∧ Ext g H g H1 := by
  have bq : g.B q.1 = some .tab := o.tabB q hq
  have nb : ∀ b w, g.B b = w → w ≠ some .tab → b ≠ q.1 := fun b w z n e => n (by rw [← z, e]; exact bq)
  have no : ∀ b, H b ≠ none → H1 b ≠ none := fun b z => by
    by_cases e : b = q.1
    · rw [e]; exact kP
    · cases y : H b with
      | none => exact absurd y z
      | some u => rw [kk b u e y]; simp
  refine ⟨⟨fun b u z => kk b u (fun e => ?_) (o.fh b u z), o.bf, fun b z => no b (o.bh b z), t1, o.tabB, o.obl, fun n fs z => ?_⟩, Le.refl g, fun b u z y => kk b u (nb b _ y (by simp)) z, fun _ _ z => z, fun _ z => z, fun _ _ z => z, no⟩
  · have := o.bf q.1 (by rw [bq]; simp)
    rw [e, this] at z
    cases z
  · obtain ⟨x, e, dx, vf, q1, q2, q3, q4, q5⟩ := o.obs n fs z
    refine ⟨x, e, dx, vf, kk _ _ (nb x _ q3 (by simp)) q1, kk _ _ (nb dx _ q4 (by simp)) q2, q3, q4, Paired.imp2 q5 fun y w z => ⟨z.1, ?_⟩⟩
    have z2 := z.2
    unfold FldR at z2 ⊢
    cases hw : w.2 with
    | lst ds =>
      rw [hw] at z2
      obtain ⟨b, vs', y1, y2, y3, y4⟩ := z2
      exact ⟨b, vs', y1, kk _ _ (nb b _ y3 (by simp)) y2, y3, y4⟩
    | _ => rw [hw] at z2; exact z2
def sortKey (L ev : Int) (S : List Int) (i : Int) : Int := -(L * S.getD i.toNat 0 % ev)
def sortBy (L ev : Int) (S ns : List Int) : List Int := ns.mergeSort fun p q => decide (sortKey L ev S p < sortKey L ev S q ∨ (sortKey L ev S p = sortKey L ev S q ∧ p ≤ q))
def sortOk (L ev : Int) (S ns : List Int) : Bool := decide (0 < ev) && ns.all (fun i => decide (0 ≤ i ∧ i < S.length)) && S.all (fun z => decide (mulOk L z)) && decide (S.length < 4294967296) && decide (ns.length < 16777216)
def sortD (dn dl ds de : D) : Option D := match dl, de, lstInts dn, lstInts ds with
  | .int L, .int ev, some ns, some S => if sortOk L ev S ns then some (.lst ((sortBy L ev S ns).map D.int)) else none
  | _, _, _, _ => none
def evSort (ir il is ie : Nat) (rho : En) : M D := bnd (evVar ir rho) fun dn => bnd (evVar il rho) fun dl => bnd (evVar is rho) fun ds => bnd (evVar ie rho) fun de => lift (sortD dn dl ds de)

theorem sortD_some {dn dl ds de d : D} (h : sortD dn dl ds de = some d) : ∃ L ev ns S, dl = .int L ∧ de = .int ev ∧ lstInts dn = some ns ∧ lstInts ds = some S ∧ sortOk L ev S ns = true ∧ d = .lst ((sortBy L ev S ns).map D.int) := by
  unfold sortD at h
  split at h
  · split at h
    · cases h
      exact ⟨_, _, _, _, rfl, rfl, by assumption, by assumption, by assumption, rfl⟩
    · cases h
  · cases h
theorem each_vals : ∀ {vs : List V} {us : List Value} {ns : List Int}, vs = ns.map V.int → Vals vs us → PySem.W.EachIs (fun (v : Value) (x : Int) => ∃ t, v = .int x t) us ns
  | _, _, [], e, r => by subst e; cases r; exact .nil
  | _, _, n :: ns, e, r => by
    subst e
    cases r with
    | cons h t => exact .cons h (each_vals rfl t)
theorem vals_each : ∀ {us : List Value} {ns : List Int}, PySem.W.EachIs (fun (v : Value) (x : Int) => ∃ t, v = .int x t) us ns → Vals (ns.map V.int) us
  | _, _, .nil => .nil
  | _, _, .cons h t => .cons h (vals_each t)
theorem e_sort {X : Cx} {fr : Fr} {c P : Addr} {ir il is ie : Nat} {p : LamP} {p1 p2 q lpos kpos pos : Pos} {xr : Str} (hK : X.K = fr.p.K) (hg : Gl X "sorted") (hm : X.mg "sorted" = none) (TB : LamX.TabB X.base X.mg c P) (hcode : X.env.code = .ref c)
    (hmT : (P, X.env.qual ++ "<lambda>") ∈ fr.p.T) (hu : ∀ p ∈ fr.p.T, p.1 = P → p.2 = X.env.qual ++ "<lambda>") {k : Nat} (hr : Room k X.A) (hNr : X.N[ir]? = some xr) (hvr : Vis X.env.scope xr) (hd1 : (xr == ("__debug__" : Str)) = false) (hd2 : (xr == ("__classdict__" : Str)) = false)
    (hNl : X.N[il]? = some "left") (hNs : X.N[is]? = some "shares") (hNe : X.N[ie]? = some "every") (kl : X.env.scope.names.lookup ("left" : Str) = some .cell) (ks : X.env.scope.names.lookup ("shares" : Str) = some .cell) (ke : X.env.scope.names.lookup ("every" : Str) = some .cell)
    (he : backTo pos (starEach [.Name xr p2] X.env) = (false, eval (.Name xr p2) X.env) :: backTo pos (starEach [] X.env)) (hpl : (backTo pos (starEach [.Name xr p2] X.env)).any (·.1) = false) :
    PE X (.Call (.Name "sorted" p1) [.Name xr p2] [⟨some "key", .Lambda (lamAr q) (lamBody p) lamSc lpos, kpos⟩] pos) (TV fr (vF fr.p.K) (evSort ir il is ie)) := by
  refine ⟨fun pins s σ H Q I ⟨rho, g, m, rl, w⟩ => ?_⟩
  obtain ⟨dn, h1, w1⟩ := wp_lift.mp (wp_bnd.mp w)
  obtain ⟨dl, h2, w2⟩ := wp_lift.mp (wp_bnd.mp w1)
  obtain ⟨dsh, h3, w3⟩ := wp_lift.mp (wp_bnd.mp w2)
  obtain ⟨de, h4, w4⟩ := wp_lift.mp (wp_bnd.mp w3)
  obtain ⟨d, h5, q5⟩ := wp_lift.mp w4
  obtain ⟨L, ev, ns, S, rfl, rfl, hns, hS, hok, rfl⟩ := sortD_some h5
  obtain ⟨ow, hval⟩ := rl.val
  obtain ⟨vn, sn, rn⟩ := hval _ _ (join_some h1)
  obtain ⟨vl, sl, rl'⟩ := hval _ _ (join_some h2)
  obtain ⟨vs, ss, rs⟩ := hval _ _ (join_some h3)
  obtain ⟨ve, se, re⟩ := hval _ _ (join_some h4)
  have rn := rn.any rl.ok
  have rs := rs.any rl.ok
  have e2 : vl = .int L := RepA.int (rl'.any rl.ok)
  have e4 : ve = .int ev := RepA.int (re.any rl.ok)
  subst e2 e4
  obtain ⟨an, rfl, hn⟩ := lstInts_rep rn hns
  obtain ⟨as, rfl, hs⟩ := lstInts_rep rs hS
  have hz : s.heap = s.heap := rfl
  refine wpAny_Call_Name_kw (ld_blt I hg hm rfl ?_ (by decide) (by decide))
  refine PyProof.Rows.callWith_kw ?_ he hpl rfl rfl
  refine thn ((pa_cons (pe_var (pos := p2) (i := ir) hNr hvr hd1 hd2) pa_nil).run pos pins s σ H (fun vs H1 => vs = [.ref an] ∧ H1 = H) I ⟨_, sn, rfl, rfl⟩) fun us s1 ⟨vs1, H1, I1, r1, e1, eH⟩ => ?_
  subst e1 eH
  obtain rfl := Vals.ref1 r1
  refine PyProof.Rows.kwAll_cons (lam_make3 I1 TB hcode hmT hu rl.ok.tabs rfl (fun y hy e => ?_) fun f c' pm ctv H2 s2 I2 kk kP T2 hf hc => ?_)
  · rcases List.mem_cons.mp hy with z | hy
    · rw [z] at e; cases e
    rcases List.mem_cons.mp hy with z | hy
    · rw [z]; exact I1.ok.has _ (.inl ke)
    rcases List.mem_cons.mp hy with z | hy
    · rw [z]; exact I1.ok.has _ (.inl kl)
    rcases List.mem_cons.mp hy with z | hy
    · rw [z]; exact I1.ok.has _ (.inl ks)
    · cases hy
  refine PyProof.Rows.kwAll_nil ?_
  show wpAny _ _ (call (.builtin "sorted") [.ref an] [(Str.ofString "key", .ref f)]) _ _ _
  obtain ⟨o2, x2⟩ := rl.ok.table hmT kk kP T2
  obtain ⟨mm, hns2, hl⟩ := I2.loc
  have cell : ∀ {i : Nat} {x : Str} {v : V}, X.N[i]? = some x → σ[i]? = some (some v) → X.env.scope.names.lookup x = some .cell → ∃ u c, RelV v u ∧ X.env.cells.lookup x = some c ∧ s2.heap.IsCell c (some u) := fun {i x v} n1 n2 n3 => by
    obtain ⟨u, ru, z⟩ := hl i x v n1 n2 (.inr (.inl n3))
    rcases z with ⟨k', _⟩ | ⟨_, c, k1, k2⟩
    · rw [show X.env.kindOf x = some .cell from n3] at k'; cases k'
    · exact ⟨u, c, ru, k1, k2⟩
  obtain ⟨u1, c1, ⟨t1, rfl⟩, k1, k1'⟩ := cell hNl sl kl
  obtain ⟨u2, c2, ru2, k2, k2'⟩ := cell hNs ss ks
  obtain rfl : u2 = .ref as := ru2
  obtain ⟨u3, c3, ⟨t3, rfl⟩, k3, k3'⟩ := cell hNe se ke
  have rn2 : RepA fr.p.K g H2 (.ref an) dn := RepA.ext x2 rn
  have rs2 : RepA fr.p.K g H2 (.ref as) dsh := RepA.ext x2 rs
  obtain ⟨an', z1, hn2⟩ := lstInts_rep rn2 hns
  cases z1
  obtain ⟨as', z2, hs2⟩ := lstInts_rep rs2 hS
  cases z2
  rw [← hK] at hn2 hs2
  obtain ⟨its, rv, pl, hz1⟩ := I2.list hn2
  obtain ⟨jts, rw', pw, hz2⟩ := I2.list hs2
  have en := each_vals rfl rv
  unfold sortOk at hok
  simp only [Bool.and_eq_true, decide_eq_true_eq, List.all_eq_true] at hok
  obtain ⟨⟨⟨⟨hev, hin⟩, hmul⟩, hls⟩, hln⟩ := hok
  obtain ⟨⟨oc, vs, t, hoc, hdc, hvc⟩, _, _⟩ := I2.hok c' _ hc
  refine PySem.W.sorted_key_data (b := false) (R := fun (v : Value) (x : Int) => ∃ t, v = .int x t) (bs := ns) (vs := its) (fun x : Int => .tuple [.int (sortKey L ev S x), .int x]) pl.isList en (PySem.W.AllAlike.of fun _ _ => by simp [PySem.W.alike, PySem.W.alikeAll]) (PySem.W.Sortable.tuples fun _ => ⟨_, _, rfl⟩) (by rw [sizeLine_eq]; omega) (fun x _ => ?_) (PyProof.Rows.ksk_s1 _ _) (fun _ => PyProof.Rows.ksk_l1 _ _) (fun _ => PyProof.Rows.ksk_t1 _ _)
    (fun v x hv hx h tk kp => ?_) fun out c0 h' tk kp _ hD hlo eo => ?_
  · have hd : (PyData.tuple [.int (sortKey L ev S x), .int x]).depth = 1 := by simp [PyData.depth, PyData.depthAll]
    rw [hd]
    have := hr.un
    omega
  · obtain ⟨t, rfl⟩ := hv
    obtain ⟨b1, b2⟩ := hin x hx
    have hlt : x.toNat < S.length := by omega
    obtain ⟨u, hu1, tu, hu2⟩ := Vals.get rw' (show (S.map V.int)[x.toNat]? = some (.int (S[x.toNat])) by simp [hlt])
    have ck : ∀ {c : Addr} {v : Option Value}, s2.heap.IsCell c v → h.IsCell c v := fun {c v} ⟨o, ho, hd⟩ => ⟨o, kp _ _ ho, hd⟩
    subst hu2
    have eS : sortKey L ev S x = -(L * S[x.toNat] % ev) := by
      unfold sortKey
      rw [show S.getD x.toNat 0 = S[x.toNat] by simp [hlt]]
    rw [eS]
    refine lam_call (s := { s2 with heap := h, toks := tk }) (its := jts.toArray) hr.depth (kp _ _ hf) ⟨c', oc, vs, _, rfl, kp _ _ hoc, hdc, hvc⟩ (I2.nolimit.keeps kp) k1 (ck k1') k2 (ck k2') k3 (ck k3') ?_ b1 (by omega) (by simpa using hu1) hev ?_
    · obtain ⟨o, ho, hr⟩ := pw.isList
      exact ⟨o, kp _ _ ho, hr⟩
    · exact (hmul _ (List.getElem_mem hlt)).elim (fun z => CMul.ok z) fun z => CMulW.ok z
  · rw [PySem.W.dataLe_ii (β := Int) (fun x => sortKey L ev S x) (fun x => x)] at eo
    have eo' : PySem.W.EachIs (fun (v : Value) (x : Int) => ∃ t, v = .int x t) out (sortBy L ev S ns) := eo
    have fr0 : H2 (s2.heap.objs.size + 1) = none := I2.hok.fresh (Nat.le_succ _)
    obtain ⟨o3, e3⟩ := o2.raw fr0 (.lst ((sortBy L ev S ns).map V.int))
    have hle : ((sortBy L ev S ns).map V.int).length ≤ sizeLine := by
      rw [List.length_map, ← eo'.length, hlo, sizeLine_eq]
      omega
    refine ⟨.ref _, upd H2 (s2.heap.objs.size + 1) (.lst ((sortBy L ev S ns).map V.int)), I2.laid kp (Nat.le_succ _) ⟨hle, out, c0, vals_each eo', hD⟩, rfl, ?_⟩
    exact q5 _ g _ (x2.trans e3) o3 ⟨_, _, rfl, x2.fresh fr0, upd_same, o2.fnone fr0, o2.bnone fr0, RepL.of_ints _⟩
end PF

namespace PF
open PySem L2


/-! ### forms -/
def pln : Expr → Bool
  | .Starred .. => false
  | .Set .. => false
  | .Slice .. => false
  | _ => true
def noCmp : Expr → Bool
  | .ListComp .. => false
  | .SetComp .. => false
  | .DictComp .. => false
  | _ => true
def tru : Expr → Bool
  | .UnaryOp .. => false
  | .BoolOp .. => false
  | .IfExp .. => false
  | .Compare .. => false
  | _ => true
def noTup : Expr → Bool
  | .Tuple .. => false
  | _ => true
section
variable {e : Expr} {es : List Expr} {env : Env}
theorem star_eq (h : pln e = true) : starEach (e :: es) env = (false, eval e env) :: starEach es env := by cases e <;> first | rfl | cases h
theorem swaps_eq {t : Option Expr} {l : Nat} (h : noCmp e = true) : swapsWith e t l env = pure false := by cases e <;> first | rfl | cases h
theorem folded_eq (h : pln e = true) : ∀ x, foldedSetIterable e env x = pure x := by cases e <;> first | (intro x; rfl) | cases h
theorem marks_eq {op : CmpOp} (h : pln e = true) : behindInMarks op e = false := by cases e <;> first | rfl | cases h
theorem plainIx_eq (h : pln e = true) : PlainIx e := by cases e <;> first | (intro o i; rfl) | cases h
theorem aug_eq (h : pln e = true) : ∀ ov iv new, augStore e ov iv new = (do holding [new, ov, iv] (setItem ov iv new); release [new, ov, iv] []; pure .next) := by cases e <;> first | (intro o i n; rfl) | cases h
theorem tru_eq (h : tru e = true) : ∀ whole, isTrue e env whole = (do let v ← whole; standAt e.pos; holding [v] (truthy v)) := by cases e <;> first | (intro o; rfl) | cases h
theorem back_any {pos : Pos} : ∀ {es : List Expr}, es.all pln = true → (backTo pos (starEach es env)).any (·.1) = false
  | [], _ => rfl
  | e :: es, h => by
    rw [List.all_cons, Bool.and_eq_true] at h
    rw [star_eq h.1]
    show (false || (backTo pos (starEach es env)).any (·.1)) = false
    rw [back_any h.2]
    rfl
theorem set_eq {x : Str} {p apos : Pos} (h : pln e = true) : ∀ v, assign (.Subscript (.Name x p) e apos) env v = (do
      let ov ← holding [v] (eval (.Name x p) env)
      let iv ← holding [v, ov] (eval e env)
      standAt apos
      holding [v, ov, iv] (setItem ov iv v)
      release [v, ov, iv] []) := by cases e <;> first | (intro o; rfl) | cases h
end
inductive Bop where
  | add | sub | mul | div | mod | pow
inductive Cop where
  | lt | le | gt | ge | eq | ne | inn | nin
inductive Bi where
  | len | sum | max | min | list | tuple | int | str | sorted
def Bop.op : Bop → Operator
  | .add => .Add | .sub => .Sub | .mul => .Mult | .div => .FloorDiv | .mod => .Mod | .pow => .Pow
def Bop.sem : Bop → D → D → Option D
  | .add => addD | .sub => subD | .mul => mulD | .div => divD | .mod => modD | .pow => powD
def Cop.op : Cop → CmpOp
  | .lt => .Lt | .le => .LtE | .gt => .Gt | .ge => .GtE | .eq => .Eq | .ne => .NotEq | .inn => .In | .nin => .NotIn
def Cop.sem : Cop → D → D → Option D
  | .lt => ltD | .le => leD | .gt => gtD | .ge => geD | .eq => eqD | .ne => neD | .inn => inD false | .nin => inD true
theorem Bop.ok {X : Cx} (b : Bop) : ∃ r : PySem.W.Frag → R2, OpR X (binaryOp b.op) (r X.K) ∧ Im2 r b.sem := by
  cases b with
  | add => exact ⟨_, o_plus, im_plus⟩
  | sub => exact ⟨_, op_sub, im_minus⟩
  | mul => exact ⟨_, o_times, im_times⟩
  | div => exact ⟨_, op_fdivW, im_div⟩
  | mod => exact ⟨_, op_mod, im_mod⟩
  | pow => exact ⟨_, op_pow, im_pow⟩
theorem Cop.ok {X : Cx} (hu : X.A.units + 64 < cLine) (b : Cop) : ∃ r : PySem.W.Frag → R2, OpR X (compareOp b.op) (r X.K) ∧ Im2 r b.sem := by
  cases b with
  | lt => exact ⟨_, op_lt, im_lt⟩
  | le => exact ⟨_, op_le, im_le⟩
  | gt => exact ⟨_, op_gt, im_gt⟩
  | ge => exact ⟨_, op_ge, im_ge⟩
  | eq => exact ⟨rEq2, op_eq.or (op_eqD hu), im_eq⟩
  | ne => exact ⟨rNe2, op_ne.or (op_neD hu), im_ne⟩
  | inn => exact ⟨_, op_in_seq, im_in false⟩
  | nin => exact ⟨_, op_notIn_seq, im_in true⟩
end PF

namespace PF
open PySem L2

/-! ### the small language -/
inductive I where
  | var (i : Nat) | int (n : Int) | bl (b : Bool) | str (s : Str) | non | gint (x : Str) (n : Int)
  | bin (o : Bop) (a b : I) | neg (a : I) | cmp (o : Cop) (a b : I) | chain (o p : Cop) (a b c : I)
  | not (a : I) | and (a b : I) | or (a b : I) | ife (c a b : I)
  | tup (a : I) | lst (a : I) | ix (a b : I) | sl (a lo hi : I) | hole | prt (a : I)
  | call (j : Nat) (a : I) | call0 (j : Nat) | bi (b : Bi) (a : I) | isi (t : Ty) (a : I) | lrng (a : I)
  | comp (it : I) (t : Tg) (c f : I) (vs : List Nat) | srt (ir il is ie : Nat)
  | nil | cons (a as : I)
  | tst (a : I) | tcmp (o : Cop) (a b : I) | tchn (o p : Cop) (a b c : I) | tnot (a : I) | tand (a b : I) | tor (a b : I)
  | iseq (a : I) | irng1 (a : I) | irng2 (a : I) | ienm (a : I) | izip (a : I)
  | pass | brk | cnt | expr (a : I) | set (i : Nat) (a : I) | setc (i : Nat) (it : I) (t : Tg) (c f : I) (vs : List Nat) | aug (sub : Bool) (i : Nat) (a : I) | ret (a : I) | retv (i : Nat)
  | iff (c p q : I) | whl (n : Nat) (c p : I) | for (it : I) (t : Tg) (p : I) | app (i : Nat) (a : I) | ext (i : Nat) (a : I) | put (i : Nat) (k a : I) | augput (sub : Bool) (i : Nat) (k a : I) | unp (t : Tg) (a : I)
  | raise (c : Nat) | try (b h : I) | hnd (c : Nat) (b r : I)
def bad {α : Type} : M α := fun _ => .bad
def badS : SM := fun _ _ => .bad
structure Den where
  v : En → M D := fun _ => bad
  b : En → M Bool := fun _ => bad
  l : En → M (List D) := fun _ => bad
  o : En → M (Option Int) := fun _ => bad
  s : SM := badS
  h : List (Nat × SM) := []
def Bi.sem : Bi → List D → Option D
  | .len => one lenD | .sum => one sumD | .max => mm true | .min => mm false | .list => one listD | .tuple => one tupleD | .int => one int1D | .str => one str1D | .sorted => one sortedD
def den (exm : Nat → Nat → Bool) (cl : Nat → List D → M D) : I → Den
  | .var i => { v := evVar i }
  | .int n => { v := fun _ => PF.ret (.int n) }
  | .bl n => { v := fun _ => PF.ret (.bl n) }
  | .str n => { v := fun _ => PF.ret (.str n) }
  | .non => { v := fun _ => PF.ret .non }
  | .gint _ n => { v := fun _ => PF.ret (.int n) }
  | .bin o a b => { v := ev2 o.sem (den exm cl a).v (den exm cl b).v }
  | .neg a => { v := ev1 negD (den exm cl a).v }
  | .cmp o a b => { v := ev2 o.sem (den exm cl a).v (den exm cl b).v }
  | .chain o p a b c => { v := evChain o.sem p.sem (den exm cl a).v (den exm cl b).v (den exm cl c).v }
  | .not a => { v := evNot (den exm cl a).v }
  | .and a b => { v := evAnd (den exm cl a).v (den exm cl b).v }
  | .or a b => { v := evOr (den exm cl a).v (den exm cl b).v }
  | .ife c a b => { v := evIf (den exm cl c).b (den exm cl a).v (den exm cl b).v }
  | .tup a => { v := fun rho => bnd ((den exm cl a).l rho) tupM }
  | .lst a => { v := fun rho => bnd ((den exm cl a).l rho) lstM }
  | .ix a b => { v := ev2 ixD (den exm cl a).v (den exm cl b).v }
  | .sl a lo hi => { v := evSl (den exm cl a).v (den exm cl lo).o (den exm cl hi).o }
  | .hole => { o := evPart none, b := yesB }
  | .prt a => { o := evPart (some (den exm cl a).v) }
  | .call j a => { v := evCall (cl j) (den exm cl a).l }
  | .call0 j => { v := evCall0 (cl j) }
  | .bi b a => { v := evB b.sem (den exm cl a).l }
  | .isi t a => { v := ev1 (isiD t) (den exm cl a).v }
  | .lrng a => { v := ev1 lrngD (den exm cl a).v }
  | .comp it t c f vs => { v := evComp (den exm cl it).l t (den exm cl c).b (den exm cl f).v vs }
  | .srt a b c d => { v := evSort a b c d }
  | .nil => { l := evNil, s := nxS, h := [] }
  | .cons a as => { l := evCons (den exm cl a).v (den exm cl as).l, s := seqS (den exm cl a).s (den exm cl as).s }
  | .tst a => { b := fun rho => bnd ((den exm cl a).v rho) truthM }
  | .tcmp o a b => { b := evT (ev2 o.sem (den exm cl a).v (den exm cl b).v) }
  | .tchn o p a b c => { b := evT (evChain o.sem p.sem (den exm cl a).v (den exm cl b).v (den exm cl c).v) }
  | .tnot a => { b := tbNot (den exm cl a).b }
  | .tand a b => { b := tbAnd (den exm cl a).b (den exm cl b).b }
  | .tor a b => { b := tbOr (den exm cl a).b (den exm cl b).b }
  | .iseq a => { l := evSeq (den exm cl a).v }
  | .irng1 a => { l := evI rng1 (den exm cl a).l }
  | .irng2 a => { l := evI rng2 (den exm cl a).l }
  | .ienm a => { l := evI enm1 (den exm cl a).l }
  | .izip a => { l := evI zip2 (den exm cl a).l }
  | .pass => { s := nxS }
  | .brk => { s := bkS }
  | .cnt => { s := ctS }
  | .expr a => { s := dropS (den exm cl a).v }
  | .set i a => { s := setS i (den exm cl a).v }
  | .setc i it t c f vs => { s := setS i (evComp (den exm cl it).l t (den exm cl c).b (den exm cl f).v vs) }
  | .aug sub i a => { s := augS sub i (den exm cl a).v }
  | .ret a => { s := retS (den exm cl a).v }
  | .retv i => { s := retS (evVar i) }
  | .iff c p q => { s := ifS (den exm cl c).b (den exm cl p).s (den exm cl q).s }
  | .whl n c p => { s := whileS (den exm cl c).b (den exm cl p).s n }
  | .for it t p => { s := forT (den exm cl it).l t (den exm cl p).s }
  | .app i a => { s := appS i (den exm cl a).v }
  | .ext i a => { s := extS i (den exm cl a).v }
  | .put i k a => { s := putS i (den exm cl k).v (den exm cl a).v }
  | .augput sub i k a => { s := augPutS sub i (den exm cl k).v (den exm cl a).v }
  | .unp t a => { s := unpS t (den exm cl a).v }
  | .raise c => { s := raiseS c }
  | .try b h => { s := tryS exm (den exm cl b).s ((den exm cl h).h.map fun q => (q.1, stillS q.2)) }
  | .hnd c b r => { h := (c, (den exm cl b).s) :: (den exm cl r).h }

/-! ### what is written -/
structure FI where
  name : Str
  ps : List Str
  ms : List Md
  kd : Nat
structure Pg where
  fns : List FI
  gis : List (Str × Int)
  excs : List Str
structure Sc where
  pg : Pg
  N : List Str
  scope : Scope
  md : List Md
  rk : Nat
  top : Bool
  srt : Bool
  hot : Bool
def Sc.mdf (sc : Sc) (i : Nat) : Md := sc.md.getD i .frz
def Sc.blk (sc : Sc) (scope : Scope) : Sc := { sc with scope := relS scope sc.scope, top := false, srt := false }
def Sc.suite (sc : Sc) : Sc := { sc with top := false, srt := false, hot := true }
def kdOf (sc : Sc) : I → Nat
  | .var i => if sc.mdf i = .frz then 1 else 2
  | .and _ b => kdOf sc b
  | .or _ b => kdOf sc b
  | .ife _ a b => max (kdOf sc a) (kdOf sc b)
  | .ix _ _ => 1
  | .call j _ => ((sc.pg.fns[j]?).map (·.kd)).getD 2
  | .call0 j => ((sc.pg.fns[j]?).map (·.kd)).getD 2
  | _ => 0
def nmOk (x : Str) : Bool := !(x == ("__debug__" : Str)) && !(x == ("__classdict__" : Str)) && !(x == ("__name__" : Str))
def Sc.vis (sc : Sc) (x : Str) : Bool := match sc.scope.names.lookup x with
  | some .local => true
  | some .cell => true
  | some .free => true
  | _ => false
def Sc.loc (sc : Sc) (x : Str) : Bool := match sc.scope.names.lookup x with
  | some .local => true
  | some .cell => true
  | _ => false
def Sc.gl (sc : Sc) (x : Str) : Bool := match sc.scope.names.lookup x with
  | some .globalImplicit => true
  | _ => false
def Sc.var (sc : Sc) (i : Nat) (x : Str) : Bool := decide (sc.N[i]? = some x) && sc.vis x && nmOk x
def Sc.blt (sc : Sc) (x : Str) (y : Str) : Bool := decide (x = y) && sc.gl x && nmOk x
inductive Syn where
  | e (x : Expr) | t (x : Expr) | aA (xs : List Expr) | aZ (xs : List Expr) | aM (ms : List Md) (xs : List Expr) | o (x : Option Expr) | i (any : Bool) (tg x : Expr) | ts | s (x : Stmt) | b (xs : List Stmt) | h (xs : List ExceptHandler)
def Bi.nm : Bi → Str
  | .len => "len" | .sum => "sum" | .max => "max" | .min => "min" | .list => "list" | .tuple => "tuple" | .int => "int" | .str => "str" | .sorted => "sorted"
/-- a target whose names may be stored: fn tells which cells are the block's own -/
def tgB (sc : Sc) (fn : Str → Bool) (t : Tg) (e : Expr) : Bool := match t, e with
  | .nm i, .Name x _ => decide (sc.N[i]? = some x) && (decide (sc.scope.names.lookup x = some .local) || (decide (sc.scope.names.lookup x = some .cell) && fn x)) && decide (sc.mdf i = .frz)
  | .tp is, .Tuple es _ _ => decide (is.length = es.length) && (is.zip es).all fun q => match q.2 with
    | .Name x _ => decide (sc.N[q.1]? = some x) && (decide (sc.scope.names.lookup x = some .local) || (decide (sc.scope.names.lookup x = some .cell) && fn x)) && decide (sc.mdf q.1 = .frz)
    | _ => false
  | .tn i is, .Tuple [.Name x _, .Tuple es _ _] _ _ => (decide (sc.N[i]? = some x) && (decide (sc.scope.names.lookup x = some .local) || (decide (sc.scope.names.lookup x = some .cell) && fn x)) && decide (sc.mdf i = .frz)) && (decide (is.length = es.length) && (is.zip es).all fun q => match q.2 with
    | .Name x _ => decide (sc.N[q.1]? = some x) && (decide (sc.scope.names.lookup x = some .local) || (decide (sc.scope.names.lookup x = some .cell) && fn x)) && decide (sc.mdf q.1 = .frz)
    | _ => false)
  | _, _ => false
def swB (sc : Sc) (scope : Scope) (t : Str) (l : Bool) : Bool := decide (sc.scope.names.lookup t = some .local) && l && !(scope.names.any fun (n, k) => n == t && (k == .local || k == .cell))
def ownOf (sc : Sc) (vs : List Nat) : List (Str × Nat) := vs.map fun i => (sc.N.getD i "", i)
def lamB (sc : Sc) (ir il is ie : Nat) : Expr → Bool
  | .Call (.Name f _) [.Name xr _] [⟨some kw, .Lambda ar body scope _, _⟩] _ => sc.srt && !sc.hot && sc.blt f "sorted" && sc.var ir xr && decide (kw = ("key" : Str)) && decide (sc.N[il]? = some "left") && decide (sc.N[is]? = some "shares") && decide (sc.N[ie]? = some "every") &&
      decide (sc.scope.names.lookup ("left" : Str) = some .cell) && decide (sc.scope.names.lookup ("shares" : Str) = some .cell) && decide (sc.scope.names.lookup ("every" : Str) = some .cell) &&
      (match ar with
        | ⟨[], [⟨a, none, _⟩], none, [], [], none, []⟩ => decide (a = ("at" : Str))
        | _ => false) &&
      (match scope with
        | ⟨.function, [(a, .local), (b, .free), (c, .free), (d, .free)], false, false, []⟩ => decide (a = ("at" : Str)) && decide (b = ("every" : Str)) && decide (c = ("left" : Str)) && decide (d = ("shares" : Str))
        | _ => false) &&
      (match body with
        | .Tuple [.UnaryOp .USub (.BinOp (.BinOp (.Name a _) .Mult (.Subscript (.Name b _) (.Name c _) _) _) .Mod (.Name d _) _) _, .Name e _] 0 _ => decide (a = ("left" : Str)) && decide (b = ("shares" : Str)) && decide (c = ("at" : Str)) && decide (d = ("every" : Str)) && decide (e = ("at" : Str))
        | _ => false)
  | _ => false
def m : I → Sc → Syn → Bool
  | .var i => fun sc yy => match yy with
    | .e (.Name x _) => sc.var i x
    | _ => false
  | .int n => fun sc yy => match yy with
    | .e (.Constant (.int k) _ _) => decide (n = k)
    | _ => false
  | .bl n => fun sc yy => match yy with
    | .e (.Constant (.bool k) _ _) => decide (n = k)
    | _ => false
  | .str n => fun sc yy => match yy with
    | .e (.Constant (.str k) _ _) => decide (n = k)
    | _ => false
  | .non => fun sc yy => match yy with
    | .e (.Constant .none _ _) => true
    | _ => false
  | .gint y n => fun sc yy => match yy with
    | .e (.Name x _) => decide (y = x) && sc.gl x && nmOk x && decide ((x, n) ∈ sc.pg.gis)
    | _ => false
  | .bin o a b => fun sc yy => match yy with
    | .e (.BinOp x q y _) => decide (q = o.op) && m a sc (.e x) && m b sc (.e y)
    | _ => false
  | .neg a => fun sc yy => match yy with
    | .e (.UnaryOp .USub x _) => m a sc (.e x)
    | _ => false
  | .not a => fun sc yy => match yy with
    | .e (.UnaryOp .Not x _) => m a sc (.e x)
    | _ => false
  | .cmp o a b => fun sc yy => match yy with
    | .e (.Compare x [q] [y] _) => decide (q = o.op) && pln y && m a sc (.e x) && m b sc (.e y)
    | _ => false
  | .chain o p a b c => fun sc yy => match yy with
    | .e (.Compare x [q, r] [y, z] _) => decide (q = o.op) && decide (r = p.op) && pln y && pln z && m a sc (.e x) && m b sc (.e y) && m c sc (.e z)
    | _ => false
  | .and a b => fun sc yy => match yy with
    | .e (.BoolOp .And (x :: y :: []) _) => m a sc (.e x) && m b sc (.e y)
    | .e (.BoolOp .And (x :: y :: z :: r) p) => m a sc (.e x) && m b sc (.e (.BoolOp .And (y :: z :: r) p))
    | _ => false
  | .or a b => fun sc yy => match yy with
    | .e (.BoolOp .Or (x :: y :: []) _) => m a sc (.e x) && m b sc (.e y)
    | .e (.BoolOp .Or (x :: y :: z :: r) p) => m a sc (.e x) && m b sc (.e (.BoolOp .Or (y :: z :: r) p))
    | _ => false
  | .ife c a b => fun sc yy => match yy with
    | .e (.IfExp x y z _) => m c sc (.t x) && m a sc (.e y) && m b sc (.e z)
    | _ => false
  | .tup a => fun sc yy => match yy with
    | .e (.Tuple xs _ _) => m a sc (.aZ xs)
    | _ => false
  | .lst a => fun sc yy => match yy with
    | .e (.List xs _) => m a sc (.aZ xs)
    | _ => false
  | .ix a b => fun sc yy => match yy with
    | .e (.Subscript x y _) => pln y && m a sc (.e x) && m b sc (.e y)
    | _ => false
  | .sl a lo hi => fun sc yy => match yy with
    | .e (.Subscript x (.Slice l h none _) _) => m a sc (.e x) && m lo sc (.o l) && m hi sc (.o h)
    | _ => false
  | .hole => fun sc yy => match yy with
    | .o none => true
    | .ts => true
    | _ => false
  | .prt a => fun sc yy => match yy with
    | .o (some x) => m a sc (.e x)
    | _ => false
  | .call j a => fun sc yy => match yy with
    | .e (.Call (.Name x _) (y :: ys) [] _) => !sc.hot && sc.gl x && nmOk x && (y :: ys).all pln && (match sc.pg.fns[j]? with
        | some f => decide (f.name = x) && m a sc (.aM f.ms (y :: ys))
        | none => false)
    | _ => false
  | .call0 j => fun sc yy => match yy with
    | .e (.Call (.Name x _) [] [] _) => !sc.hot && sc.gl x && nmOk x && (match sc.pg.fns[j]? with
        | some f => decide (f.name = x) && decide (f.ms = [])
        | none => false)
    | _ => false
  | .bi b a => fun sc yy => match yy with
    | .e (.Call (.Name x _) (y :: ys) [] _) => !sc.hot && sc.blt x b.nm && (y :: ys).all pln && m a sc (.aA (y :: ys))
    | _ => false
  | .isi t a => fun sc yy => match yy with
    | .e (.Call (.Name x _) [y, .Name z _] [] _) => sc.blt x "isinstance" && sc.gl z && nmOk z && pln y && decide (z = Str.ofString t.nm) && decide (t ≠ .none) && m a sc (.e y)
    | _ => false
  | .lrng a => fun sc yy => match yy with
    | .e (.Call (.Name x _) [.Call (.Name y _) [z] [] _] [] _) => !sc.hot && sc.blt x "list" && sc.blt y "range" && pln z && m a sc (.e z)
    | _ => false
  | .comp it t c f vs => fun sc yy => match yy with
    | .e (.ListComp elt [⟨tg, iter, ifs, 0⟩] scope _) => !sc.hot && pln iter && m it sc (.i true tg iter) && blkC sc.N sc.scope scope (ownOf sc vs) && tgB (sc.blk scope) (fun x => scope.names.lookup x == some .cell) t tg && decide (∀ i ∈ t.sl, i ∈ vs) && (match ifs with
      | [] => m c (sc.blk scope) (.ts)
      | [x] => m c (sc.blk scope) (.t x)
      | _ => false) && m f (sc.blk scope) (.e elt) && decide (kdOf (sc.blk scope) f ≤ 1)
    | _ => false
  | .srt a b c d => fun sc yy => match yy with
    | .e x => lamB sc a b c d x
    | _ => false
  | .nil => fun sc yy => match yy with
    | .aA [] => true
    | .aZ [] => true
    | .aM [] [] => true
    | .b [] => true
    | .h [] => true
    | _ => false
  | .cons a as => fun sc yy => match yy with
    | .aA (x :: xs) => pln x && m a sc (.e x) && m as sc (.aA xs)
    | .aZ (x :: xs) => pln x && m a sc (.e x) && decide (kdOf sc a ≤ 1) && m as sc (.aZ xs)
    | .aM (md :: ms) (x :: xs) => pln x && m a sc (.e x) && (match md with
        | .frz => decide (kdOf sc a ≤ 1)
        | .bor => true
        | .own => false) && m as sc (.aM ms xs)
    | .b (x :: xs) => m a sc (.s x) && m as sc (.b xs)
    | _ => false
  | .tst a => fun sc yy => match yy with
    | .t x => tru x && m a sc (.e x)
    | _ => false
  | .tcmp o a b => fun sc yy => match yy with
    | .t (.Compare x [q] [y] _) => decide (q = o.op) && pln y && m a sc (.e x) && m b sc (.e y)
    | _ => false
  | .tchn o p a b c => fun sc yy => match yy with
    | .t (.Compare x [q, r] [y, z] _) => decide (q = o.op) && decide (r = p.op) && pln y && pln z && m a sc (.e x) && m b sc (.e y) && m c sc (.e z)
    | _ => false
  | .tnot a => fun sc yy => match yy with
    | .t (.UnaryOp .Not x _) => m a sc (.t x)
    | _ => false
  | .tand a b => fun sc yy => match yy with
    | .t (.BoolOp .And (x :: y :: []) _) => m a sc (.t x) && m b sc (.t y)
    | .t (.BoolOp .And (x :: y :: z :: r) p) => m a sc (.t x) && m b sc (.t (.BoolOp .And (y :: z :: r) p))
    | _ => false
  | .tor a b => fun sc yy => match yy with
    | .t (.BoolOp .Or (x :: y :: []) _) => m a sc (.t x) && m b sc (.t y)
    | .t (.BoolOp .Or (x :: y :: z :: r) p) => m a sc (.t x) && m b sc (.t (.BoolOp .Or (y :: z :: r) p))
    | _ => false
  | .iseq a => fun sc yy => match yy with
    | .i any _ x => m a sc (.e x) && (any || decide (kdOf sc a ≤ 1))
    | _ => false
  | .irng1 a => fun sc yy => match yy with
    | .i _ _ (.Call (.Name x _) [y] [] _) => sc.blt x "range" && pln y && m a sc (.aA [y])
    | _ => false
  | .irng2 a => fun sc yy => match yy with
    | .i _ _ (.Call (.Name x _) [y, z] [] _) => sc.blt x "range" && pln y && pln z && m a sc (.aA [y, z])
    | _ => false
  | .ienm a => fun sc yy => match yy with
    | .i any (.Tuple _ _ _) (.Call (.Name x _) [y] [] _) => sc.blt x "enumerate" && pln y && m a sc (if any then .aA [y] else .aZ [y])
    | _ => false
  | .izip a => fun sc yy => match yy with
    | .i any (.Tuple _ _ _) (.Call (.Name x _) [y, z] [] _) => sc.blt x "zip" && pln y && pln z && m a sc (if any then .aA [y, z] else .aZ [y, z])
    | _ => false
  | .pass => fun sc yy => match yy with
    | .s (.Pass _) => true
    | _ => false
  | .brk => fun sc yy => match yy with
    | .s (.Break _) => true
    | _ => false
  | .cnt => fun sc yy => match yy with
    | .s (.Continue _) => true
    | _ => false
  | .expr a => fun sc yy => match yy with
    | .s (.Expr x _) => noCmp x && m a sc (.e x)
    | _ => false
  | .set i a => fun sc yy => match yy with
    | .s (.Assign [.Name x p] y _) => (sc.top || sc.hot) && decide (sc.N[i]? = some x) && sc.loc x && (match y with
        | .ListComp _ _ scope q => !swB sc scope x (p.line == q.line)
        | z => noCmp z) && m a sc (.e y) && (match sc.mdf i with
        | .frz => decide (kdOf sc a ≤ 1)
        | .own => decide (kdOf sc a = 0)
        | .bor => false)
    | _ => false
  | .setc i it t c f vs => fun sc yy => match yy with
    | .s (.Assign [.Name x p] (.ListComp elt [⟨tg, iter, ifs, 0⟩] scope q) _) => sc.top && decide (sc.N[i]? = some x) && decide (sc.scope.names.lookup x = some .local) && swB sc scope x (p.line == q.line) && (match sc.mdf i with
        | .frz => true
        | .own => true
        | .bor => false) &&
          (pln iter && m it sc (.i true tg iter) && blkC sc.N sc.scope scope (ownOf sc vs) && tgB (sc.blk scope) (fun x => scope.names.lookup x == some .cell) t tg && decide (∀ i ∈ t.sl, i ∈ vs) && (match ifs with
      | [] => m c (sc.blk scope) (.ts)
      | [x] => m c (sc.blk scope) (.t x)
      | _ => false) && m f (sc.blk scope) (.e elt) && decide (kdOf (sc.blk scope) f ≤ 1))
    | _ => false
  | .aug sub i a => fun sc yy => match yy with
    | .s (.AugAssign (.Name x _) q y _) => (sc.top || sc.hot) && decide (sc.N[i]? = some x) && sc.loc x && decide (q = if sub then .Sub else .Add) && decide (sc.mdf i = .frz) && m a sc (.e y)
    | _ => false
  | .ret a => fun sc yy => match yy with
    | .s (.Return (some x) _) => m a sc (.e x) && decide (kdOf sc a ≤ sc.rk)
    | _ => false
  | .retv i => fun sc yy => match yy with
    | .s (.Return (some (.Name x _)) _) => sc.var i x && decide (sc.mdf i = .own)
    | _ => false
  | .iff c p q => fun sc yy => match yy with
    | .s (.If x y z _) => m c sc (.t x) && m p sc (.b y) && m q sc (.b z)
    | _ => false
  | .whl _ c p => fun sc yy => match yy with
    | .s (.While x y [] _) => sc.top && m c sc (.t x) && m p sc (.b y)
    | _ => false
  | .for it t p => fun sc yy => match yy with
    | .s (.For tg iter y [] _) => sc.top && pln iter && m it sc (.i false tg iter) && tgB sc (fun _ => true) t tg && m p sc (.b y)
    | _ => false
  | .app i a => fun sc yy => match yy with
    | .s (.Expr (.Call (.Attribute (.Name x _) at_ apos) [y] [] cpos) _) => sc.var i x && decide (sc.mdf i = .own) && decide (at_ = ("append" : Str)) && (apos.endLine == cpos.line) && pln y && m a sc (.e y) && decide (kdOf sc a ≤ 1)
    | _ => false
  | .ext i a => fun sc yy => match yy with
    | .s (.Expr (.Call (.Attribute (.Name x _) at_ apos) [y] [] cpos) _) => sc.var i x && decide (sc.mdf i = .own) && decide (at_ = ("extend" : Str)) && (apos.endLine == cpos.line) && pln y && m a sc (.e y)
    | _ => false
  | .put i k a => fun sc yy => match yy with
    | .s (.Assign [.Subscript (.Name x _) y _] z _) => sc.var i x && decide (sc.mdf i = .own) && pln y && noCmp z && m k sc (.e y) && m a sc (.e z) && decide (kdOf sc a ≤ 1)
    | _ => false
  | .augput sub i k a => fun sc yy => match yy with
    | .s (.AugAssign (.Subscript (.Name x _) y _) q z _) => sc.var i x && decide (sc.mdf i = .own) && pln y && decide (q = if sub then .Sub else .Add) && m k sc (.e y) && m a sc (.e z)
    | _ => false
  | .unp t a => fun sc yy => match yy with
    | .s (.Assign [.Tuple es k p] y _) => sc.top && tgB sc (fun _ => true) t (.Tuple es k p) && noCmp y && noTup y && m a sc (.e y) && decide (kdOf sc a ≤ 1)
    | _ => false
  | .raise c => fun sc yy => match yy with
    | .s (.Raise (some (.Call (.Name x _) [.Constant (.str _) _ _] [] _)) none _) => sc.top && sc.gl x && nmOk x && decide (sc.pg.excs[c]? = some x)
    | _ => false
  | .try b h => fun sc yy => match yy with
    | .s (.Try x (y :: ys) [] [] _) => sc.top && m b sc (.b x) && m h sc (.h (y :: ys))
    | _ => false
  | .hnd c b r => fun sc yy => match yy with
    | .h (.ExceptHandler (some (.Name x _)) none (y :: ys) _ :: zs) => sc.top && sc.gl x && nmOk x && decide (sc.pg.excs[c]? = some x) && m b sc.suite (.b (y :: ys)) && m r sc (.h zs)
    | _ => false
end PF

namespace PF
open PySem L2

/-! ### the matched text does what is told -/
structure Glb where
  P : Program
  w : World
  mg : Str → Option Value
  base : Heap
  p : Par
  k : Nat
  cl : Nat → List D → M D
  exm : Nat → Nat → Bool
def vk (K : PySem.W.Frag) : Nat → VR
  | 0 => vF K
  | 1 => vZ K
  | _ => vA K
theorem kK (K : PySem.W.Frag) : ∀ n, Kind K (vk K n)
  | 0 => kF K
  | 1 => kZ K
  | _ + 2 => kA K
theorem up {X : Cx} {fr : Fr} {x : Expr} {f : En → M D} {j k : Nat} (h : j ≤ k) (q : PE X x (TV fr (vk fr.p.K j) f)) : PE X x (TV fr (vk fr.p.K k) f) := by
  match j, k, h with
  | 0, 0, _ => exact q
  | 0, 1, _ => exact toZ q
  | 0, _ + 2, _ => exact fToA q
  | 1, 1, _ => exact q
  | 1, _ + 2, _ => exact toA q
  | _ + 2, _ + 2, _ => exact q
  | _ + 2, 1, h => exact absurd h (by omega)
  | _ + 1, 0, h => exact absurd h (by omega)
theorem upA {X : Cx} {fr : Fr} {x : Expr} {f : En → M D} {j : Nat} (q : PE X x (TV fr (vk fr.p.K j) f)) : PE X x (TV fr (vA fr.p.K) f) := up (k := j + 2) (by omega) q
theorem upZ {X : Cx} {fr : Fr} {x : Expr} {f : En → M D} {j : Nat} (h : j ≤ 1) (q : PE X x (TV fr (vk fr.p.K j) f)) : PE X x (TV fr (vZ fr.p.K) f) := up (k := 1) h q
def bltNames : List Str := ["len", "sum", "max", "min", "list", "tuple", "int", "str", "isinstance", "range", "enumerate", "zip", "sorted", "bool", "set", "abs", "any", "all"]
structure Facts (G : Glb) (pg : Pg) : Prop where
  fn : ∀ j f, pg.fns[j]? = some f → ∃ a fd, G.mg f.name = some (.ref a) ∧ PySem.W.keepIn G.p.K (.ref a) = true ∧ Binds G.p.K fd f.ps [] ∧ FnOk G.P G.w G.p.K G.mg G.base (L2.CX G.P G.w) G.k a fd f.ps (spD G.p f.ms (vk G.p.K f.kd) (G.cl j))
  blt : ∀ x ∈ bltNames, G.mg x = none
  gi : ∀ q ∈ pg.gis, ∃ t, G.mg q.1 = some (.int q.2 t)
  exc : ∀ c x, pg.excs[c]? = some x → ∃ (C : Addr) (bmB : List Value) (B newId initId : String), ExcBaseFacts B newId initId bmB ∧ PySem.W.excIn G.p.K C bmB newId = true ∧ G.mg x = some (.ref C) ∧ PySem.W.keepIn G.p.K (.ref C) = true ∧ (∀ X : Cx, X.K = G.p.K → Raises X (.ref C)) ∧ G.p.cls c = .ref C
  exm : ∀ c h, PySem.W.exmOne G.p.K (G.p.cls c) (G.p.cls h) = some (G.exm c h)
structure Ctx (G : Glb) (sc : Sc) (X : Cx) (fr : Fr) : Prop where
  p : fr.p = G.p
  hK : X.K = G.p.K
  hN : X.N = sc.N
  nd : sc.N.Nodup
  hs : X.env.scope = sc.scope
  kind : sc.scope.kind = .function
  mg : X.mg = G.mg
  base : X.base = G.base
  prog : X.prog = G.P
  w : X.w = G.w
  un : X.A.units + 200 < cLine
  calm : sc.hot = false → X.calm = true
  room : sc.hot = false → Room G.k X.A
  tk : Takes X fr.W
  md : ∀ i, fr.md i = sc.mdf i
  fn : sc.top = true ∨ sc.hot = true → X.fn = fun _ => true
  top : sc.top = true → sc.hot = false ∧ PassesOwn (model X.prog X.w) X.A X.env X.xe ∧ X.stack = X.env :: X.outer ∧ X.env.frame = some X.env.locals
  srt : sc.srt = true → ∃ c P, LamX.TabB X.base X.mg c P ∧ X.env.code = .ref c ∧ (P, X.env.qual ++ "<lambda>") ∈ fr.p.T ∧ ∀ p ∈ fr.p.T, p.1 = P → p.2 = X.env.qual ++ "<lambda>"
def Good (G : Glb) (sc : Sc) (X : Cx) (fr : Fr) (i : I) : Syn → Prop
  | .e x => PE X x (TV fr (vk fr.p.K (kdOf sc i)) (den G.exm G.cl i).v)
  | .t x => PT X x (TB fr (den G.exm G.cl i).b) ∧ ∀ op vs p, x = .BoolOp op vs p → PW X x (TB fr (den G.exm G.cl i).b)
  | .aA xs => PA X xs (TLg fr (lA fr.p.K) (den G.exm G.cl i).l)
  | .aZ xs => PA X xs (TLg fr (lZ fr.p.K) (den G.exm G.cl i).l)
  | .aM ms xs => PA X xs (TLg fr (lM fr.p.K ms) (den G.exm G.cl i).l)
  | .o x => PO X x (TO' fr (den G.exm G.cl i).o)
  | .i any tg x => PI X tg x (TIt fr any (den G.exm G.cl i).l)
  | .ts => (den G.exm G.cl i).b = yesB
  | .s x => PS X x (TSt fr (vk fr.p.K sc.rk) (den G.exm G.cl i).s)
  | .b xs => PSs X xs (TSt fr (vk fr.p.K sc.rk) (den G.exm G.cl i).s)
  | .h xs => HdsOk X xs (hdT fr (vk fr.p.K sc.rk) (den G.exm G.cl i).h)
section
variable {G : Glb} {sc : Sc} {X : Cx} {fr : Fr}
theorem nmOk_iff {x : Str} (h : nmOk x = true) : (x == ("__debug__" : Str)) = false ∧ (x == ("__classdict__" : Str)) = false ∧ x ≠ "__name__" := by
  unfold nmOk at h
  simp only [Bool.and_eq_true, Bool.not_eq_true'] at h
  exact ⟨h.1.1, h.1.2, fun e => by rw [e] at h; simp at h⟩
theorem Ctx.vis (c : Ctx G sc X fr) {x : Str} (h : sc.vis x = true) : Vis X.env.scope x := by
  rw [c.hs]
  unfold Sc.vis at h
  unfold Vis
  split at h <;> first | exact .inl (by assumption) | exact .inr (.inl (by assumption)) | exact .inr (.inr (by assumption)) | cases h
theorem Ctx.loc (c : Ctx G sc X fr) {x : Str} (h : sc.loc x = true) : L2.Loc X.env.scope x := by
  rw [c.hs]
  unfold Sc.loc at h
  unfold L2.Loc
  split at h <;> first | exact .inl (by assumption) | exact .inr (by assumption) | cases h
theorem Ctx.gl (c : Ctx G sc X fr) {x : Str} (h : sc.gl x = true) : Gl X x := by
  unfold Gl Env.kindOf
  rw [c.hs]
  unfold Sc.gl at h
  split at h <;> first | assumption | cases h
theorem Ctx.var (c : Ctx G sc X fr) {i : Nat} {x : Str} (h : sc.var i x = true) : X.N[i]? = some x ∧ Vis X.env.scope x ∧ (x == ("__debug__" : Str)) = false ∧ (x == ("__classdict__" : Str)) = false := by
  unfold Sc.var at h
  simp only [Bool.and_eq_true, decide_eq_true_eq] at h
  exact ⟨by rw [c.hN]; exact h.1.1, c.vis h.1.2, (nmOk_iff h.2).1, (nmOk_iff h.2).2.1⟩
theorem Ctx.blt (c : Ctx G sc X fr) {pg : Pg} (F : Facts G pg) {x y : Str} (hy : y ∈ bltNames) (h : sc.blt x y = true) : x = y ∧ Gl X x ∧ X.mg x = none ∧ x ≠ "__name__" ∧ (x == ("__debug__" : Str)) = false := by
  unfold Sc.blt at h
  simp only [Bool.and_eq_true, decide_eq_true_eq] at h
  obtain ⟨⟨rfl, h2⟩, h3⟩ := h
  exact ⟨rfl, c.gl h2, by rw [c.mg]; exact F.blt _ hy, (nmOk_iff h3).2.2, (nmOk_iff h3).1⟩
theorem Ctx.hK' (c : Ctx G sc X fr) : X.K = fr.p.K := by rw [c.p]; exact c.hK
theorem Bi.bi_ok {x : Str} {e : Expr} {es : List Expr} {p pos : Pos} {fs : En → M (List D)} (c : Ctx G sc X fr) (hh : sc.hot = false) (b : Bi) (hx : x = b.nm) (hg : Gl X x) (hm : X.mg x = none) (hn : x ≠ "__name__") (hdb : (x == ("__debug__" : Str)) = false)
    (ha : PA X (e :: es) (TLg fr (lA fr.p.K) fs)) (he : starEach (e :: es) X.env = (false, eval e X.env) :: starEach es X.env) (hpl : (backTo pos (starEach es X.env)).any (·.1) = false) :
    PE X (.Call (.Name x p) (e :: es) [] pos) (TV fr (vF fr.p.K) (evB b.sem fs)) := by
  subst hx
  have hc := c.calm hh
  cases b with
  | len => exact e_callB c.hK' o_len im_len hg hm rfl ha hn hdb he hpl
  | sum => exact e_callB c.hK' (cr_sum hc) im_sum hg hm rfl ha hn hdb he hpl
  | max => exact e_callB c.hK' (o_max hc) (im_mm true) hg hm rfl ha hn hdb he hpl
  | min => exact e_callB c.hK' (o_min hc) (im_mm false) hg hm rfl ha hn hdb he hpl
  | list => exact e_callTy c.hK' call_list_of im_list hg hm rfl ha hn hdb he hpl
  | tuple => exact e_callTy c.hK' call_tuple_of im_tuple hg hm rfl ha hn hdb he hpl
  | int => exact e_callTy c.hK' call_int1 im_int1 hg hm rfl ha hn hdb he hpl
  | sorted => exact e_callB c.hK' o_sorted im_sorted hg hm rfl ha hn hdb he hpl
  | str => exact e_callTy c.hK' call_str_int im_str1 hg hm rfl ha hn hdb he hpl

theorem Ctx.blk (c : Ctx G sc X fr) (hh : sc.hot = false) {scope : Scope} (hk : scope.kind = .function) (s : Shared) (H : Hp) (C : Addr) (cl : List (Str × Addr)) (fp : List Addr) : Ctx G (sc.blk scope) (X.blk s H scope (compEnvC scope cl C X.env) fp) fr.still where
  p := c.p
  hK := c.hK
  hN := c.hN
  nd := c.nd
  hs := by
    show relS scope X.env.scope = relS scope sc.scope
    rw [c.hs]
  kind := hk
  mg := c.mg
  base := c.base
  prog := c.prog
  w := c.w
  un := c.un
  calm := fun _ => c.calm hh
  room := fun _ => c.room hh
  tk := takes_none5
  md := c.md
  fn := fun z => by
    rcases z with z | z
    · cases z
    · rw [show (sc.blk scope).hot = sc.hot from rfl, hh] at z; cases z
  top := fun z => by cases z
  srt := fun z => by cases z
theorem Ctx.tr (c : Ctx G sc X fr) (hh : sc.top = true) (W : WX) (pn : List (Addr × Obj)) (xe : Value → Shared → Prop) (tk : Takes (X.tr pn xe) W) (po : PassesOwn (model X.prog X.w) X.A X.env xe) : Ctx G sc (X.tr pn xe) (fr.wish W) where
  p := c.p
  hK := c.hK
  hN := c.hN
  nd := c.nd
  hs := c.hs
  kind := c.kind
  mg := c.mg
  base := c.base
  prog := c.prog
  w := c.w
  un := c.un
  calm := c.calm
  room := c.room
  tk := tk
  md := c.md
  fn := c.fn
  top := fun z => ⟨(c.top z).1, po, (c.top z).2.2⟩
  srt := c.srt
theorem Ctx.suite (c : Ctx G sc X fr) (hh : sc.top = true) (a : Addr) (pn : List (Addr × Obj)) : Ctx G sc.suite (X.suite a pn) fr.still where
  p := c.p
  hK := c.hK
  hN := c.hN
  nd := c.nd
  hs := c.hs
  kind := c.kind
  mg := c.mg
  base := c.base
  prog := c.prog
  w := c.w
  un := c.un
  calm := fun z => by cases z
  room := fun z => by cases z
  tk := takes_none5
  md := c.md
  fn := fun _ => c.fn (.inl hh)
  top := fun z => by cases z
  srt := fun z => by cases z
theorem tg_one {fn : Str → Bool} (c : Ctx G sc X fr) (hfn : ∀ x, fn x = true → X.fn x = true) {i : Nat} {x : Str} {p : Pos}
    (h : (decide (sc.N[i]? = some x) && (decide (sc.scope.names.lookup x = some .local) || (decide (sc.scope.names.lookup x = some .cell) && fn x)) && decide (sc.mdf i = .frz)) = true) : PG X (.Name x p) (gName i) ∧ fr.md i = .frz := by
  simp only [Bool.and_eq_true, Bool.or_eq_true, decide_eq_true_eq] at h
  obtain ⟨⟨h1, h2⟩, h3⟩ := h
  refine ⟨pg_name (by rw [c.hN]; exact c.nd) (by rw [c.hN]; exact h1) ?_ ?_, by rw [c.md]; exact h3⟩
  · unfold L2.Loc
    rw [c.hs]
    exact h2.imp id fun z => z.1
  · rw [c.hs]
    exact h2.elim .inr fun z => .inl (hfn x z.2)
theorem tgs_ok {fn : Str → Bool} (c : Ctx G sc X fr) (hfn : ∀ x, fn x = true → X.fn x = true) : ∀ {is : List Nat} {es : List Expr}, is.length = es.length → ((is.zip es).all fun q => match q.2 with
    | .Name x _ => decide (sc.N[q.1]? = some x) && (decide (sc.scope.names.lookup x = some .local) || (decide (sc.scope.names.lookup x = some .cell) && fn x)) && decide (sc.mdf q.1 = .frz)
    | _ => false) = true → PGs X es (gNames is) ∧ (∀ i ∈ is, fr.md i = .frz) ∧ (assignEach es X.env).length = is.length ∧ (assignEach es X.env).findIdx? (·.1) = none
  | [], [], _, _ => ⟨pgs_nil, (fun i hi => by cases hi), rfl, rfl⟩
  | i :: is, e :: es, hl, h => by
    rw [List.zip_cons_cons, List.all_cons, Bool.and_eq_true] at h
    obtain ⟨h1, h2⟩ := h
    obtain ⟨q1, q2, q3, q4⟩ := tgs_ok c hfn (Nat.succ.inj hl) h2
    cases e with
    | Name x p =>
      obtain ⟨a1, a2⟩ := tg_one (p := p) c hfn h1
      refine ⟨pgs_cons a1 q1 rfl, fun j hj => ?_, ?_, ?_⟩
      · rcases List.mem_cons.mp hj with z | z
        · rw [z]; exact a2
        · exact q2 j z
      · show (assignEach es X.env).length + 1 = _
        rw [q3]
        rfl
      · show ((false, assign (.Name x p) X.env) :: assignEach es X.env).findIdx? (·.1) = none
        rw [List.findIdx?_cons, q4]
        rfl
    | _ => exact Bool.noConfusion (show false = true from h1)
  | [], _ :: _, hl, _ => by cases hl
  | _ :: _, [], hl, _ => by cases hl
theorem tg_ok {fn : Str → Bool} (c : Ctx G sc X fr) (hc : X.calm = true) (hfn : ∀ x, fn x = true → X.fn x = true) {t : Tg} {e : Expr} (h : tgB sc fn t e = true) : ∃ g, PG X e g ∧ TgOk fr g t := by
  unfold tgB at h
  split at h
  · obtain ⟨h1, h2⟩ := tg_one (p := by assumption) c hfn h
    exact ⟨_, h1, tg_nm h2⟩
  · rw [Bool.and_eq_true, decide_eq_true_eq] at h
    obtain ⟨q1, q2, q3, q4⟩ := tgs_ok c hfn h.1 h.2
    refine ⟨_, pg_tup hc q1 q3 q4, ?_⟩
    rw [c.hK']
    exact tg_tp q2
  · obtain ⟨h1, h2⟩ := Bool.and_eq_true_iff.mp h
    obtain ⟨h3, h4⟩ := Bool.and_eq_true_iff.mp h2
    have a1 := fun p => (tg_one (p := p) c hfn h1).1
    have a2 := (tg_one (p := ⟨0, 0, 0, 0⟩) c hfn h1).2
    obtain ⟨q1, q2, q3, q4⟩ := tgs_ok c hfn (of_decide_eq_true h3) h4
    refine ⟨_, pg_tup (n := 2) hc (pgs_cons (a1 _) (pgs_cons (pg_tup hc q1 q3 q4) pgs_nil rfl) rfl) rfl rfl, ?_⟩
    rw [c.hK']
    exact tg_tn a2 q2
  · cases h
end
end PF

namespace PF
open PySem L2
theorem ret_own {X : Cx} {fr : Fr} {st : Stmt} {f : En → M D} (k : Nat) (h : PS X st (TSt fr (vF fr.p.K) (retS f))) : PS X st (TSt fr (vk fr.p.K k) (retS f)) := ps_weak h fun Dn s H ⟨rho, g, m, r, w⟩ => ⟨rho, g, m, r, by
  unfold retS exS at *
  cases q : f rho m with
  | ok d m' =>
    rw [q] at w
    intro v g' H' e o z
    match k with
    | 0 => exact w v g' H' e o z
    | 1 =>
      obtain ⟨g2, o2, e2, z2⟩ := RepF.frz o e z
      exact w v g2 H' e2 o2 z2
    | _ + 2 => exact w v g' H' e o (RepF.any z)
  | exc c m' => rw [q] at w; exact w
  | bad => rw [q] at w; exact w⟩
theorem comp_static {G : Glb} {sc : Sc} {X : Cx} {fr : Fr} (c : Ctx G sc X fr) (hh : sc.hot = false) {scope : Scope} {vs : List Nat} {t : Tg} {tg : Expr} (h2 : blkC sc.N sc.scope scope (ownOf sc vs) = true) (h3 : tgB (sc.blk scope) (fun x => scope.names.lookup x == some .cell) t tg = true) :
    BlkOk X.N X.env.scope scope (ownOf sc vs) ∧ (ownOf sc vs).map (·.2) = vs ∧ scope.kind = .function ∧ ∃ g, TgOk fr.still g t ∧ ∀ (s : Shared) (H : Hp) (C : Addr) (cl : List (Str × Addr)) (fp : List Addr), PG (X.blk s H scope (compEnvC scope cl C X.env) fp) tg g := by
  have b := blkOk_by h2
  refine ⟨by rw [c.hN, c.hs]; exact b, ?_, b.kind, ?_⟩
  · unfold ownOf
    rw [List.map_map]
    exact List.map_id _
  · have key : ∀ (s : Shared) (H : Hp) (C : Addr) (cl : List (Str × Addr)) (fp : List Addr), ∃ g, PG (X.blk s H scope (compEnvC scope cl C X.env) fp) tg g ∧ TgOk fr.still g t := fun s H C cl fp => tg_ok (c.blk hh b.kind s H C cl fp) (c.calm hh) (fun x z => z) h3
    unfold tgB at h3
    split at h3
    · refine ⟨_, tg_nm (by simp only [Bool.and_eq_true, decide_eq_true_eq] at h3; rw [c.md]; exact h3.2), fun s H C cl fp => (tg_one (c.blk hh b.kind s H C cl fp) (fun x z => z) h3).1⟩
    · rw [Bool.and_eq_true, decide_eq_true_eq] at h3
      refine ⟨gTup fr.p.K _ (gNames _), tg_tp ?_, fun s H C cl fp => ?_⟩
      · exact (tgs_ok (c.blk hh b.kind X.s_0 X.H_0 0 [] []) (fun x z => z) h3.1 h3.2).2.1
      · obtain ⟨q1, q2, q3, q4⟩ := tgs_ok (c.blk hh b.kind s H C cl fp) (fun x z => z) h3.1 h3.2
        rw [← c.hK']
        exact pg_tup (c.calm hh) q1 q3 q4
    · obtain ⟨k1, k2⟩ := Bool.and_eq_true_iff.mp h3
      obtain ⟨k3, k4⟩ := Bool.and_eq_true_iff.mp k2
      have k3 := of_decide_eq_true k3
      refine ⟨gTup fr.p.K 2 (gCons (gName _) (gCons (gTup fr.p.K _ (gNames _)) gNil)), tg_tn (by have h0 := k1; simp only [Bool.and_eq_true, decide_eq_true_eq] at h0; rw [c.md]; exact h0.2) ?_, fun s H C cl fp => ?_⟩
      · exact (tgs_ok (c.blk hh b.kind X.s_0 X.H_0 0 [] []) (fun x z => z) k3 k4).2.1
      · obtain ⟨q1, q2, q3, q4⟩ := tgs_ok (c.blk hh b.kind s H C cl fp) (fun x z => z) k3 k4
        have a1 := fun p => (tg_one (p := p) (c.blk hh b.kind s H C cl fp) (fun x z => z) k1).1
        rw [← c.hK']
        exact pg_tup (X := X.blk s H scope (compEnvC scope cl C X.env) fp) (n := 2) (c.calm hh) (pgs_cons (a1 _) (pgs_cons (pg_tup (X := X.blk s H scope (compEnvC scope cl C X.env) fp) (c.calm hh) q1 q3 q4) pgs_nil rfl) rfl) rfl rfl
    · cases h3

theorem sw_any {G : Glb} {sc : Sc} {X : Cx} {fr : Fr} (c : Ctx G sc X fr) {a : Expr} {gs : List Comprehension} {scope : Scope} {q p : Pos} {x : Str} {l : Nat} : swapsWith (.ListComp a gs scope q) (some (.Name x p)) l X.env = pure (swB sc scope x (p.line == q.line)) := by
  have e1 : X.env.blockKind = .function := by
    unfold Env.blockKind
    rw [c.hs, c.kind]
    rfl
  have e2 : X.env.kindOf x = sc.scope.names.lookup x := by
    unfold Env.kindOf
    rw [c.hs]
  show (pure (X.env.blockKind == .function && X.env.kindOf x == some .local && p.line == q.line && !(scope.names.any fun (n, k) => n == x && (k == .local || k == .cell))) : Sem Bool) = _
  rw [e1, e2]
  unfold swB
  congr 1
  cases h : sc.scope.names.lookup x with
  | none => rfl
  | some k => cases k <;> rfl
theorem sw_eq {G : Glb} {sc : Sc} {X : Cx} {fr : Fr} (c : Ctx G sc X fr) {a : Expr} {gs : List Comprehension} {scope : Scope} {q p : Pos} {x : Str} {l : Nat} (h : (!swB sc scope x (p.line == q.line)) = true) : swapsWith (.ListComp a gs scope q) (some (.Name x p)) l X.env = pure false := by
  rw [sw_any c]
  rw [Bool.not_eq_true'] at h
  rw [h]
theorem sw_eqT {G : Glb} {sc : Sc} {X : Cx} {fr : Fr} (c : Ctx G sc X fr) {a : Expr} {gs : List Comprehension} {scope : Scope} {q p : Pos} {x : Str} {l : Nat} (h : swB sc scope x (p.line == q.line) = true) : swapsWith (.ListComp a gs scope q) (some (.Name x p)) l X.env = pure true := by
  rw [sw_any c, h]
theorem sound {G : Glb} {pg : Pg} (F : Facts G pg) : ∀ (i : I) (sc : Sc) (X : Cx) (fr : Fr) (y : Syn), sc.pg = pg → Ctx G sc X fr → m i sc y = true → Good G sc X fr i y := by
  intro i
  induction i with
  | var i =>
    intro sc X fr y hp c h
    simp only [m] at h
    split at h
    · obtain ⟨h1, h2, h3, h4⟩ := c.var h
      show PE _ _ (TV fr (vk fr.p.K (if sc.mdf i = .frz then 1 else 2)) (evVar i))
      split
      · exact e_varZ (by rw [c.md]; assumption) h1 h2 h3 h4
      · exact e_var h1 h2 h3 h4
    · cases h
  | int n =>
    intro sc X fr y hp c h
    simp only [m] at h
    split at h
    · rw [decide_eq_true_eq] at h
      subst h
      exact e_int
    · cases h
  | bl n =>
    intro sc X fr y hp c h
    simp only [m] at h
    split at h
    · rw [decide_eq_true_eq] at h
      subst h
      exact e_bl
    · cases h
  | str n =>
    intro sc X fr y hp c h
    simp only [m] at h
    split at h
    · rw [decide_eq_true_eq] at h
      subst h
      exact e_str
    · cases h
  | non =>
    intro sc X fr y hp c h
    simp only [m] at h
    split at h
    · exact e_non
    · cases h
  | gint z n =>
    intro sc X fr y hp c h
    simp only [m] at h
    split at h
    · simp only [Bool.and_eq_true, decide_eq_true_eq] at h
      obtain ⟨⟨⟨rfl, h2⟩, h3⟩, h4⟩ := h
      obtain ⟨t, ht⟩ := F.gi _ (by rw [← hp]; exact h4)
      exact e_gint (c.gl h2) (by rw [c.mg]; exact ht) (nmOk_iff h3).1
    · cases h
  | bin o a b iha ihb =>
    intro sc X fr y hp c h
    simp only [m] at h
    split at h
    · simp only [Bool.and_eq_true, decide_eq_true_eq] at h
      obtain ⟨⟨rfl, h2⟩, h3⟩ := h
      obtain ⟨r, r1, r2⟩ := Bop.ok (X := X) o
      exact e_bin c.hK' r1 r2 (upA (iha sc X fr _ hp c h2)) (upA (ihb sc X fr _ hp c h3))
    · cases h
  | neg a iha =>
    intro sc X fr y hp c h
    simp only [m] at h
    split at h
    · exact e_neg (upA (iha sc X fr _ hp c h))
    · cases h
  | not a iha =>
    intro sc X fr y hp c h
    simp only [m] at h
    split at h
    · exact e_not c.hK' (upA (iha sc X fr _ hp c h))
    · cases h
  | cmp o a b iha ihb =>
    intro sc X fr y hp c h
    simp only [m] at h
    split at h
    · simp only [Bool.and_eq_true, decide_eq_true_eq] at h
      obtain ⟨⟨⟨rfl, h1⟩, h2⟩, h3⟩ := h
      obtain ⟨r, r1, r2⟩ := Cop.ok (X := X) (by have := c.un; omega) o
      exact e_cmp c.hK' r1 r2 (upA (iha sc X fr _ hp c h2)) (upA (ihb sc X fr _ hp c h3)) (marks_eq h1)
    · cases h
  | chain o p a b d iha ihb ihd =>
    intro sc X fr y hp c h
    simp only [m] at h
    split at h
    · simp only [Bool.and_eq_true, decide_eq_true_eq] at h
      obtain ⟨⟨⟨⟨⟨⟨rfl, rfl⟩, h1⟩, h2⟩, h3⟩, h4⟩, h5⟩ := h
      obtain ⟨r, r1, r2⟩ := Cop.ok (X := X) (by have := c.un; omega) o
      obtain ⟨r', r1', r2'⟩ := Cop.ok (X := X) (by have := c.un; omega) p
      exact e_chain c.hK' r1 r1' r2 r2' (upA (iha sc X fr _ hp c h3)) (upA (ihb sc X fr _ hp c h4)) (upA (ihd sc X fr _ hp c h5)) (marks_eq h2)
    · cases h
  | and a b iha ihb =>
    intro sc X fr y hp c h
    simp only [m] at h
    split at h
    · simp only [Bool.and_eq_true] at h
      exact e_and (kK _ _) (upA (iha sc X fr _ hp c h.1)) (pe_one (ihb sc X fr _ hp c h.2))
    · simp only [Bool.and_eq_true] at h
      exact e_and (kK _ _) (upA (iha sc X fr _ hp c h.1)) (ihb sc X fr _ hp c h.2)
    · cases h
  | or a b iha ihb =>
    intro sc X fr y hp c h
    simp only [m] at h
    split at h
    · simp only [Bool.and_eq_true] at h
      exact e_or (kK _ _) (upA (iha sc X fr _ hp c h.1)) (pe_one (ihb sc X fr _ hp c h.2))
    · simp only [Bool.and_eq_true] at h
      exact e_or (kK _ _) (upA (iha sc X fr _ hp c h.1)) (ihb sc X fr _ hp c h.2)
    · cases h
  | ife t a b iht iha ihb =>
    intro sc X fr y hp c h
    simp only [m] at h
    split at h
    · simp only [Bool.and_eq_true] at h
      exact e_if (kK _ _) (iht sc X fr _ hp c h.1.1).1 (up (Nat.le_max_left _ _) (iha sc X fr _ hp c h.1.2)) (up (Nat.le_max_right _ _) (ihb sc X fr _ hp c h.2))
    · cases h
  | tup a iha =>
    intro sc X fr y hp c h
    simp only [m] at h
    split at h
    · exact e_tup (iha sc X fr _ hp c h)
    · cases h
  | lst a iha =>
    intro sc X fr y hp c h
    simp only [m] at h
    split at h
    · exact e_lst (iha sc X fr _ hp c h)
    · cases h
  | ix a b iha ihb =>
    intro sc X fr y hp c h
    simp only [m] at h
    split at h
    · simp only [Bool.and_eq_true] at h
      exact e_ix c.hK' (upA (iha sc X fr _ hp c h.1.2)) (upA (ihb sc X fr _ hp c h.2)) (plainIx_eq h.1.1)
    · cases h
  | sl a lo hi iha ihl ihh =>
    intro sc X fr y hp c h
    simp only [m] at h
    split at h
    · simp only [Bool.and_eq_true] at h
      exact e_sl c.hK' (upA (iha sc X fr _ hp c h.1.1)) (ihl sc X fr _ hp c h.1.2) (ihh sc X fr _ hp c h.2)
    · cases h
  | hole =>
    intro sc X fr y hp c h
    simp only [m] at h
    split at h
    · exact p_none
    · exact rfl
    · cases h
  | prt a iha =>
    intro sc X fr y hp c h
    simp only [m] at h
    split at h
    · exact p_some (upA (iha sc X fr _ hp c h))
    · cases h
  | call j a iha =>
    intro sc X fr y hp c h
    simp only [m] at h
    split at h
    · simp only [Bool.and_eq_true, Bool.not_eq_true'] at h
      obtain ⟨⟨⟨⟨h0, h1⟩, h2⟩, h3⟩, h4⟩ := h
      split at h4
      · rename_i f hf
        simp only [Bool.and_eq_true, decide_eq_true_eq] at h4
        obtain ⟨rfl, h5⟩ := h4
        obtain ⟨ad, fd, e1, e2, e3, e4⟩ := F.fn j f (by rw [← hp]; exact hf)
        have hk : kdOf sc (.call j a) = f.kd := by
          show ((sc.pg.fns[j]?).map (·.kd)).getD 2 = _
          rw [hf]
          rfl
        show PE _ _ (TV fr (vk fr.p.K (kdOf sc (.call j a))) _)
        rw [hk]
        have ca := List.all_cons ▸ h3
        rw [Bool.and_eq_true] at ca
        refine e_call (kK _ _) ?_ (c.room h0) (c.gl h1) (by rw [c.mg]; exact e1) (by rw [c.hK]; exact e2) (by rw [c.hK]; exact e3) c.tk (iha sc X fr _ hp c h5) (nmOk_iff h2).1 (star_eq ca.1) (back_any ca.2)
        rw [c.prog, c.w, c.hK, c.mg, c.base, c.p]
        exact e4
      · cases h4
    · cases h
  | call0 j =>
    intro sc X fr y hp c h
    simp only [m] at h
    split at h
    · simp only [Bool.and_eq_true, Bool.not_eq_true'] at h
      obtain ⟨⟨⟨h0, h1⟩, h2⟩, h4⟩ := h
      split at h4
      · rename_i f hf
        simp only [Bool.and_eq_true, decide_eq_true_eq] at h4
        obtain ⟨rfl, h5⟩ := h4
        obtain ⟨ad, fd, e1, e2, e3, e4⟩ := F.fn j f (by rw [← hp]; exact hf)
        have hk : kdOf sc (.call0 j) = f.kd := by
          show ((sc.pg.fns[j]?).map (·.kd)).getD 2 = _
          rw [hf]
          rfl
        show PE _ _ (TV fr (vk fr.p.K (kdOf sc (.call0 j))) _)
        rw [hk]
        rw [h5] at e4
        refine e_call0 (kK _ _) ?_ (c.room h0) (c.gl h1) (by rw [c.mg]; exact e1) (by rw [c.hK]; exact e2) (by rw [c.hK]; exact e3) (nmOk_iff h2).1
        rw [c.prog, c.w, c.hK, c.mg, c.base, c.p]
        exact e4
      · cases h4
    · cases h
  | bi b a iha =>
    intro sc X fr y hp c h
    simp only [m] at h
    split at h
    · simp only [Bool.and_eq_true, Bool.not_eq_true'] at h
      obtain ⟨⟨⟨h0, h1⟩, h3⟩, h4⟩ := h
      obtain ⟨rfl, e2, e3, e4, e5⟩ := c.blt F (by cases b <;> decide) h1
      have ca := List.all_cons ▸ h3
      rw [Bool.and_eq_true] at ca
      exact Bi.bi_ok c h0 b rfl e2 e3 e4 e5 (iha sc X fr _ hp c h4) (star_eq ca.1) (back_any ca.2)
    · cases h
  | isi t a iha =>
    intro sc X fr y hp c h
    simp only [m] at h
    split at h
    · simp only [Bool.and_eq_true, decide_eq_true_eq] at h
      obtain ⟨⟨⟨⟨⟨⟨h0, h1⟩, h2⟩, h3⟩, rfl⟩, h5⟩, h6⟩ := h
      obtain ⟨rfl, e2, e3, e4, e5⟩ := c.blt F (by decide) h0
      have q := nmOk_iff h2
      refine e_isi c.hK' ?_ e2 e3 rfl e4 e5 (c.gl h1) ?_ ?_ q.2.2 q.1 (upA (iha sc X fr _ hp c h6)) (star_eq h3)
      · cases t <;> first | exact absurd rfl h5 | decide
      · rw [c.mg]
        exact F.blt _ (by cases t <;> first | exact absurd rfl h5 | decide)
      · cases t <;> first | exact absurd rfl h5 | rfl
    · cases h
  | lrng a iha =>
    intro sc X fr y hp c h
    simp only [m] at h
    split at h
    · simp only [Bool.and_eq_true, Bool.not_eq_true'] at h
      obtain ⟨⟨⟨⟨h0, h1⟩, h2⟩, h3⟩, h4⟩ := h
      obtain ⟨rfl, e2, e3, e4, e5⟩ := c.blt F (by decide) h1
      obtain ⟨rfl, e2', e3', e4', e5'⟩ := c.blt F (by decide) h2
      exact e_lrng (c.calm h0) e2 e3 e2' e3' (upA (iha sc X fr _ hp c h4)) (star_eq h3)
    · cases h
  | comp it t b f vs iht ihb ihf =>
    intro sc X fr y hp c h
    simp only [m] at h
    split at h
    · rename_i elt tg iter ifs scope pos
      simp only [Bool.and_eq_true, Bool.not_eq_true', decide_eq_true_eq] at h
      obtain ⟨⟨⟨⟨⟨⟨⟨⟨h0, h1⟩, h2⟩, h3⟩, h4⟩, h5⟩, h6⟩, h7⟩, h8⟩ := h
      obtain ⟨q1, q2, q3, g, q4, q5⟩ := comp_static c h0 h3 h4
      have ht : ∀ (s : Shared) (H : Hp) (C : Addr) (cl : List (Str × Addr)) (fp : List Addr), PTs (X.blk s H scope (compEnvC scope cl C X.env) fp) ifs (TB fr.still (den G.exm G.cl b).b) := fun s H C cl fp => by
        split at h6
        · have e : (den G.exm G.cl b).b = yesB := ihb (sc.blk _) _ _ _ hp (c.blk h0 q3 s H C cl fp) h6
          rw [e]
          exact ts_nil
        · exact pts_one (ihb (sc.blk _) _ _ _ hp (c.blk h0 q3 s H C cl fp) h6).1
        · cases h6
      have z := e_comp (pos := pos) (c.calm h0) (by rw [c.hN]; exact c.nd) (iht sc X fr _ hp c h2) q1 q4 (by rw [q2]; exact h5) q5 ht (fun s H C cl fp => upZ h8 (ihf (sc.blk _) _ _ _ hp (c.blk h0 q3 s H C cl fp) h7)) (folded_eq h1)
      rw [q2] at z
      exact z
    · cases h
  | srt a b d e =>
    intro sc X fr y hp c h
    simp only [m] at h
    split at h
    · rename_i x
      unfold lamB at h
      split at h
      · simp only [Bool.and_eq_true, Bool.not_eq_true', decide_eq_true_eq] at h
        obtain ⟨⟨⟨⟨⟨⟨⟨⟨⟨⟨⟨⟨⟨h0, h1⟩, h2⟩, h3⟩, rfl⟩, h5⟩, h6⟩, h7⟩, h8⟩, h9⟩, h10⟩, h11⟩, h12⟩, h13⟩ := h
        obtain ⟨rfl, e2, e3, e4, e5⟩ := c.blt F (by decide) h2
        obtain ⟨v1, v2, v3, v4⟩ := c.var h3
        obtain ⟨cc, PP, t1, t2, t3, t4⟩ := c.srt h0
        split at h11
        · rw [decide_eq_true_eq] at h11
          subst h11
          split at h12
          · simp only [Bool.and_eq_true, decide_eq_true_eq] at h12
            obtain ⟨⟨⟨rfl, rfl⟩, rfl⟩, rfl⟩ := h12
            split at h13
            · simp only [Bool.and_eq_true, decide_eq_true_eq] at h13
              obtain ⟨⟨⟨⟨rfl, rfl⟩, rfl⟩, rfl⟩, rfl⟩ := h13
              exact e_sort (p := ⟨_, _, _, _, _, _, _, _, _, _⟩) c.hK' e2 e3 t1 t2 t3 t4 (c.room h1) v1 v2 v3 v4 (by rw [c.hN]; exact h5) (by rw [c.hN]; exact h6) (by rw [c.hN]; exact h7) (by rw [c.hs]; exact h8) (by rw [c.hs]; exact h9) (by rw [c.hs]; exact h10) rfl rfl
            · cases h13
          · cases h12
        · cases h11
      · cases h
    · cases h
  | nil =>
    intro sc X fr y hp c h
    simp only [m] at h
    split at h
    · exact a_nil (P := lA fr.p.K) fun _ _ => Paired.nil
    · exact a_nil (P := lZ fr.p.K) fun _ _ => RepL.nil
    · exact a_nilM
    · exact b_nil
    · exact HdsOk.nil
    · cases h
  | cons a as iha ihs =>
    intro sc X fr y hp c h
    simp only [m] at h
    split at h
    · simp only [Bool.and_eq_true] at h
      exact a_consA (upA (iha sc X fr _ hp c h.1.2)) (ihs sc X fr _ hp c h.2) (star_eq h.1.1)
    · simp only [Bool.and_eq_true, decide_eq_true_eq] at h
      exact a_consZ (upZ h.1.2 (iha sc X fr _ hp c h.1.1.2)) (ihs sc X fr _ hp c h.2) (star_eq h.1.1.1)
    · simp only [Bool.and_eq_true] at h
      obtain ⟨⟨⟨h1, h2⟩, h3⟩, h4⟩ := h
      split at h3
      · rw [decide_eq_true_eq] at h3
        exact a_consMZ (upZ h3 (iha sc X fr _ hp c h2)) (ihs sc X fr _ hp c h4) (star_eq h1)
      · exact a_consMA (upA (iha sc X fr _ hp c h2)) (ihs sc X fr _ hp c h4) (star_eq h1)
      · cases h3
    · simp only [Bool.and_eq_true] at h
      exact b_cons (iha sc X fr _ hp c h.1) (ihs sc X fr _ hp c h.2)
    · cases h
  | tst a iha =>
    intro sc X fr y hp c h
    simp only [m] at h
    split at h
    · simp only [Bool.and_eq_true] at h
      refine ⟨t_truth c.hK' (upA (iha sc X fr _ hp c h.2)) (tru_eq h.1), fun op vs p e => ?_⟩
      rw [e] at h
      exact Bool.noConfusion (show false = true from h.1)
    · cases h
  | tcmp o a b iha ihb =>
    intro sc X fr y hp c h
    simp only [m] at h
    split at h
    · simp only [Bool.and_eq_true, decide_eq_true_eq] at h
      obtain ⟨⟨⟨rfl, h1⟩, h2⟩, h3⟩ := h
      obtain ⟨r, r1, r2⟩ := Cop.ok (X := X) (by have := c.un; omega) o
      exact ⟨t_cmp c.hK' r1 r2 (upA (iha sc X fr _ hp c h2)) (upA (ihb sc X fr _ hp c h3)) (marks_eq h1), fun op vs p e => by cases e⟩
    · cases h
  | tchn o p a b d iha ihb ihd =>
    intro sc X fr y hp c h
    simp only [m] at h
    split at h
    · simp only [Bool.and_eq_true, decide_eq_true_eq] at h
      obtain ⟨⟨⟨⟨⟨⟨rfl, rfl⟩, h1⟩, h2⟩, h3⟩, h4⟩, h5⟩ := h
      obtain ⟨r, r1, r2⟩ := Cop.ok (X := X) (by have := c.un; omega) o
      obtain ⟨r', r1', r2'⟩ := Cop.ok (X := X) (by have := c.un; omega) p
      exact ⟨t_chain c.hK' r1 r1' r2 r2' (upA (iha sc X fr _ hp c h3)) (upA (ihb sc X fr _ hp c h4)) (upA (ihd sc X fr _ hp c h5)) (marks_eq h2), fun op vs p e => by cases e⟩
    · cases h
  | tnot a iha =>
    intro sc X fr y hp c h
    simp only [m] at h
    split at h
    · exact ⟨t_not (iha sc X fr _ hp c h).1, fun op vs p e => by cases e⟩
    · cases h
  | tand a b iha ihb =>
    intro sc X fr y hp c h
    simp only [m] at h
    split at h
    · simp only [Bool.and_eq_true] at h
      have z := t_and (iha sc X fr _ hp c h.1).1 (pw_and1 (pos := by assumption) (ihb sc X fr _ hp c h.2).1)
      exact ⟨z.pt, fun _ _ _ _ => z⟩
    · simp only [Bool.and_eq_true] at h
      have z := t_and (iha sc X fr _ hp c h.1).1 ((ihb sc X fr _ hp c h.2).2 _ _ _ rfl)
      exact ⟨z.pt, fun _ _ _ _ => z⟩
    · cases h
  | tor a b iha ihb =>
    intro sc X fr y hp c h
    simp only [m] at h
    split at h
    · simp only [Bool.and_eq_true] at h
      have z := t_or (iha sc X fr _ hp c h.1).1 (pw_or1 (pos := by assumption) (ihb sc X fr _ hp c h.2).1)
      exact ⟨z.pt, fun _ _ _ _ => z⟩
    · simp only [Bool.and_eq_true] at h
      have z := t_or (iha sc X fr _ hp c h.1).1 ((ihb sc X fr _ hp c h.2).2 _ _ _ rfl)
      exact ⟨z.pt, fun _ _ _ _ => z⟩
    · cases h
  | iseq a iha =>
    intro sc X fr y hp c h
    simp only [m] at h
    split at h
    · simp only [Bool.and_eq_true, Bool.or_eq_true, decide_eq_true_eq] at h
      rcases h.2 with z | z
      · subst z
        exact i_seqA c.hK' (upA (iha sc X fr _ hp c h.1))
      · exact i_seqZ c.hK' (upZ z (iha sc X fr _ hp c h.1))
    · cases h
  | irng1 a iha =>
    intro sc X fr y hp c h
    simp only [m] at h
    split at h
    · simp only [Bool.and_eq_true] at h
      obtain ⟨⟨h1, h2⟩, h3⟩ := h
      obtain ⟨rfl, e2, e3, e4, e5⟩ := c.blt F (by decide) h1
      exact i_rng1 e2 e3 (iha sc X fr _ hp c h3) (star_eq h2)
    · cases h
  | irng2 a iha =>
    intro sc X fr y hp c h
    simp only [m] at h
    split at h
    · simp only [Bool.and_eq_true] at h
      obtain ⟨⟨⟨h1, h2⟩, h2'⟩, h3⟩ := h
      obtain ⟨rfl, e2, e3, e4, e5⟩ := c.blt F (by decide) h1
      exact i_rng2 e2 e3 (iha sc X fr _ hp c h3) (by rw [star_eq h2, star_eq h2']; rfl) (star_eq h2')
    · cases h
  | ienm a iha =>
    intro sc X fr y hp c h
    simp only [m] at h
    split at h
    · simp only [Bool.and_eq_true] at h
      obtain ⟨⟨h1, h2⟩, h3⟩ := h
      obtain ⟨rfl, e2, e3, e4, e5⟩ := c.blt F (by decide) h1
      split at h3
      · rename_i hany
        rw [hany]
        exact i_enumA c.hK' e2 e3 (iha sc X fr _ hp c h3) (star_eq h2)
      · exact i_enumZ c.hK' e2 e3 (iha sc X fr _ hp c h3) (star_eq h2)
    · cases h
  | izip a iha =>
    intro sc X fr y hp c h
    simp only [m] at h
    split at h
    · simp only [Bool.and_eq_true] at h
      obtain ⟨⟨⟨h1, h2⟩, h2'⟩, h3⟩ := h
      obtain ⟨rfl, e2, e3, e4, e5⟩ := c.blt F (by decide) h1
      split at h3
      · rename_i hany
        rw [hany]
        exact i_zipA c.hK' e2 e3 (iha sc X fr _ hp c h3) (star_eq h2) (back_any (by simp [h2']))
      · exact i_zipZ c.hK' e2 e3 (iha sc X fr _ hp c h3) (star_eq h2) (back_any (by simp [h2']))
    · cases h
  | pass =>
    intro sc X fr y hp c h
    simp only [m] at h
    split at h
    · exact s_pass
    · cases h
  | brk =>
    intro sc X fr y hp c h
    simp only [m] at h
    split at h
    · exact s_break
    · cases h
  | cnt =>
    intro sc X fr y hp c h
    simp only [m] at h
    split at h
    · exact s_continue
    · cases h
  | expr a iha =>
    intro sc X fr y hp c h
    simp only [m] at h
    split at h
    · simp only [Bool.and_eq_true] at h
      exact s_expr (upA (iha sc X fr _ hp c h.2)) (swaps_eq h.1)
    · cases h
  | set i a iha =>
    intro sc X fr y hp c h
    simp only [m] at h
    split at h
    · rename_i x p e pos
      simp only [Bool.and_eq_true, Bool.or_eq_true, decide_eq_true_eq] at h
      obtain ⟨⟨⟨⟨⟨h0, h1⟩, h2⟩, h3⟩, h4⟩, h5⟩ := h
      have hN : X.N.Nodup := by rw [c.hN]; exact c.nd
      have hi : X.N[i]? = some x := by rw [c.hN]; exact h1
      have hf : X.fn x = true := by rw [c.fn h0]
      have hw : swapsWith e (some (.Name x p)) pos.line X.env = pure false := by
        split at h3
        · exact sw_eq c h3
        · exact swaps_eq h3
      split at h5
      · rw [decide_eq_true_eq] at h5
        exact s_setZ (by rw [c.md]; assumption) hN hi (c.loc h2) (upZ h5 (iha sc X fr _ hp c h4)) hw (.inl hf)
      · rw [decide_eq_true_eq] at h5
        have z := iha sc X fr _ hp c h4
        have z : PE X e (TV fr (vk fr.p.K (kdOf sc a)) (den G.exm G.cl a).v) := z
        rw [h5] at z
        exact s_setF (by rw [c.md]; assumption) hN hi (c.loc h2) z hw (.inl hf)
      · cases h5
    · cases h
  | aug sub i a iha =>
    intro sc X fr y hp c h
    simp only [m] at h
    split at h
    · simp only [Bool.and_eq_true, Bool.or_eq_true, decide_eq_true_eq] at h
      obtain ⟨⟨⟨⟨⟨h0, h1⟩, h2⟩, h3⟩, h4⟩, h5⟩ := h
      have hf : X.fn = fun _ => true := c.fn h0
      have ha := upA (iha sc X fr _ hp c h5)
      cases sub with
      | true =>
        rw [if_pos rfl] at h3
        subst h3
        exact s_augM (by rw [c.md]; exact h4) (by rw [c.hN]; exact c.nd) (by rw [c.hN]; exact h1) (c.loc h2) ha (.inl (by rw [hf]))
      | false =>
        rw [if_neg (by decide)] at h3
        subst h3
        exact s_augA (by rw [c.md]; exact h4) (by rw [c.hN]; exact c.nd) (by rw [c.hN]; exact h1) (c.loc h2) ha (.inl (by rw [hf]))
    · cases h
  | ret a iha =>
    intro sc X fr y hp c h
    simp only [m] at h
    split at h
    · simp only [Bool.and_eq_true, decide_eq_true_eq] at h
      exact s_ret (kK _ _) (up h.2 (iha sc X fr _ hp c h.1))
    · cases h
  | retv i =>
    intro sc X fr y hp c h
    simp only [m] at h
    split at h
    · simp only [Bool.and_eq_true, decide_eq_true_eq] at h
      obtain ⟨v1, v2, v3, v4⟩ := c.var h.1
      exact ret_own _ (s_retOwn (by rw [c.md]; exact h.2) v1 v2 v3 v4)
    · cases h
  | iff t p q iht ihp ihq =>
    intro sc X fr y hp c h
    simp only [m] at h
    split at h
    · simp only [Bool.and_eq_true] at h
      exact s_if (iht sc X fr _ hp c h.1.1).1 (ihp sc X fr _ hp c h.1.2) (ihq sc X fr _ hp c h.2)
    · cases h
  | whl n t p iht ihp =>
    intro sc X fr y hp c h
    simp only [m] at h
    split at h
    · simp only [Bool.and_eq_true] at h
      exact s_while (c.top h.1.1).2.1 (iht sc X fr _ hp c h.1.2).1 (ihp sc X fr _ hp c h.2)
    · cases h
  | «for» it t p iht ihp =>
    intro sc X fr y hp c h
    simp only [m] at h
    split at h
    · simp only [Bool.and_eq_true] at h
      obtain ⟨⟨⟨⟨h0, h1⟩, h2⟩, h3⟩, h4⟩ := h
      have hc := c.calm (c.top h0).1
      obtain ⟨g, g1, g2⟩ := tg_ok c hc (fun x _ => by rw [c.fn (.inl h0)]) h3
      exact s_for (c.top h0).2.1 hc (iht sc X fr _ hp c h2) g1 g2 (ihp sc X fr _ hp c h4) (folded_eq h1)
    · cases h
  | app i a iha =>
    intro sc X fr y hp c h
    simp only [m] at h
    split at h
    · simp only [Bool.and_eq_true, decide_eq_true_eq] at h
      obtain ⟨⟨⟨⟨⟨⟨h0, h1⟩, rfl⟩, h3⟩, h4⟩, h5⟩, h6⟩ := h
      obtain ⟨v1, v2, v3, v4⟩ := c.var h0
      refine s_append (by rw [c.md]; exact h1) v1 v2 v3 v4 (upZ h6 (iha sc X fr _ hp c h5)) (star_eq h4) rfl ?_ h3 rfl (swaps_eq rfl)
      rw [star_eq h4]
      rfl
    · cases h
  | ext i a iha =>
    intro sc X fr y hp c h
    simp only [m] at h
    split at h
    · simp only [Bool.and_eq_true, decide_eq_true_eq] at h
      obtain ⟨⟨⟨⟨⟨h0, h1⟩, rfl⟩, h3⟩, h4⟩, h5⟩ := h
      obtain ⟨v1, v2, v3, v4⟩ := c.var h0
      refine s_extend (by rw [c.md]; exact h1) v1 v2 v3 v4 (upA (iha sc X fr _ hp c h5)) (star_eq h4) rfl ?_ h3 rfl (swaps_eq rfl)
      rw [star_eq h4]
      rfl
    · cases h
  | put i k a ihk iha =>
    intro sc X fr y hp c h
    simp only [m] at h
    split at h
    · simp only [Bool.and_eq_true, decide_eq_true_eq] at h
      obtain ⟨⟨⟨⟨⟨⟨h0, h1⟩, h2⟩, h3⟩, h4⟩, h5⟩, h6⟩ := h
      obtain ⟨v1, v2, v3, v4⟩ := c.var h0
      exact s_put (by rw [c.md]; exact h1) v1 v2 v3 v4 (upZ h6 (iha sc X fr _ hp c h5)) (upA (ihk sc X fr _ hp c h4)) (set_eq h2) (by unfold swapsWithSole; exact swaps_eq h3) rfl rfl
    · cases h
  | augput sub i k a ihk iha =>
    intro sc X fr y hp c h
    simp only [m] at h
    split at h
    · simp only [Bool.and_eq_true, decide_eq_true_eq] at h
      obtain ⟨⟨⟨⟨⟨h0, h1⟩, h2⟩, h3⟩, h4⟩, h5⟩ := h
      obtain ⟨v1, v2, v3, v4⟩ := c.var h0
      cases sub with
      | true =>
        rw [if_pos rfl] at h3
        subst h3
        exact s_augPutM c.hK' (by rw [c.md]; exact h1) v1 v2 v3 v4 (upA (iha sc X fr _ hp c h5)) (upA (ihk sc X fr _ hp c h4)) (aug_eq h2)
      | false =>
        rw [if_neg (by decide)] at h3
        subst h3
        exact s_augPutA c.hK' (by rw [c.md]; exact h1) v1 v2 v3 v4 (upA (iha sc X fr _ hp c h5)) (upA (ihk sc X fr _ hp c h4)) (aug_eq h2)
    · cases h
  | unp t a iha =>
    intro sc X fr y hp c h
    simp only [m] at h
    split at h
    · simp only [Bool.and_eq_true, decide_eq_true_eq] at h
      obtain ⟨⟨⟨⟨⟨h0, h1⟩, h2⟩, h3⟩, h4⟩, h5⟩ := h
      obtain ⟨g, g1, g2⟩ := tg_ok c (c.calm (c.top h0).1) (fun x _ => by rw [c.fn (.inl h0)]) h1
      refine s_unpack g2 g1 (upZ h5 (iha sc X fr _ hp c h4)) (by unfold swapsWithSole; exact swaps_eq h2) ?_ rfl
      rename_i y _
      cases y <;> first | rfl | cases h3
    · cases h
  | raise n =>
    intro sc X fr y hp c h
    simp only [m] at h
    split at h
    · simp only [Bool.and_eq_true, decide_eq_true_eq] at h
      obtain ⟨⟨⟨h0, h1⟩, h2⟩, h3⟩ := h
      obtain ⟨C, bmB, B, nI, iI, f1, f2, f3, f4, f5, f6⟩ := F.exc n _ (by rw [← hp]; exact h3)
      exact s_raise (c.calm (c.top h0).1) c.tk f1 (by rw [c.hK]; exact f2) (by rw [c.mg]; exact f3) (by rw [c.hK]; exact f4) (f5 X c.hK) (c.gl h1) (nmOk_iff h2).1 (by rw [c.p]; exact f6)
    · cases h
  | «try» b g ihb ihg =>
    intro sc X fr y hp c h
    simp only [m] at h
    split at h
    · simp only [Bool.and_eq_true] at h
      obtain ⟨⟨h0, h1⟩, h2⟩ := h
      refine s_try c.hK' (c.top h0).2.2.1 (c.top h0).2.2.2 c.tk (fun a b _ => by rw [c.p]; exact F.exm a b) (fun a q _ => ⟨_, by rw [c.p]; exact F.exm a q.1⟩) (fun W pn xe tk po => ihb sc _ _ _ hp (c.tr h0 W pn xe tk po) h1) (ihg sc X fr _ hp c h2)
    · cases h
  | hnd n b r ihb ihr =>
    intro sc X fr y hp c h
    simp only [m] at h
    split at h
    · simp only [Bool.and_eq_true, decide_eq_true_eq] at h
      obtain ⟨⟨⟨⟨⟨h0', h0⟩, h1⟩, h2⟩, h3⟩, h4⟩ := h
      obtain ⟨C, bmB, B, nI, iI, f1, f2, f3, f4, f5, f6⟩ := F.exc n _ (by rw [← hp]; exact h2)
      refine HdsOk.cons ⟨c.gl h0, (nmOk_iff h1).1, .inl ?_⟩ (fun a oe cls d pn _ _ => ihb sc.suite _ _ _ hp (c.suite h0' a _) h3) (ihr sc X fr _ hp c h4)
      rw [c.mg, c.p, f6]
      exact f3
    · cases h
  | setc i it t b f vs iht ihb ihf =>
    intro sc X fr y hp c h
    simp only [m] at h
    split at h
    · rename_i x p elt tg iter ifs scope q pos
      simp only [Bool.and_eq_true, Bool.not_eq_true', decide_eq_true_eq] at h
      obtain ⟨⟨⟨⟨⟨j0, j1⟩, j2⟩, j3⟩, j4⟩, ⟨⟨⟨⟨⟨⟨⟨h1, h2⟩, h3⟩, h4⟩, h5⟩, h6⟩, h7⟩, h8⟩⟩ := h
      have h0 := (c.top j0).1
      obtain ⟨q1, q2, q3, g, q4, q5⟩ := comp_static c h0 h3 h4
      have ht : ∀ (s : Shared) (H : Hp) (C : Addr) (cl : List (Str × Addr)) (fp : List Addr), PTs (X.blk s H scope (compEnvC scope cl C X.env) fp) ifs (TB fr.still (den G.exm G.cl b).b) := fun s H C cl fp => by
        split at h6
        · have e : (den G.exm G.cl b).b = yesB := ihb (sc.blk _) _ _ _ hp (c.blk h0 q3 s H C cl fp) h6
          rw [e]
          exact ts_nil
        · exact pts_one (ihb (sc.blk _) _ _ _ hp (c.blk h0 q3 s H C cl fp) h6).1
        · cases h6
      have hN : X.N.Nodup := by rw [c.hN]; exact c.nd
      have hi : X.N[i]? = some x := by rw [c.hN]; exact j1
      have hl : X.env.scope.names.lookup x = some .local := by rw [c.hs]; exact j2
      have he : ∀ (s : Shared) (H : Hp) (C : Addr) (cl : List (Str × Addr)) (fp : List Addr), PE (X.blk s H scope (compEnvC scope cl C X.env) fp) elt (TV fr.still (vZ fr.p.K) (den G.exm G.cl f).v) := fun s H C cl fp => upZ h8 (ihf (sc.blk _) _ _ _ hp (c.blk h0 q3 s H C cl fp) h7)
      split at j4
      · have z := s_setLcZ (rk := vk fr.p.K sc.rk) (py := p) (pos := q) (spos := pos) (by rw [c.md]; assumption) (c.calm h0) hN hi hl (sw_eqT c j3) (iht sc X fr _ hp c h2) q1 q4 (by rw [q2]; exact h5) q5 ht he (folded_eq h1)
        rw [q2] at z
        exact z
      · have z := s_setLcF (rk := vk fr.p.K sc.rk) (py := p) (pos := q) (spos := pos) (by rw [c.md]; assumption) (c.calm h0) hN hi hl (sw_eqT c j3) (iht sc X fr _ hp c h2) q1 q4 (by rw [q2]; exact h5) q5 ht he (folded_eq h1)
        rw [q2] at z
        exact z
      · cases j4
    · cases h
end PF

namespace PF
open PySem L2

/-! ### binding of plain parameters -/
theorem fm_congr {α β : Type} {f g : α → Option β} : ∀ {l : List α}, (∀ x ∈ l, f x = g x) → l.filterMap f = l.filterMap g
  | [], _ => rfl
  | a :: l, h => by
    rw [List.filterMap_cons, List.filterMap_cons, h a (List.mem_cons_self ..), fm_congr fun x hx => h x (List.mem_cons_of_mem _ hx)]
theorem zip_lookup : ∀ {ps : List Str} {us : List Value}, ps.Nodup → us.length = ps.length → ps.filterMap (fun n => ((ps.zip us).lookup n).map (n, ·)) = ps.zip us ∧ (ps.filter fun n => ((ps.zip us).lookup n).isNone) = []
  | [], [], _, _ => ⟨rfl, rfl⟩
  | p :: ps, u :: us, nd, hl => by
    obtain ⟨h1, h2⟩ := zip_lookup (List.nodup_cons.mp nd).2 (Nat.succ.inj hl)
    have hn : ∀ n ∈ ps, ((p :: ps).zip (u :: us)).lookup n = (ps.zip us).lookup n := fun n hn => by
      rw [List.zip_cons_cons, List.lookup_cons]
      have : (n == p) = false := by
        rw [beq_eq_false_iff_ne]
        intro e
        rw [e] at hn
        exact (List.nodup_cons.mp nd).1 hn
      rw [this]
    have h0 : ((p :: ps).zip (u :: us)).lookup p = some u := by
      rw [List.zip_cons_cons, List.lookup_cons, beq_self_eq_true]
    constructor
    · rw [List.filterMap_cons, h0]
      show (p, u) :: ps.filterMap _ = (p, u) :: ps.zip us
      have e : ps.filterMap (fun n => (((p :: ps).zip (u :: us)).lookup n).map (n, ·)) = ps.filterMap (fun n => ((ps.zip us).lookup n).map (n, ·)) := fm_congr fun n hn' => by rw [hn n hn']
      rw [e, h1]
    · rw [List.filter_cons, h0]
      show (ps.filter _) = []
      rw [← h2]
      exact List.filter_congr fun n hn' => by rw [hn n hn']
theorem bind_plain {x qual : Str} {body : List Stmt} {scope : Scope} {as : List Arg} {kV doc pm : Value} {an : Option Addr} {cdv ct : Value} {us : List Value} {ps : List Str} (hp : as.map (·.arg) = ps) (nd : ps.Nodup) (hl : us.length = ps.length) :
    bindArgs (PySem.W.fnOf x qual ⟨[], as, none, [], [], none, []⟩ body scope .none kV doc pm an cdv ct) ⟨us, []⟩ = pure (ps.zip us) := by
  obtain ⟨h1, h2⟩ := zip_lookup nd hl
  unfold bindArgs
  have e1 : seqItems? Value.none = pure none := rfl
  simp only [PySem.W.fnOf, List.map_nil, List.nil_append, hp, List.forIn_nil, pure_bind, e1, Option.getD_none, List.drop_nil, List.length_nil, Nat.sub_zero, List.append_nil, List.take_length, h2, List.zip_nil_right, h1, hl]
  simp
end PF

namespace PF
open PySem L2

/-! ### a def, as data -/
structure FD where
  name : Str
  ps : List Str
  N : List Str
  md : List Md
  ms : List Md
  rk : Nat
  srt : Bool
  ir : I
def FD.sc (pg : Pg) (d : FD) (scope : Scope) : Sc := ⟨pg, d.N, scope, d.md, d.rk, true, d.srt, false⟩
def fscB (N ps : List Str) (sc : Scope) : Bool := (match sc.kind with
  | .function => true
  | _ => false) && !sc.isCoroutine && !sc.isGenerator && decide N.Nodup && decide (N.take ps.length = ps) && (ps.all fun x => match sc.names.lookup x with
  | some .local => true
  | some .cell => true
  | _ => false) && sc.names.all fun y => match y.2 with
  | .free => false
  | _ => true
theorem fscB_ok {N ps : List Str} {sc : Scope} (h : fscB N ps sc = true) : FnScope N ps sc := by
  unfold fscB at h
  simp only [Bool.and_eq_true, Bool.not_eq_true', decide_eq_true_eq, List.all_eq_true] at h
  obtain ⟨⟨⟨⟨⟨⟨h1, h2⟩, h3⟩, h4⟩, h5⟩, h6⟩, h7⟩ := h
  refine ⟨?_, h2, h3, h4, h5, fun x hx => ?_, fun y hy e => ?_⟩
  · split at h1
    · assumption
    · cases h1
  · have q := h6 x hx
    split at q
    · exact .inl (by assumption)
    · exact .inr (by assumption)
    · cases q
  · have q := h7 y hy
    rw [e] at q
    cases q
def plainArgs (ps : List Str) : Arguments → Bool
  | ⟨[], as, none, [], [], none, []⟩ => decide (as.map (·.arg) = ps)
  | _ => false
def msB (d : FD) : Bool := decide (d.ms.length = d.ps.length) && decide (d.md.take d.ms.length = d.ms) && d.ms.all (fun x => decide (x ≠ .own)) && decide (d.ps.length ≤ d.N.length)
theorem msB_ok {d : FD} (h : msB d = true) : d.ms.length = d.ps.length ∧ (∀ i x, d.ms[i]? = some x → d.md.getD i .frz = x ∧ x ≠ .own) ∧ d.ps.length ≤ d.N.length := by
  unfold msB at h
  simp only [Bool.and_eq_true, decide_eq_true_eq, List.all_eq_true] at h
  obtain ⟨⟨⟨h1, h2⟩, h3⟩, h4⟩ := h
  refine ⟨h1, fun i x hx => ⟨?_, h3 x (List.mem_of_getElem? hx)⟩, h4⟩
  rw [← h2, List.getElem?_take] at hx
  split at hx
  · rw [List.getD_eq_getElem?_getD, hx]
    rfl
  · cases hx
def fdB (pg : Pg) (d : FD) (params : Arguments) (body : List Stmt) (scope : Scope) : Bool := plainArgs d.ps params && fscB d.N d.ps scope && msB d && m d.ir (d.sc pg scope) (.b body)
def lamT (x : Str) : Str := (x ++ ".<locals>.") ++ "<lambda>"
theorem fd_ok {G : Glb} {pg : Pg} (F : Facts G pg) {d : FD} {params : Arguments} {body : List Stmt} {scope : Scope} {fn : Addr} {fd : FuncData} (Fd : FunD G.p.K d.name d.name params body scope [] [] fn fd) (h : fdB pg d params body scope = true)
    (hs : d.srt = true → ∃ c P, LamX.TabB G.base G.mg c P ∧ fd.code = .ref c ∧ G.p.T = [(P, lamT d.name)]) :
    FnOk G.P G.w G.p.K G.mg G.base (L2.CX G.P G.w) (G.k + 1) fn fd d.ps (spD G.p d.ms (vk G.p.K d.rk) (callF d.N.length (den G.exm G.cl d.ir).s)) := by
  unfold fdB at h
  simp only [Bool.and_eq_true] at h
  obtain ⟨⟨⟨_, h2⟩, h3⟩, h4⟩ := h
  have S := fscB_ok h2
  obtain ⟨m1, m2, m3⟩ := msB_ok h3
  obtain ⟨oc, od, dV, kV, doc, pm, an, cdv, ct, osl, rfl, lk, hcd, _, _⟩ := Fd.ex
  refine fn_of lk hcd S (fun vs H Q E h => ?_) fun A outer s H vs Q E hr h => ?_
  · obtain ⟨ds, g, m, _, r, _⟩ := h
    rw [r.length.1, m1]
  · obtain ⟨ds, g, m, o, r, q⟩ := h
    have cx : Ctx G (d.sc pg scope) (cxOf (L2.CX G.P G.w) G.P G.w G.p.K G.mg G.base d.N d.name scope fn cdv A outer s H E) ⟨G.p, (d.sc pg scope).mdf, g, H, fun cls d _ H => E cls d H⟩ := by
      refine ⟨rfl, rfl, rfl, S.nd, rfl, S.kind, rfl, rfl, rfl, rfl, ?_, fun _ => rfl, fun _ => hr, takes_of rfl rfl rfl rfl, fun _ => rfl, fun _ => rfl, fun _ => ⟨rfl, passes_of rfl, rfl, rfl⟩, fun z => ?_⟩
      · have := hr.un
        show (A.deeper _).units + 200 < _
        omega
      · obtain ⟨c, P, t1, t2, t3⟩ := hs z
        refine ⟨c, P, t1, t2, ?_, fun p hp _ => ?_⟩
        · rw [t3]
          exact List.mem_cons_self ..
        · rw [t3] at hp
          rw [List.mem_singleton.mp hp]
          rfl
    refine ⟨_, sound F d.ir (d.sc pg scope) _ _ (.b body) rfl cx h4, _, g, m, rl_start o r m2 (by rw [r.length.2, m1]; exact m3), ?_⟩
    unfold callF at q
    cases z : (den G.exm G.cl d.ir).s (ds.map some ++ List.replicate (d.N.length - ds.length) none) m with
    | nx rho' m' =>
      rw [z] at q
      intro s' g' H' _ r'
      exact q .non g' H' r'.ent r'.ok (kK _ _).non
    | rt d m' => rw [z] at q; exact fun v g' H' e o rv => q v g' H' e o rv
    | exc c rho' m' => rw [z] at q; exact fun s' g' H' _ r' => q g' H' r'.ent r'.ok
    | bk rho' m' => rw [z] at q; exact absurd q (fun z => z)
    | ct rho' m' => rw [z] at q; exact absurd q (fun z => z)
    | bad => rw [z] at q; exact absurd q (fun z => z)
theorem fd_binds {K : PySem.W.Frag} {pg : Pg} {d : FD} {params : Arguments} {body : List Stmt} {scope : Scope} {fn : Addr} {fd : FuncData} (Fd : FunD K d.name d.name params body scope [] [] fn fd) (h : fdB pg d params body scope = true) :
    Binds K fd d.ps [] ∧ ∀ (s : Shared) (us : List Value), us.length = d.ps.length → BindsTo s fd ⟨us, []⟩ (d.ps.zip us) := by
  unfold fdB at h
  simp only [Bool.and_eq_true] at h
  obtain ⟨⟨⟨h1, h2⟩, h3⟩, h4⟩ := h
  have S := fscB_ok h2
  have nd : d.ps.Nodup := by
    rw [← S.pre]
    exact S.nd.sublist (List.take_sublist _ _)
  unfold plainArgs at h1
  split at h1
  · rw [decide_eq_true_eq] at h1
    exact ⟨Fd.bindsN fun _ _ _ _ _ _ us hl => bind_plain h1 nd hl, fun s us hl => Fd.bindsA (fun _ _ _ _ _ _ us hl => bind_plain h1 nd hl) s us hl⟩
  · cases h1

/-! ### all defs, by levels -/
def run (exm : Nat → Nat → Bool) (fds : List FD) : Nat → Nat → List D → M D
  | 0, _ => fun _ => bad
  | k + 1, j => match fds[j]? with
    | some d => callF d.N.length (den exm (run exm fds k) d.ir).s
    | none => fun _ => bad
def pgOf (fds : List FD) (gis : List (Str × Int)) (excs : List Str) : Pg := ⟨fds.map fun d => ⟨d.name, d.ps, d.ms, d.rk⟩, gis, excs⟩
structure Base (P : Program) (w : World) (mg : Str → Option Value) (base : Heap) (p : Par) (exm : Nat → Nat → Bool) (fds : List FD) (gis : List (Str × Int)) (excs : List Str) : Prop where
  fn : ∀ (j : Nat) (d : FD), fds[j]? = some d → ∃ (a : Addr) (fd : FuncData) (params : Arguments) (body : List Stmt) (scope : Scope), mg d.name = some (.ref a) ∧ FunD p.K d.name d.name params body scope [] [] a fd ∧ fdB (pgOf fds gis excs) d params body scope = true ∧
    (d.srt = true → ∃ c P, LamX.TabB base mg c P ∧ fd.code = .ref c ∧ p.T = [(P, lamT d.name)])
  blt : ∀ x ∈ bltNames, mg x = none
  gi : ∀ q ∈ gis, ∃ t, mg q.1 = some (.int q.2 t)
  exc : ∀ (c : Nat) (x : Str), excs[c]? = some x → ∃ (C : Addr) (bmB : List Value) (B newId initId : String), ExcBaseFacts B newId initId bmB ∧ PySem.W.excIn p.K C bmB newId = true ∧ mg x = some (.ref C) ∧ PySem.W.keepIn p.K (.ref C) = true ∧ (∀ X : Cx, X.K = p.K → Raises X (.ref C)) ∧ p.cls c = .ref C
  exm : ∀ c h, PySem.W.exmOne p.K (p.cls c) (p.cls h) = some (exm c h)
theorem facts {P : Program} {w : World} {mg : Str → Option Value} {base : Heap} {p : Par} {exm : Nat → Nat → Bool} {fds : List FD} {gis : List (Str × Int)} {excs : List Str} (B : Base P w mg base p exm fds gis excs) (k : Nat) : Facts ⟨P, w, mg, base, p, k, run exm fds k, exm⟩ (pgOf fds gis excs) := by
  have mk : (∀ (j : Nat) (d : FD), fds[j]? = some d → ∀ (a : Addr) (fd : FuncData) (params : Arguments) (body : List Stmt) (scope : Scope), FunD p.K d.name d.name params body scope [] [] a fd → fdB (pgOf fds gis excs) d params body scope = true →
      (d.srt = true → ∃ c P, LamX.TabB base mg c P ∧ fd.code = .ref c ∧ p.T = [(P, lamT d.name)]) → FnOk P w p.K mg base (L2.CX P w) k a fd d.ps (spD p d.ms (vk p.K d.rk) (run exm fds k j))) → Facts ⟨P, w, mg, base, p, k, run exm fds k, exm⟩ (pgOf fds gis excs) := fun H => by
    refine ⟨fun j f hf => ?_, B.blt, B.gi, B.exc, B.exm⟩
    have hf : (fds.map fun d => (⟨d.name, d.ps, d.ms, d.rk⟩ : FI))[j]? = some f := hf
    rw [List.getElem?_map] at hf
    cases q : fds[j]? with
    | none => rw [q] at hf; cases hf
    | some d =>
      rw [q] at hf
      cases hf
      obtain ⟨a, fd, params, body, scope, e1, e2, e3, e4⟩ := B.fn j d q
      exact ⟨a, fd, e1, e2.kp, (fd_binds e2 e3).1, H j d q a fd params body scope e2 e3 e4⟩
  induction k with
  | zero =>
    refine mk fun j d q a fd params body scope e2 e3 e4 => ⟨fun vs H Q E h => ?_, fun A outer s H args us vs Q E _ _ _ _ h => ?_⟩
    · obtain ⟨ds, g, m, _, _, z⟩ := h
      exact (show False from z).elim
    · obtain ⟨ds, g, m, _, _, z⟩ := h
      exact (show False from z).elim
  | succ k ih =>
    refine mk fun j d q a fd params body scope e2 e3 e4 => ?_
    have z := fd_ok (ih ?_) e2 e3 e4
    · have e : run exm fds (k + 1) j = callF d.N.length (den exm (run exm fds k) d.ir).s := by
        show (match fds[j]? with
          | some d => callF d.N.length (den exm (run exm fds k) d.ir).s
          | none => fun _ => bad) = _
        rw [q]
      rw [e]
      exact z
    · intro H
      refine ⟨fun j f hf => ?_, B.blt, B.gi, B.exc, B.exm⟩
      have hf : (fds.map fun d => (⟨d.name, d.ps, d.ms, d.rk⟩ : FI))[j]? = some f := hf
      rw [List.getElem?_map] at hf
      cases q : fds[j]? with
      | none => rw [q] at hf; cases hf
      | some d =>
        rw [q] at hf
        cases hf
        obtain ⟨a, fd, params, body, scope, e1, e2, e3, e4⟩ := B.fn j d q
        exact ⟨a, fd, e1, e2.kp, (fd_binds e2 e3).1, H j d q a fd params body scope e2 e3 e4⟩
end PF

namespace PF
open PySem L2

/-! ### a law, as data -/
structure LawD where
  fds : List FD
  st : List Stmt
  gis : List (Str × Int)
  excs : List Str
  tab : List (List Bool)
  lam : List Str
  law : Nat
def exmT (n : Nat) (t : List (List Bool)) (c h : Nat) : Bool := (t.getD (if c < n then c else 0) []).getD (if h < n then h else 0) false
def LawD.exm (L : LawD) : Nat → Nat → Bool := exmT L.excs.length L.tab
def LawD.fn (L : LawD) : List He.DefD := (L.fds.zip L.st).map fun q => ⟨(q.1.name, none), q.1.name, q.1.name, defArgs q.2, defBody q.2, defScope q.2, [], []⟩
def LawD.fa (L : LawD) : List He.Fa := (L.fds.map fun d => .glo d.name) ++ ((bltNames.map .free) ++ ((L.gis.map fun q => .int q.1 q.2) ++ ((L.excs.map .glo) ++ ((L.excs.map .exc) ++ (L.excs.zipIdx.flatMap fun q => L.excs.zipIdx.map fun r => .exm q.1 r.1 (L.exm q.2 r.2))))))
def LawD.tf (L : LawD) : List He.Defn := L.lam.map fun x => (x, none)
def LawD.ok (L : LawD) : Bool := decide (L.fds.length = L.st.length) && ((L.fds.zip L.st).all fun q => fdB (pgOf L.fds L.gis L.excs) q.1 (defArgs q.2) (defBody q.2) (defScope q.2) && (!q.1.srt || decide (L.lam = [q.1.name]))) && decide (0 < L.excs.length) &&
  (match L.fds[L.law]? with
    | some d => decide (d.ps = [("script" : Str)]) && decide (d.ms = [.frz]) && !d.srt
    | none => false)
def LawD.par (L : LawD) (K : PySem.W.Frag) : Par := ⟨K, L.lam.map fun x => ((He.cT K (x, none)).2, lamT x), 0, fun c => .ref (He.ga K (L.excs.getD (if c < L.excs.length then c else 0) ""))⟩
theorem zipIdx_mem {α : Type} {l : List α} {i : Nat} {x : α} (h : l[i]? = some x) : (x, i) ∈ l.zipIdx := by
  rw [List.mem_zipIdx_iff_getElem?]
  exact h
theorem LawD.base (L : LawD) (hL : L.ok = true) {P : Program} {w : World} {K : PySem.W.Frag} {mg : Str → Option Value} {h : Heap} (KX : K.In h) (G : h.Ns mainGlobals mg) (c : He.SaysX L.fa L.fn [] L.tf (fun _ => true) w h K) (base : Heap)
    (hT : ∀ p ∈ (L.tf.map fun q => He.cT K q), LamX.TabB base mg p.1 p.2) : Base P w mg base (L.par K) L.exm L.fds L.gis L.excs := by
  unfold LawD.ok at hL
  simp only [Bool.and_eq_true, decide_eq_true_eq, List.all_eq_true, Bool.or_eq_true, Bool.not_eq_true'] at hL
  obtain ⟨⟨⟨h1, h2⟩, h3⟩, h4⟩ := hL
  have cd := c.t.d
  have glo : ∀ x, He.Fa.glo x ∈ L.fa → mg x = some (.ref (He.ga K x)) := fun x hx => He.glo_ok KX G (cd.facts hx)
  have inE : ∀ {x : Str}, x ∈ L.excs → mg x = some (.ref (He.ga K x)) ∧ (He.Fa.exc x).ok K = true := fun {x} hx => ⟨glo x (by
      unfold LawD.fa
      exact List.mem_append_right _ (List.mem_append_right _ (List.mem_append_right _ (List.mem_append_left _ (List.mem_map.mpr ⟨x, hx, rfl⟩))))), cd.facts (by
      unfold LawD.fa
      exact List.mem_append_right _ (List.mem_append_right _ (List.mem_append_right _ (List.mem_append_right _ (List.mem_append_left _ (List.mem_map.mpr ⟨x, hx, rfl⟩))))))⟩
  refine ⟨fun j d hd => ?_, fun x hx => ?_, fun q hq => ?_, fun n x hx => ?_, fun a b => ?_⟩
  · have hj : j < L.fds.length := (List.getElem?_eq_some_iff.mp hd).1
    have hs : L.st[j]? = some (L.st[j]'(by omega)) := List.getElem?_eq_getElem (by omega)
    have hz : (d, L.st[j]'(by omega)) ∈ L.fds.zip L.st := List.mem_of_getElem? (i := j) (by rw [List.getElem?_zip_eq_some]; exact ⟨hd, hs⟩)
    obtain ⟨fd, F⟩ := cd.defs (d := ⟨(d.name, none), d.name, d.name, defArgs (L.st[j]'(by omega)), defBody (L.st[j]'(by omega)), defScope (L.st[j]'(by omega)), [], []⟩) (by
      unfold LawD.fn
      exact List.mem_map.mpr ⟨_, hz, rfl⟩)
    obtain ⟨k1, k2⟩ := h2 _ hz
    refine ⟨He.ga K d.name, fd, _, _, _, glo _ ?_, F, k1, fun hsr => ?_⟩
    · unfold LawD.fa
      exact List.mem_append_left _ (List.mem_map.mpr ⟨d, List.mem_of_getElem? hd, rfl⟩)
    · rcases k2 with z | z
      · rw [z] at hsr; cases hsr
      have F' := F
      obtain ⟨oc, od, dV, kV, doc, pm, an, cdv, ct, osl, rfl, lk, hcd, _, _⟩ := F'.ex
      obtain ⟨cc, e⟩ := He.codeIn_ref hcd
      have ec : He.codeOf K (d.name, none) = cc := He.codeOf_eq (p := (d.name, none)) lk e
      refine ⟨cc, (He.cT K (d.name, none)).2, ?_, e, ?_⟩
      · have t := hT (He.cT K (d.name, none)) (by
          unfold LawD.tf
          rw [z]
          exact List.mem_cons_self ..)
        rw [← ec]
        exact t
      · show L.lam.map _ = _
        rw [z]
        rfl
  · exact He.free_ok KX G (cd.facts (by
      unfold LawD.fa
      exact List.mem_append_right _ (List.mem_append_left _ (List.mem_map.mpr ⟨x, hx, rfl⟩))))
  · exact He.int_ok KX G (cd.facts (by
      unfold LawD.fa
      exact List.mem_append_right _ (List.mem_append_right _ (List.mem_append_left _ (List.mem_map.mpr ⟨q, hq, rfl⟩)))))
  · obtain ⟨e1, e2⟩ := inE (List.mem_of_getElem? hx)
    obtain ⟨f1, f2, f3, f4⟩ := He.exc_ok e2
    refine ⟨He.ga K x, He.veBase, _, _, _, PySem.F.excBase_ValueError, f1, e1, f2, fun X hX => raises_own (by rw [hX]; exact f3) (by rw [hX]; exact f4), ?_⟩
    show Value.ref (He.ga K (L.excs.getD (if n < L.excs.length then n else 0) "")) = _
    rw [if_pos (List.getElem?_eq_some_iff.mp hx).1, List.getD_eq_getElem?_getD, hx]
    rfl
  · have key : ∀ n : Nat, ∃ x, L.excs[if n < L.excs.length then n else 0]? = some x ∧ L.excs.getD (if n < L.excs.length then n else 0) "" = x := fun n => by
      have hlt : (if n < L.excs.length then n else 0) < L.excs.length := by split <;> omega
      exact ⟨_, List.getElem?_eq_getElem hlt, by rw [List.getD_eq_getElem?_getD, List.getElem?_eq_getElem hlt]; rfl⟩
    obtain ⟨x, x1, x2⟩ := key a
    obtain ⟨y, y1, y2⟩ := key b
    show PySem.W.exmOne K (.ref (He.ga K (L.excs.getD (if a < L.excs.length then a else 0) ""))) (.ref (He.ga K (L.excs.getD (if b < L.excs.length then b else 0) ""))) = some (exmT _ _ a b)
    have f := He.exm_ok (cd.facts (f := .exm x y (L.exm (if a < L.excs.length then a else 0) (if b < L.excs.length then b else 0))) (by
      unfold LawD.fa
      exact List.mem_append_right _ (List.mem_append_right _ (List.mem_append_right _ (List.mem_append_right _ (List.mem_append_right _ (List.mem_flatMap.mpr ⟨_, zipIdx_mem x1, List.mem_map.mpr ⟨_, zipIdx_mem y1, rfl⟩⟩)))))))
    rw [x2, y2, f]
    unfold LawD.exm exmT
    have id : ∀ n : Nat, (if (if n < L.excs.length then n else 0) < L.excs.length then (if n < L.excs.length then n else 0) else 0) = (if n < L.excs.length then n else 0) := fun n => by
      by_cases z : n < L.excs.length <;> simp [z]
    rw [id, id]

theorem wall_start {p : Par} {H : Hp} {a : Addr} {ns : List Int} (hS : SqL p.K H a (ns.map V.int)) (hT : ∀ q ∈ p.T, H q.1 = some (.tbl #[])) : ∃ g, Ok p g [] H ∧ Rep p.K g (.ref a) (.scr ns) := by
  let B : Addr → Option Own := fun b => if b ∈ p.T.map (·.1) then some .tab else none
  have hB : ∀ b, B b ≠ none → H b = some (.tbl #[]) := fun b z => by
    by_cases y : b ∈ p.T.map (·.1)
    · obtain ⟨q, hq, e⟩ := List.mem_map.mp y
      rw [← e]
      exact hT q hq
    · exact absurd (if_neg y) z
  have tabs : LamX.Tabs p.T H := fun q hq => LamX.TabS.nil (hT q hq)
  have tabB : ∀ q ∈ p.T, B q.1 = some .tab := fun q hq => if_pos (List.mem_map.mpr ⟨q, hq, rfl⟩)
  rcases hS with h | h
  · refine ⟨⟨fun b => if b = a then H a else none, B, []⟩, ⟨fun b o z => ?_, fun b z => ?_, fun b z => ?_, tabs, tabB, rfl, (fun n fs z => by simp at z)⟩, ?_⟩
    · have z : (if b = a then H a else none) = some o := z
      split at z
      · rename_i e
        rw [e]
        exact z
      · cases z
    · show (if b = a then H a else none) = none
      split
      · rename_i e
        have k := hB b z
        rw [e] at k
        rcases h with h | ⟨_, h⟩
        · rw [h] at k; cases k
        · rw [h] at k; cases k
      · rfl
    · rw [hB b z]
      simp
    · refine .scr (.inl ?_)
      rcases h with h | ⟨o, h⟩
      · exact .inl ((if_pos rfl).trans h)
      · exact .inr ⟨o, (if_pos rfl).trans h⟩
  · refine ⟨⟨fun _ => none, B, []⟩, ⟨(fun b o z => by cases z), (fun b z => rfl), (fun b z => ?_), tabs, tabB, rfl, (fun n fs z => by simp at z)⟩, .scr (.inr h)⟩
    rw [hB b z]
    simp

/-- the law's def, at its level -/
theorem LawD.at_ (L : LawD) (hL : L.ok = true) {l : PySem.W.OpenLaw} {w : World} {K : PySem.W.Frag} {mg : Str → Option Value} {h : Heap} {fa : Addr} {k n : Nat} (KX : K.In h) (G : h.Ns mainGlobals mg) (c : He.SaysX L.fa L.fn [] L.tf (fun _ => true) w h K)
    {d : FD} (hd : L.fds[L.law]? = some d) (hmg : mg d.name = some (.ref fa))
    (hrun : ∀ ns : List Int, ns.length ≤ n → (∀ z ∈ ns, Builtin.Int.intBits z ≤ 1048576) → ∃ m, run L.exm L.fds k L.law [.scr ns] [] = .ok (.bl true) m) : LamX.LawAtS l w K (L2.CX l.prog w) k n "script" mg fa h := by
  have hL2 := hL
  unfold LawD.ok at hL2
  simp only [Bool.and_eq_true] at hL2
  have h4 := hL2.2
  rw [hd] at h4
  simp only [Bool.and_eq_true, decide_eq_true_eq, Bool.not_eq_true'] at h4
  have mem : ∀ q ∈ (L.tf.map fun q => He.cT K q), ∃ x ∈ L.tf, He.cT K x = q := fun q hq => by
    obtain ⟨x, hx, e⟩ := List.mem_map.mp hq
    exact ⟨x, hx, e⟩
  have b0 : ∀ base : Heap, (∀ p ∈ (L.tf.map fun q => He.cT K q), LamX.TabB base mg p.1 p.2) → Base l.prog w mg base (L.par K) L.exm L.fds L.gis L.excs := fun base hT => L.base hL KX G c base hT
  -- the def's own data, by the hook alone
  have hj : L.law < L.fds.length := (List.getElem?_eq_some_iff.mp hd).1
  have cd := c.t.d
  have hl : L.fds.length = L.st.length := by
    have z := hL2.1.1.1
    rw [decide_eq_true_eq] at z
    exact z
  have hs : L.st[L.law]? = some (L.st[L.law]'(by omega)) := List.getElem?_eq_getElem (by omega)
  have hz : (d, L.st[L.law]'(by omega)) ∈ L.fds.zip L.st := List.mem_of_getElem? (i := L.law) (by rw [List.getElem?_zip_eq_some]; exact ⟨hd, hs⟩)
  obtain ⟨fd, F⟩ := cd.defs (d := ⟨(d.name, none), d.name, d.name, defArgs (L.st[L.law]'(by omega)), defBody (L.st[L.law]'(by omega)), defScope (L.st[L.law]'(by omega)), [], []⟩) (by
    unfold LawD.fn
    exact List.mem_map.mpr ⟨_, hz, rfl⟩)
  have e0 : mg d.name = some (.ref (He.ga K d.name)) := He.glo_ok KX G (cd.facts (by
    unfold LawD.fa
    exact List.mem_append_left _ (List.mem_map.mpr ⟨d, List.mem_of_getElem? hd, rfl⟩)))
  have ea : He.ga K d.name = fa := by
    rw [e0] at hmg
    injection hmg with hmg
    injection hmg
  have k1 := hL2.1.1.2
  rw [List.all_eq_true] at k1
  have k2 := k1 _ hz
  rw [Bool.and_eq_true] at k2
  have bs := (fd_binds F k2.1).2
  refine ⟨fd, L.tf.map fun q => He.cT K q, spD (L.par K) [.frz] (vk K d.rk) (run L.exm L.fds k L.law), fun p hp => ?_, fun p hp => ?_, fun p hp => ?_, fun s u => ?_, fun H a ns h1 h2 hT hS => ?_, fun base KB GB hT => ?_⟩
  · obtain ⟨x, hx, e⟩ := mem p hp
    rw [← e]
    exact c.empty x hx
  · obtain ⟨x, hx, e⟩ := mem p hp
    rw [← e]
    exact c.out x hx
  · obtain ⟨x, hx, e⟩ := mem p hp
    rw [← e]
    exact PySem.W.codeHd_of_K KX (c.hd x hx)
  · have z := bs s [u] (by rw [h4.1.1]; rfl)
    rw [h4.1.1] at z
    exact z
  · obtain ⟨g, o, r⟩ := wall_start (p := L.par K) hS fun q hq => by
      obtain ⟨x, hx, e⟩ := List.mem_map.mp (show q ∈ L.lam.map fun x => ((He.cT K (x, none)).2, lamT x) from hq)
      rw [← e]
      exact hT (He.cT K (x, none)) (List.mem_map.mpr ⟨(x, none), List.mem_map.mpr ⟨x, hx, rfl⟩, rfl⟩)
    obtain ⟨m, hm⟩ := hrun ns h1 h2
    refine ⟨[.scr ns], g, [], o, ⟨r, trivial⟩, ?_⟩
    rw [hm]
    intro v g' H' _ o' rv
    have rv : vk K d.rk H g' H' v (.bl true) := rv
    have q : RepA K g' H' v (.bl true) := by
      match d.rk, rv with
      | 0, z => exact RepF.any (H0 := H) z
      | 1, z => exact z
      | _ + 2, z => exact z
    exact q.bl
  · cases k with
    | zero =>
      refine ⟨fun vs H Q E h => ?_, fun A outer s H args us vs Q E _ _ _ _ h => ?_⟩
      · obtain ⟨ds, g, m, _, _, z⟩ := h
        exact (show False from z).elim
      · obtain ⟨ds, g, m, _, _, z⟩ := h
        exact (show False from z).elim
    | succ k =>
      have z := fd_ok (facts (b0 base hT) k) F k2.1 (fun z => by rw [h4.2] at z; cases z)
      have e : run L.exm L.fds (k + 1) L.law = callF d.N.length (den L.exm (run L.exm L.fds k) d.ir).s := by
        show (match L.fds[L.law]? with
          | some d => callF d.N.length (den L.exm (run L.exm L.fds k) d.ir).s
          | none => fun _ => bad) = _
        rw [hd]
      rw [e, ← ea, ← h4.1.1, ← h4.1.2]
      exact z
end PF

/-! plain law of the sharing: whole numbers only -/
namespace Sh
theorem psum {l k : List Int} (h : l.Perm k) : l.sum = k.sum := by
  induction h with
  | nil => rfl
  | cons x _ ih => rw [List.sum_cons, List.sum_cons, ih]
  | swap x y l => simp only [List.sum_cons]; omega
  | trans _ _ a b => exact a.trans b
theorem sum_le {α : Type} {f g : α → Int} : ∀ {l : List α}, (∀ x ∈ l, f x ≤ g x) → (l.map f).sum ≤ (l.map g).sum
  | [], _ => Int.le_refl _
  | a :: l, h => by
    have h1 := h a (List.mem_cons_self ..)
    have h2 := sum_le (l := l) fun x hx => h x (List.mem_cons_of_mem _ hx)
    simp only [List.map_cons, List.sum_cons]
    omega
theorem sum_lt {α : Type} {f g : α → Int} : ∀ {l : List α}, l ≠ [] → (∀ x ∈ l, f x < g x) → (l.map f).sum < (l.map g).sum
  | [], n, _ => absurd rfl n
  | a :: l, _, h => by
    have h1 := h a (List.mem_cons_self ..)
    have h2 := sum_le (l := l) (f := f) (g := g) fun x hx => Int.le_of_lt (h x (List.mem_cons_of_mem _ hx))
    simp only [List.map_cons, List.sum_cons]
    omega
theorem sum_mulL {α : Type} {f : α → Int} (c : Int) : ∀ {l : List α}, (l.map fun x => c * f x).sum = c * (l.map f).sum
  | [] => by simp
  | a :: l => by
    simp only [List.map_cons, List.sum_cons]
    rw [sum_mulL c, Int.mul_add]
theorem sum_mulR {α : Type} {f : α → Int} (c : Int) {l : List α} : (l.map fun x => f x * c).sum = (l.map f).sum * c := by
  have e : (fun x => f x * c) = fun x => c * f x := funext fun x => Int.mul_comm _ _
  rw [e, sum_mulL, Int.mul_comm]
theorem sum_add {α : Type} {f g : α → Int} : ∀ {l : List α}, (l.map fun x => f x + g x).sum = (l.map f).sum + (l.map g).sum
  | [] => rfl
  | a :: l => by
    simp only [List.map_cons, List.sum_cons]
    rw [sum_add]
    omega
theorem sum_congr {α : Type} {f g : α → Int} {l : List α} (h : ∀ x ∈ l, f x = g x) : (l.map f).sum = (l.map g).sum := by rw [List.map_congr_left h]
theorem sum_const {α : Type} (c : Int) : ∀ {l : List α}, (l.map fun _ => c).sum = c * l.length
  | [] => by simp
  | a :: l => by
    simp only [List.map_cons, List.sum_cons, List.length_cons]
    rw [sum_const c]
    rw [Int.natCast_succ, Int.mul_add]
    omega
theorem sum_nn {α : Type} {f : α → Int} {l : List α} (h : ∀ x ∈ l, 0 ≤ f x) : 0 ≤ (l.map f).sum := by
  have := sum_le (f := fun _ => 0) (g := f) h
  rw [sum_const] at this
  omega
theorem sum_ind {l t : List Nat} (nl : l.Nodup) (nt : t.Nodup) (hs : ∀ x ∈ t, x ∈ l) : (l.map fun x => if x ∈ t then (1 : Int) else 0).sum = t.length := by
  have p : (l.filter fun x => decide (x ∈ t)).Perm t := (List.perm_ext_iff_of_nodup (nl.sublist List.filter_sublist) nt).mpr fun a => by
    simp only [List.mem_filter, decide_eq_true_eq]
    exact ⟨fun h => h.2, fun h => ⟨hs a h, h⟩⟩
  rw [← p.length_eq]
  clear p nl nt hs
  induction l with
  | nil => rfl
  | cons a l ih =>
    simp only [List.map_cons, List.sum_cons, List.filter_cons]
    rw [ih]
    by_cases h : a ∈ t
    · simp [h]
      omega
    · simp [h]
section
variable (n : Nat) (S L : Nat → Int) (R : Int)
def rest (held : List Nat) : List Nat := (List.range n).filter fun i => decide (i ∉ held)
def left (held : List Nat) : Int := R - (held.map L).sum
def every (held : List Nat) : Int := ((rest n held).map S).sum
def news (held : List Nat) : List Nat := (rest n held).filter fun i => decide (left L R held * S i < L i * every n S held)
def iter : Nat → List Nat
  | 0 => []
  | k + 1 => iter k ++ news n S L R (iter k)
structure Hyp : Prop where
  n0 : 0 < n
  s1 : ∀ i, i < n → 1 ≤ S i
  l1 : ∀ i, i < n → 1 ≤ L i
  r : ((List.range n).map L).sum ≤ R
structure HInv (held : List Nat) : Prop where
  nd : held.Nodup
  lt : ∀ i ∈ held, i < n
  pair : ∀ i j, i < n → j < n → L i = L j → S j ≤ S i → i ∈ held → j ∈ held
  ne : rest n held ≠ []
variable {n S L R}
theorem mem_rest {held : List Nat} {i : Nat} : i ∈ rest n held ↔ i < n ∧ i ∉ held := by
  unfold rest
  rw [List.mem_filter, List.mem_range, decide_eq_true_eq]
theorem rest_nd {held : List Nat} : (rest n held).Nodup := List.nodup_range.sublist List.filter_sublist
theorem rest_perm {held : List Nat} (nd : held.Nodup) (lt : ∀ i ∈ held, i < n) : (held ++ rest n held).Perm (List.range n) := by
  refine (List.perm_ext_iff_of_nodup ?_ List.nodup_range).mpr fun a => ?_
  · rw [List.nodup_append]
    exact ⟨nd, rest_nd, fun a ha b hb e => (mem_rest.mp hb).2 (by rw [← e]; exact ha)⟩
  · rw [List.mem_append, mem_rest, List.mem_range]
    constructor
    · intro h
      rcases h with h | h
      · exact lt a h
      · exact h.1
    · intro h
      by_cases z : a ∈ held
      · exact .inl z
      · exact .inr ⟨h, z⟩
theorem split_sum {held : List Nat} (nd : held.Nodup) (lt : ∀ i ∈ held, i < n) (f : Nat → Int) : (held.map f).sum + ((rest n held).map f).sum = ((List.range n).map f).sum := by
  rw [← psum ((rest_perm nd lt).map f), List.map_append, List.sum_append]
theorem left_eq {held : List Nat} (h : HInv n S L held) : left L R held = ((rest n held).map L).sum + (R - ((List.range n).map L).sum) := by
  have := split_sum h.nd h.lt L
  unfold left
  omega
theorem left_ge (Y : Hyp n S L R) {held : List Nat} (h : HInv n S L held) : ((rest n held).map L).sum ≤ left L R held := by
  have := left_eq (R := R) h
  have := Y.r
  omega
theorem every_pos (Y : Hyp n S L R) {held : List Nat} (h : HInv n S L held) : 0 < every n S held := by
  have := sum_lt (f := fun _ => 0) (g := S) h.ne fun i hi => by have := Y.s1 i (mem_rest.mp hi).1; omega
  rw [sum_const] at this
  unfold every
  omega
theorem left_pos (Y : Hyp n S L R) {held : List Nat} (h : HInv n S L held) : 0 < left L R held := by
  have a := sum_lt (f := fun _ => 0) (g := L) h.ne fun i hi => by have := Y.l1 i (mem_rest.mp hi).1; omega
  rw [sum_const] at a
  have := left_ge Y h
  omega
theorem start_inv (Y : Hyp n S L R) : HInv n S L [] := by
  refine ⟨List.nodup_nil, (fun i hi => by cases hi), (fun i j _ _ _ _ hi => by cases hi), fun e => ?_⟩
  have : (0 : Nat) ∈ rest n [] := mem_rest.mpr ⟨Y.n0, by simp⟩
  rw [e] at this
  cases this
theorem step_inv (Y : Hyp n S L R) {held : List Nat} (h : HInv n S L held) : HInv n S L (held ++ news n S L R held) := by
  have hl := left_pos Y h
  have he := every_pos Y h
  have mn : ∀ {i}, i ∈ news n S L R held ↔ i ∈ rest n held ∧ left L R held * S i < L i * every n S held := fun {i} => by
    unfold news
    rw [List.mem_filter, decide_eq_true_eq]
  refine ⟨?_, fun i hi => ?_, fun i j hi hj e1 e2 hm => ?_, fun e => ?_⟩
  · rw [List.nodup_append]
    exact ⟨h.nd, rest_nd.sublist List.filter_sublist, fun a ha b hb e => (mem_rest.mp (mn.mp hb).1).2 (by rw [← e]; exact ha)⟩
  · rcases List.mem_append.mp hi with z | z
    · exact h.lt i z
    · exact (mem_rest.mp (mn.mp z).1).1
  · rw [List.mem_append]
    by_cases hh : j ∈ held
    · exact .inl hh
    · refine .inr (mn.mpr ⟨mem_rest.mpr ⟨hj, hh⟩, ?_⟩)
      rcases List.mem_append.mp hm with z | z
      · exact absurd (h.pair i j hi hj e1 e2 z) hh
      · have k := (mn.mp z).2
        rw [← e1]
        exact Int.lt_of_le_of_lt (Int.mul_le_mul_of_nonneg_left e2 (Int.le_of_lt hl)) k
  · have all : ∀ i ∈ rest n held, left L R held * S i < L i * every n S held := fun i hi => by
      by_cases z : i ∈ news n S L R held
      · exact (mn.mp z).2
      · have : i ∈ rest n (held ++ news n S L R held) := mem_rest.mpr ⟨(mem_rest.mp hi).1, fun y => by
          rcases List.mem_append.mp y with y | y
          · exact (mem_rest.mp hi).2 y
          · exact z y⟩
        rw [e] at this
        cases this
    have s := sum_lt h.ne all
    rw [sum_mulL, sum_mulR] at s
    have g := left_ge Y h
    have : ((rest n held).map L).sum * every n S held ≤ left L R held * every n S held := Int.mul_le_mul_of_nonneg_right g (Int.le_of_lt he)
    have e2 : (List.map S (rest n held)).sum = every n S held := rfl
    rw [e2] at s
    omega

/-! ### what is dealt out -/
def quo (held : List Nat) (i : Nat) : Int := left L R held * S i / every n S held
def rem (held : List Nat) (i : Nat) : Int := left L R held * S i % every n S held
def more (held : List Nat) : Int := left L R held - ((rest n held).map (quo (n := n) (S := S) (L := L) (R := R) held)).sum
theorem more_eq (Y : Hyp n S L R) {held : List Nat} (h : HInv n S L held) : every n S held * more (n := n) (S := S) (L := L) (R := R) held = ((rest n held).map (rem (n := n) (S := S) (L := L) (R := R) held)).sum := by
  have he := every_pos Y h
  have e : ((rest n held).map fun i => every n S held * quo (n := n) (S := S) (L := L) (R := R) held i + rem (n := n) (S := S) (L := L) (R := R) held i).sum = ((rest n held).map fun i => left L R held * S i).sum := sum_congr fun i _ => by
    unfold quo rem
    rw [Int.mul_ediv_add_emod]
  rw [sum_add, sum_mulL, sum_mulL] at e
  have e2 : (List.map S (rest n held)).sum = every n S held := rfl
  rw [e2] at e
  unfold more
  rw [Int.mul_sub, Int.mul_comm (every n S held) (left L R held)]
  omega
theorem rem_b (Y : Hyp n S L R) {held : List Nat} (h : HInv n S L held) (i : Nat) : 0 ≤ rem (n := n) (S := S) (L := L) (R := R) held i ∧ rem (n := n) (S := S) (L := L) (R := R) held i < every n S held := by
  have he := every_pos Y h
  unfold rem
  exact ⟨Int.emod_nonneg _ (by omega), Int.emod_lt_of_pos _ he⟩
theorem more_b (Y : Hyp n S L R) {held : List Nat} (h : HInv n S L held) : 0 ≤ more (n := n) (S := S) (L := L) (R := R) held ∧ more (n := n) (S := S) (L := L) (R := R) held < (rest n held).length := by
  have he := every_pos Y h
  have e := more_eq Y h
  have a := sum_nn (l := rest n held) fun i _ => (rem_b Y h i).1
  have b := sum_lt (g := fun _ => every n S held) h.ne fun i _ => (rem_b Y h i).2
  rw [sum_const] at b
  constructor
  · rcases Int.lt_or_le (more (n := n) (S := S) (L := L) (R := R) held) 0 with z | z
    · have := Int.mul_neg_of_pos_of_neg he z
      omega
    · exact z
  · exact Int.lt_of_mul_lt_mul_left (by rw [e]; exact b) (Int.le_of_lt he)

variable (n S L R) in
structure Out (F : Nat → Int) (held T : List Nat) : Prop where
  inv : HInv n S L held
  fin : ∀ i ∈ rest n held, L i * every n S held ≤ left L R held * S i
  tn : T.Nodup
  ts : ∀ i ∈ T, i ∈ rest n held
  tl : (T.length : Int) = more (n := n) (S := S) (L := L) (R := R) held
  tp : ∀ i ∈ T, ∀ j ∈ rest n held, j ∉ T → rem (n := n) (S := S) (L := L) (R := R) held j < rem (n := n) (S := S) (L := L) (R := R) held i ∨ (rem (n := n) (S := S) (L := L) (R := R) held i = rem (n := n) (S := S) (L := L) (R := R) held j ∧ i < j)
  tr : ∀ i ∈ T, 0 < rem (n := n) (S := S) (L := L) (R := R) held i
  f : ∀ i, i < n → F i = if i ∈ held then L i else quo (n := n) (S := S) (L := L) (R := R) held i + if i ∈ T then 1 else 0
  it : ∃ k, held = iter n S L R k
theorem iter_stop {j : Nat} (h : news n S L R (iter n S L R j) = []) : ∀ k, iter n S L R (j + k) = iter n S L R j
  | 0 => rfl
  | k + 1 => by
    show iter n S L R (j + k) ++ news n S L R (iter n S L R (j + k)) = _
    rw [iter_stop h k, h, List.append_nil]
theorem iter_nil (h : news n S L R [] = []) {held : List Nat} (it : ∃ k, held = iter n S L R k) : held = [] := by
  obtain ⟨k, rfl⟩ := it
  have := iter_stop (n := n) (S := S) (L := L) (R := R) (j := 0) h k
  rw [Nat.zero_add] at this
  exact this
theorem iter_uniq {j k : Nat} (h1 : news n S L R (iter n S L R j) = []) (h2 : news n S L R (iter n S L R k) = []) : iter n S L R j = iter n S L R k := by
  rcases Nat.le_total j k with z | z
  · have := iter_stop h1 (k - j)
    rw [show j + (k - j) = k by omega] at this
    exact this.symm
  · have := iter_stop h2 (j - k)
    rw [show k + (j - k) = j by omega] at this
    exact this
theorem pair_take {α : Type} {r : α → α → Prop} {l : List α} (h : l.Pairwise r) (k : Nat) : ∀ a ∈ l.take k, ∀ b ∈ l.drop k, r a b := by
  rw [← List.take_append_drop k l, List.pairwise_append] at h
  exact h.2.2
theorem out_of (Y : Hyp n S L R) {held order : List Nat} {F : Nat → Int} (h : HInv n S L held) (hn : news n S L R held = []) (hp : order.Perm (rest n held))
    (hs : order.Pairwise fun i j => rem (n := n) (S := S) (L := L) (R := R) held j < rem (n := n) (S := S) (L := L) (R := R) held i ∨ (rem (n := n) (S := S) (L := L) (R := R) held i = rem (n := n) (S := S) (L := L) (R := R) held j ∧ i ≤ j))
    (hf : ∀ i, i < n → F i = if i ∈ held then L i else quo (n := n) (S := S) (L := L) (R := R) held i + if i ∈ order.take (more (n := n) (S := S) (L := L) (R := R) held).toNat then 1 else 0) (it : ∃ k, held = iter n S L R k) :
    Out n S L R F held (order.take (more (n := n) (S := S) (L := L) (R := R) held).toNat) := by
  obtain ⟨m0, m1⟩ := more_b Y h
  have he := every_pos Y h
  have nd : order.Nodup := hp.nodup_iff.mpr rest_nd
  have len : (order.take (more (n := n) (S := S) (L := L) (R := R) held).toNat).length = (more (n := n) (S := S) (L := L) (R := R) held).toNat := by
    rw [List.length_take, hp.length_eq]
    omega
  have pt := pair_take hs (more (n := n) (S := S) (L := L) (R := R) held).toNat
  have mem : ∀ j ∈ rest n held, j ∉ order.take (more (n := n) (S := S) (L := L) (R := R) held).toNat → j ∈ order.drop (more (n := n) (S := S) (L := L) (R := R) held).toNat := fun j hj hn => by
    have : j ∈ order := hp.mem_iff.mpr hj
    rw [← List.take_append_drop (more (n := n) (S := S) (L := L) (R := R) held).toNat order] at this
    exact (List.mem_append.mp this).resolve_left hn
  have ne : ∀ i ∈ order.take (more (n := n) (S := S) (L := L) (R := R) held).toNat, ∀ j ∈ order.drop (more (n := n) (S := S) (L := L) (R := R) held).toNat, i ≠ j := fun i hi j hj e => by
    rw [← List.take_append_drop (more (n := n) (S := S) (L := L) (R := R) held).toNat order, List.nodup_append] at nd
    exact nd.2.2 i hi j hj e
  refine ⟨h, fun i hi => ?_, nd.sublist (List.take_sublist _ _), fun i hi => hp.mem_iff.mp (List.mem_of_mem_take hi), by rw [len]; omega, fun i hi j hj hj2 => ?_, fun i hi => ?_, hf, it⟩
  · rcases Int.lt_or_le (left L R held * S i) (L i * every n S held) with z | z
    · have : i ∈ news n S L R held := by
        unfold news
        rw [List.mem_filter, decide_eq_true_eq]
        exact ⟨hi, z⟩
      rw [hn] at this
      cases this
    · exact z
  · have hd := mem j hj hj2
    have nij := ne i hi j hd
    rcases pt i hi j hd with z | z
    · exact .inl z
    · exact .inr ⟨z.1, by omega⟩
  · rcases Int.lt_or_le 0 (rem (n := n) (S := S) (L := L) (R := R) held i) with z | z
    · exact z
    · -- all behind i have no remainder
      exfalso
      have hb := rem_b Y h i
      have zr : rem (n := n) (S := S) (L := L) (R := R) held i = 0 := by omega
      have e := more_eq Y h
      have hpm : ((rest n held).map (rem (n := n) (S := S) (L := L) (R := R) held)).sum = (order.map (rem (n := n) (S := S) (L := L) (R := R) held)).sum := psum (hp.symm.map _)
      rw [hpm, ← List.take_append_drop (more (n := n) (S := S) (L := L) (R := R) held).toNat order, List.map_append, List.sum_append] at e
      have d0 : ((order.drop (more (n := n) (S := S) (L := L) (R := R) held).toNat).map (rem (n := n) (S := S) (L := L) (R := R) held)).sum ≤ 0 := by
        have := sum_le (l := order.drop (more (n := n) (S := S) (L := L) (R := R) held).toNat) (f := rem (n := n) (S := S) (L := L) (R := R) held) (g := fun _ => 0) fun j hj => by
          have hb2 := rem_b Y h j
          rcases pt i hi j hj with z | z <;> omega
        rw [sum_const] at this
        omega
      have t1 : ((order.take (more (n := n) (S := S) (L := L) (R := R) held).toNat).map (rem (n := n) (S := S) (L := L) (R := R) held)).sum < every n S held * more (n := n) (S := S) (L := L) (R := R) held := by
        have := sum_lt (l := order.take (more (n := n) (S := S) (L := L) (R := R) held).toNat) (f := rem (n := n) (S := S) (L := L) (R := R) held) (g := fun _ => every n S held) (fun e => by rw [e] at hi; cases hi) fun j _ => (rem_b Y h j).2
        rw [sum_const, len] at this
        rw [Int.toNat_of_nonneg m0] at this
        exact this
      omega
section
variable {F : Nat → Int} {held T : List Nat} (Y : Hyp n S L R) (o : Out n S L R F held T)
include Y o
theorem Out.quo_ge {i : Nat} (hi : i ∈ rest n held) : L i ≤ quo (n := n) (S := S) (L := L) (R := R) held i := by
  unfold quo
  exact (Int.le_ediv_iff_mul_le (every_pos Y o.inv)).mpr (o.fin i hi)
theorem Out.ge {i : Nat} (hi : i < n) : L i ≤ F i := by
  rw [o.f i hi]
  split
  · exact Int.le_refl _
  · rename_i z
    have := Out.quo_ge Y o (mem_rest.mpr ⟨hi, z⟩)
    split <;> omega
theorem Out.sum : ((List.range n).map F).sum = R := by
  have e : ((List.range n).map F).sum = ((List.range n).map fun i => if i ∈ held then L i else quo (n := n) (S := S) (L := L) (R := R) held i + if i ∈ T then 1 else 0).sum := sum_congr fun i hi => o.f i (List.mem_range.mp hi)
  rw [e, ← split_sum o.inv.nd o.inv.lt]
  have e1 : (held.map fun i => if i ∈ held then L i else quo (n := n) (S := S) (L := L) (R := R) held i + if i ∈ T then 1 else 0).sum = (held.map L).sum := sum_congr fun i hi => if_pos hi
  have e2 : ((rest n held).map fun i => if i ∈ held then L i else quo (n := n) (S := S) (L := L) (R := R) held i + if i ∈ T then 1 else 0).sum = ((rest n held).map fun i => quo (n := n) (S := S) (L := L) (R := R) held i + if i ∈ T then 1 else 0).sum := sum_congr fun i hi => if_neg (mem_rest.mp hi).2
  rw [e1, e2, sum_add, sum_ind rest_nd o.tn o.ts, o.tl]
  unfold more left
  omega
theorem Out.mono {i j : Nat} (hi : i < n) (hj : j < n) (hL : L i = L j) (hS : S j < S i) : F j ≤ F i := by
  rw [o.f i hi, o.f j hj]
  by_cases zj : j ∈ held
  · rw [if_pos zj, ← hL]
    have := o.f i hi ▸ Out.ge Y o hi
    exact this
  · have zi : i ∉ held := fun z => zj (o.inv.pair i j hi hj hL (by omega) z)
    rw [if_neg zj, if_neg zi]
    have he := every_pos Y o.inv
    have hl := left_pos Y o.inv
    have lt : left L R held * S j < left L R held * S i := Int.mul_lt_mul_of_pos_left hS hl
    have q := Int.ediv_le_ediv he (Int.le_of_lt lt)
    have q : quo (n := n) (S := S) (L := L) (R := R) held j ≤ quo (n := n) (S := S) (L := L) (R := R) held i := q
    by_cases e : quo (n := n) (S := S) (L := L) (R := R) held j = quo (n := n) (S := S) (L := L) (R := R) held i
    · have r : rem (n := n) (S := S) (L := L) (R := R) held j < rem (n := n) (S := S) (L := L) (R := R) held i := by
        have a := Int.mul_ediv_add_emod (left L R held * S j) (every n S held)
        have b := Int.mul_ediv_add_emod (left L R held * S i) (every n S held)
        unfold quo at e
        unfold rem
        rw [e] at a
        omega
      by_cases tj : j ∈ T
      · by_cases ti : i ∈ T
        · rw [if_pos tj, if_pos ti]; omega
        · exfalso
          rcases o.tp j tj i (mem_rest.mpr ⟨hi, zi⟩) ti with z | z <;> omega
      · rw [if_neg tj]
        split <;> omega
    · split <;> split <;> omega
theorem Out.twin {i j : Nat} (hi : i < n) (hj : j < n) (hij : i < j) (hL : L i = L j) (hS : S i = S j) : 0 ≤ F i - F j ∧ F i - F j ≤ 1 := by
  rw [o.f i hi, o.f j hj]
  by_cases zj : j ∈ held
  · have zi : i ∈ held := o.inv.pair j i hj hi hL.symm (by omega) zj
    rw [if_pos zj, if_pos zi]
    omega
  · have zi : i ∉ held := fun z => zj (o.inv.pair i j hi hj hL (by omega) z)
    rw [if_neg zj, if_neg zi]
    have eq : quo (n := n) (S := S) (L := L) (R := R) held i = quo (n := n) (S := S) (L := L) (R := R) held j := by unfold quo; rw [hS]
    have er : rem (n := n) (S := S) (L := L) (R := R) held i = rem (n := n) (S := S) (L := L) (R := R) held j := by unfold rem; rw [hS]
    by_cases tj : j ∈ T
    · by_cases ti : i ∈ T
      · rw [if_pos tj, if_pos ti]; omega
      · exfalso
        rcases o.tp j tj i (mem_rest.mpr ⟨hi, zi⟩) ti with z | z <;> omega
    · rw [if_neg tj]
      split <;> omega
theorem Out.least (hR : R = ((List.range n).map L).sum) {i : Nat} (hi : i < n) : F i = L i := by
  have s := Out.sum Y o
  rcases Int.lt_or_le (L i) (F i) with z | z
  · exfalso
    have a := sum_le (l := List.range n) (f := L) (g := F) fun j hj => Out.ge Y o (List.mem_range.mp hj)
    have b : ∀ (l : List Nat), l.Nodup → i ∈ l → (∀ j ∈ l, L j ≤ F j) → (l.map L).sum < (l.map F).sum := by
      intro l
      induction l with
      | nil => intro _ h _; cases h
      | cons x l ih =>
        intro nd hm hall
        simp only [List.map_cons, List.sum_cons]
        rcases List.mem_cons.mp hm with e | e
        · subst e
          have := sum_le (l := l) (f := L) (g := F) fun j hj => hall j (List.mem_cons_of_mem _ hj)
          omega
        · have h1 := hall x (List.mem_cons_self ..)
          have h2 := ih (List.nodup_cons.mp nd).2 e fun j hj => hall j (List.mem_cons_of_mem _ hj)
          omega
    have := b (List.range n) List.nodup_range (List.mem_range.mpr hi) fun j hj => Out.ge Y o (List.mem_range.mp hj)
    omega
  · have := Out.ge Y o hi
    omega
theorem Out.none (h : ∀ i, i < n → L i * ((List.range n).map S).sum ≤ R * S i) : held = [] := by
  refine iter_nil ?_ o.it
  unfold news
  rw [List.filter_eq_nil_iff]
  intro i hi
  rw [decide_eq_true_eq]
  have e1 : every n S [] = ((List.range n).map S).sum := by
    unfold every rest
    congr 2
    rw [List.filter_eq_self]
    intro a _
    simp
  have e2 : left L R [] = R := by
    unfold left
    simp
  rw [e1, e2]
  have := h i (mem_rest.mp hi).1
  omega
theorem rest_nil : rest n [] = List.range n := by
  clear Y o
  unfold rest
  rw [List.filter_eq_self]
  intro a _
  simp
/-- dealt out by what was dealt out -/
theorem Out.again (hR : R = ((List.range n).map S).sum) (hS : ∀ i, i < n → L i ≤ S i) {i : Nat} (hi : i < n) : F i = S i := by
  have R0 : 0 ≤ R := by
    have := Y.r
    have z := sum_nn (l := List.range n) (f := L) fun j hj => by have := Y.l1 j (List.mem_range.mp hj); omega
    omega
  have hh : held = [] := Out.none Y o fun j hj => by
    rw [← hR, Int.mul_comm R]
    exact Int.mul_le_mul_of_nonneg_right (hS j hj) R0
  subst hh
  have he := every_pos Y o.inv
  have e1 : every n S [] = R := by
    unfold every
    rw [rest_nil Y o, hR]
  have e2 : left L R [] = R := by
    unfold left
    simp
  rw [o.f i hi, if_neg (by simp)]
  have q : quo (n := n) (S := S) (L := L) (R := R) [] i = S i := by
    unfold quo
    rw [e1, e2]
    exact Int.mul_ediv_cancel_left _ (by omega)
  have r : rem (n := n) (S := S) (L := L) (R := R) [] i = 0 := by
    unfold rem
    rw [e1, e2]
    exact Int.mul_emod_right _ _
  rw [q]
  by_cases t : i ∈ T
  · have := o.tr i t
    omega
  · rw [if_neg t]
    omega
theorem Out.near (h : ∀ i, i < n → L i * ((List.range n).map S).sum ≤ R * S i) {i : Nat} (hi : i < n) : R * S i - ((List.range n).map S).sum < F i * ((List.range n).map S).sum ∧ F i * ((List.range n).map S).sum < R * S i + ((List.range n).map S).sum := by
  have hh : held = [] := Out.none Y o h
  subst hh
  have he := every_pos Y o.inv
  have e1 : every n S [] = ((List.range n).map S).sum := by
    unfold every
    rw [rest_nil Y o]
  have e2 : left L R [] = R := by
    unfold left
    simp
  have a := Int.mul_ediv_add_emod (R * S i) (((List.range n).map S).sum)
  have b := rem_b Y o.inv i
  have f := o.f i hi
  rw [if_neg (by simp)] at f
  have t := o.tr i
  unfold rem at b t
  unfold quo at f
  rw [e1, e2] at b t f
  rw [e1] at he
  by_cases ti : i ∈ T
  · have t := t ti
    rw [if_pos ti] at f
    rw [f, Int.add_mul, Int.mul_comm (R * S i / _)]
    omega
  · rw [if_neg ti] at f
    rw [f, Int.add_mul, Int.mul_comm (R * S i / _)]
    omega
end

theorem Out.stop {F : Nat → Int} {held T : List Nat} (o : Out n S L R F held T) : news n S L R held = [] := by
  unfold news
  rw [List.filter_eq_nil_iff]
  intro i hi
  rw [decide_eq_true_eq]
  have := o.fin i hi
  omega
theorem Out.uniq {F F' : Nat → Int} {held held' T T' : List Nat} (o : Out n S L R F held T) (o' : Out n S L R F' held' T') {i : Nat} (hi : i < n) : F i = F' i := by
  have e : held = held' := by
    obtain ⟨j, ej⟩ := o.it
    obtain ⟨k, ek⟩ := o'.it
    have h1 := o.stop
    have h2 := o'.stop
    rw [ej] at h1
    rw [ek] at h2
    rw [ej, ek]
    exact iter_uniq h1 h2
  subst e
  rw [o.f i hi, o'.f i hi]
  by_cases z : i ∈ held
  · rw [if_pos z, if_pos z]
  · rw [if_neg z, if_neg z]
    have hr : i ∈ rest n held := mem_rest.mpr ⟨hi, z⟩
    have len : T.length = T'.length := by
      have a := o.tl
      have b := o'.tl
      omega
    -- one in T alone brings one in T' alone
    have key : ∀ {A B : List Nat}, A.Nodup → B.Nodup → A.length = B.length → ∀ {x}, x ∈ A → x ∉ B → ∃ y, y ∈ B ∧ y ∉ A := fun {A B} na nb hl {x} hx hn => by
      by_cases h : ∃ y, y ∈ B ∧ y ∉ A
      · exact h
      · exfalso
        have hall : ∀ y ∈ B, y ∈ A := fun y hy => by
          by_cases q : y ∈ A
          · exact q
          · exact absurd ⟨y, hy, q⟩ h
        have p : (A.filter fun y => decide (y ∈ B)).Perm B := (List.perm_ext_iff_of_nodup (na.sublist List.filter_sublist) nb).mpr fun a => by
          simp only [List.mem_filter, decide_eq_true_eq]
          exact ⟨fun h => h.2, fun h => ⟨hall a h, h⟩⟩
        have l1 := p.length_eq
        have l2 : (A.filter fun y => decide (y ∈ B)).length < A.length := by
          have := List.length_filter_lt_length_iff_exists (p := fun y => decide (y ∈ B)) (l := A)
          exact this.mpr ⟨x, hx, by simp [hn]⟩
        omega
    have same : i ∈ T ↔ i ∈ T' := by
      constructor
      · intro h
        by_cases q : i ∈ T'
        · exact q
        · exfalso
          obtain ⟨y, y1, y2⟩ := key o.tn o'.tn len h q
          have a := o.tp i h y (o'.ts y y1) y2
          have b := o'.tp y y1 i hr q
          omega
      · intro h
        by_cases q : i ∈ T
        · exact q
        · exfalso
          obtain ⟨y, y1, y2⟩ := key o'.tn o.tn len.symm h q
          have a := o'.tp i h y (o.ts y y1) y2
          have b := o.tp y y1 i hr q
          omega
    by_cases q : i ∈ T
    · rw [if_pos q, if_pos (same.mp q)]
    · rw [if_neg q, if_neg fun w => q (same.mpr w)]
end
end Sh

namespace PF
open PySem L2
def d_is_within : FD := ⟨"is_within", ["thing", "low", "high"], ["thing", "low", "high"], [.frz, .frz, .frz], [.frz, .frz, .frz], 0, false,
  (.cons (.ret (.and (.isi .int (.var 0)) (.and (.not (.isi .bool (.var 0))) (.chain .le .le (.var 1) (.var 0) (.var 2))))) .nil)⟩
def d_held_least : FD := ⟨"held_least", ["room", "shares", "leasts"], ["room", "shares", "leasts", "held", "many", "rest", "at", "left", "every"], [.frz, .frz, .frz, .frz, .frz, .frz, .frz, .frz, .frz], [.frz, .frz, .frz], 1, false,
  (.cons (.set 3 (.lst .nil)) (.cons (.set 4 (.neg (.int 1))) (.cons (.whl 100 (.tcmp .ne (.var 4) (.bi .len (.cons (.var 3) .nil))) (.cons (.set 4 (.bi .len (.cons (.var 3) .nil))) (.cons (.setc 5 (.irng1 (.cons (.bi .len (.cons (.var 1) .nil)) .nil)) (.nm 6) (.tcmp .nin (.var 6) (.var 3)) (.var 6) [6]) (.cons (.set 7 (.bin .sub (.var 0) (.bi .sum (.cons (.comp (.iseq (.var 3)) (.nm 6) .hole (.ix (.var 2) (.var 6)) [6]) .nil)))) (.cons (.set 8 (.bi .sum (.cons (.comp (.iseq (.var 5)) (.nm 6) .hole (.ix (.var 1) (.var 6)) [6]) .nil))) (.cons (.set 3 (.bin .add (.var 3) (.comp (.iseq (.var 5)) (.nm 6) (.tcmp .lt (.bin .mul (.var 7) (.ix (.var 1) (.var 6))) (.bin .mul (.ix (.var 2) (.var 6)) (.var 8))) (.var 6) [6]))) .nil)))))) (.cons (.ret (.var 3)) .nil))))⟩
def d_shared_of (j_held_least : Nat) : FD := ⟨"shared_of", ["room", "shares", "leasts"], ["room", "shares", "leasts", "held", "found", "rest", "at", "left", "every", "more", "order"], [.frz, .frz, .frz, .frz, .own, .frz, .frz, .frz, .frz, .frz, .frz], [.frz, .frz, .frz], 0, true,
  (.cons (.set 3 (.call j_held_least (.cons (.var 0) (.cons (.var 1) (.cons (.var 2) .nil))))) (.cons (.set 4 (.bi .list (.cons (.var 2) .nil))) (.cons (.setc 5 (.irng1 (.cons (.bi .len (.cons (.var 1) .nil)) .nil)) (.nm 6) (.tcmp .nin (.var 6) (.var 3)) (.var 6) [6]) (.cons (.set 7 (.bin .sub (.var 0) (.bi .sum (.cons (.comp (.iseq (.var 3)) (.nm 6) .hole (.ix (.var 2) (.var 6)) [6]) .nil)))) (.cons (.set 8 (.bi .sum (.cons (.comp (.iseq (.var 5)) (.nm 6) .hole (.ix (.var 1) (.var 6)) [6]) .nil))) (.cons (.for (.iseq (.var 5)) (.nm 6) (.cons (.put 4 (.var 6) (.bin .div (.bin .mul (.var 7) (.ix (.var 1) (.var 6))) (.var 8))) .nil)) (.cons (.set 9 (.bin .sub (.var 0) (.bi .sum (.cons (.var 4) .nil)))) (.cons (.set 10 (.srt 5 7 1 8)) (.cons (.for (.iseq (.sl (.var 10) .hole (.prt (.var 9)))) (.nm 6) (.cons (.augput false 4 (.var 6) (.int 1)) .nil)) (.cons (.retv 4) .nil))))))))))⟩
def d_shared (j_is_within x_BadSize x_TooSmall j_shared_of : Nat) : FD := ⟨"shared", ["room", "shares", "leasts"], ["room", "shares", "leasts", "one"], [.frz, .frz, .frz, .frz], [.frz, .frz, .frz], 0, false,
  (.cons (.iff (.tor (.tnot (.tst (.call j_is_within (.cons (.var 0) (.cons (.int 1) (.cons (.gint "MOST_ROOM" 5000) .nil)))))) (.tor (.tnot (.tst (.isi .list (.var 1)))) (.tnot (.tst (.isi .list (.var 2)))))) (.cons (.raise x_BadSize) .nil) .nil) (.cons (.iff (.tor (.tnot (.tchn .le .le (.int 1) (.bi .len (.cons (.var 1) .nil)) (.int 8))) (.tcmp .ne (.bi .len (.cons (.var 1) .nil)) (.bi .len (.cons (.var 2) .nil)))) (.cons (.raise x_BadSize) .nil) .nil) (.cons (.iff (.tst (.comp (.iseq (.bin .add (.var 1) (.var 2))) (.nm 3) (.tnot (.tst (.call j_is_within (.cons (.var 3) (.cons (.int 1) (.cons (.int 1000) .nil)))))) (.var 3) [3])) (.cons (.raise x_BadSize) .nil) .nil) (.cons (.iff (.tcmp .gt (.bi .sum (.cons (.var 2) .nil)) (.var 0)) (.cons (.raise x_TooSmall) .nil) .nil) (.cons (.ret (.call j_shared_of (.cons (.var 0) (.cons (.var 1) (.cons (.var 2) .nil))))) .nil)))))⟩
def d__law_cell : FD := ⟨"_law_cell", ["script", "k"], ["script", "k"], [.frz, .frz], [.frz, .frz], 1, false,
  (.cons (.iff (.tcmp .lt (.var 1) (.bi .len (.cons (.var 0) .nil))) (.cons (.ret (.ix (.var 0) (.var 1))) .nil) .nil) (.cons (.ret (.int 0)) .nil))⟩
end PF

namespace PF
open PySem L2
/-! ### running the small language -/
section
variable {α β : Type} {m m' : Store} {rho r : En}
theorem bnd_ok {x : M α} {f : α → M β} {a : α} (h : x m = .ok a m') : bnd x f m = f a m' := by
  unfold bnd
  rw [h]
theorem exS_ok {x : M α} {k : α → Store → Rs} {a : α} (h : x m = .ok a m') : exS x rho k m = k a m' := by
  unfold exS
  rw [h]
theorem seq_nx {f g : SM} (h : f rho m = .nx r m') : seqS f g rho m = g r m' := by
  unfold seqS
  rw [h]
theorem seq_rt {f g : SM} {d : D} (h : f rho m = .rt d m') : seqS f g rho m = .rt d m' := by
  unfold seqS
  rw [h]
theorem set_ok {f : En → M D} {i : Nat} {d : D} (h : f rho m = .ok d m') : setS i f rho m = .nx (rho.set i (some d)) m' := exS_ok h
theorem ret_ok {f : En → M D} {d : D} (h : f rho m = .ok d m') : retS f rho m = .rt d m' := exS_ok h
theorem if_t {t : En → M Bool} {F G : SM} (h : t rho m = .ok true m') : ifS t F G rho m = F rho m' := exS_ok h
theorem if_f {t : En → M Bool} {F G : SM} (h : t rho m = .ok false m') : ifS t F G rho m = G rho m' := exS_ok h
theorem lift_ok {o : Option α} {a : α} (h : o = some a) : lift o m = .ok a m := by
  rw [h]
  rfl
theorem noX_ok {x : M α} {a : α} (h : x m = .ok a m') : noX x m = .ok a m' := by
  unfold noX
  rw [h]
theorem call_ok {nv : Nat} {F : SM} {ds : List D} {d : D} (h : F (ds.map some ++ List.replicate (nv - ds.length) none) m = .rt d m') : callF nv F ds m = .ok d m' := by
  unfold callF
  rw [h]
theorem cons_ok {f : En → M D} {fs : En → M (List D)} {d : D} {ds : List D} (h : f rho m = .ok d m) (hs : fs rho m = .ok ds m) : evCons f fs rho m = .ok (d :: ds) m := by
  unfold evCons
  rw [bnd_ok h, bnd_ok hs]
  rfl
theorem var_ok {i : Nat} {d : D} (h : rho[i]? = some (some d)) : evVar i rho m = .ok d m := by
  unfold evVar
  rw [h]
  rfl
theorem ev2_ok {sem : D → D → Option D} {fa fb : En → M D} {a b d : D} (ha : fa rho m = .ok a m) (hb : fb rho m = .ok b m) (h : sem a b = some d) : ev2 sem fa fb rho m = .ok d m := by
  unfold ev2
  rw [bnd_ok ha, bnd_ok hb, h]
  rfl
theorem ev1_ok {sem : D → Option D} {fa : En → M D} {a d : D} (ha : fa rho m = .ok a m) (h : sem a = some d) : ev1 sem fa rho m = .ok d m := by
  unfold ev1
  rw [bnd_ok ha, h]
  rfl
theorem evB_ok {sem : List D → Option D} {fs : En → M (List D)} {ds : List D} {d : D} (ha : fs rho m = .ok ds m) (h : sem ds = some d) : evB sem fs rho m = .ok d m := by
  unfold evB
  rw [bnd_ok ha, h]
  rfl
theorem evT_ok {f : En → M D} {b : Bool} (ha : f rho m = .ok (.bl b) m) : evT f rho m = .ok b m := by
  unfold evT
  rw [bnd_ok ha]
  rfl
theorem seq_ok {f : En → M D} {d : D} {ds : List D} (ha : f rho m = .ok d m) (h : itemsD d = some ds) : evSeq f rho m = .ok ds m := by
  unfold evSeq
  rw [bnd_ok ha, h]
  rfl
theorem ecall_ok {rn : List D → M D} {fs : En → M (List D)} {ds : List D} {d : D} (ha : fs rho m = .ok ds m) (h : rn ds m = .ok d m') : evCall rn fs rho m = .ok d m' := by
  unfold evCall
  rw [bnd_ok ha, h]
theorem mul_ok {fa fb : En → M D} {i j : Int} (ha : fa rho m = .ok (.int i) m) (hb : fb rho m = .ok (.int j) m) (h : mulOk i j) : ev2 (Bop.sem .mul) fa fb rho m = .ok (.int (i * j)) m := ev2_ok ha hb (if_pos h)
theorem div_ok {fa fb : En → M D} {i j : Int} (ha : fa rho m = .ok (.int i) m) (hb : fb rho m = .ok (.int j) m) (h : divOk j) : ev2 (Bop.sem .div) fa fb rho m = .ok (.int (i / j)) m := ev2_ok ha hb (if_pos h)
theorem mod_ok {fa fb : En → M D} {i j : Int} (ha : fa rho m = .ok (.int i) m) (hb : fb rho m = .ok (.int j) m) (h : 0 < j) : ev2 (Bop.sem .mod) fa fb rho m = .ok (.int (i % j)) m := ev2_ok ha hb (if_pos h)
theorem add_ok {fa fb : En → M D} {i j : Int} (ha : fa rho m = .ok (.int i) m) (hb : fb rho m = .ok (.int j) m) : ev2 (Bop.sem .add) fa fb rho m = .ok (.int (i + j)) m := ev2_ok ha hb rfl
theorem sub_ok {fa fb : En → M D} {i j : Int} (ha : fa rho m = .ok (.int i) m) (hb : fb rho m = .ok (.int j) m) : ev2 (Bop.sem .sub) fa fb rho m = .ok (.int (i - j)) m := ev2_ok ha hb rfl
theorem lt_ok {fa fb : En → M D} {i j : Int} (ha : fa rho m = .ok (.int i) m) (hb : fb rho m = .ok (.int j) m) : ev2 (Cop.sem .lt) fa fb rho m = .ok (.bl (decide (i < j))) m := ev2_ok ha hb rfl
theorem while_t {t : En → M Bool} {F : SM} {n : Nat} (h : t rho m = .ok true m) : whileS t F (n + 1) rho m = cont (whileS t F n) (F rho m) := exS_ok h
theorem while_f {t : En → M Bool} {F : SM} {n : Nat} (h : t rho m = .ok false m) : whileS t F (n + 1) rho m = .nx rho m := exS_ok h
theorem for_ok {fi : En → M (List D)} {t : Tg} {F : SM} {xs : List D} (h : fi rho m = .ok xs m) : forT fi t F rho m = forS t F xs rho m := exS_ok h
theorem compL_pure {t : Tg} {c : En → M Bool} {f : En → M D} {ι : Type} (e : ι → D) (P : ι → Bool) (g : ι → D) : ∀ {is : List ι}, (∀ i ∈ is, ∃ r, t.bind (e i) rho = some r ∧ c r m = .ok (P i) m ∧ (P i = true → f r m = .ok (g i) m)) → compL t c f rho (is.map e) m = .ok ((is.filter P).map g) m
  | [], _ => rfl
  | i :: is, h => by
    obtain ⟨r, h1, h2, h3⟩ := h i (List.mem_cons_self ..)
    have ih := compL_pure (t := t) (c := c) (f := f) e P g fun j hj => h j (List.mem_cons_of_mem _ hj)
    show (match t.bind (e i) rho with
      | none => (fun _ => R.bad)
      | some rho' => bnd (noX (c rho')) fun b => if b = true then bnd (noX (f rho')) fun y => bnd (compL t c f rho (is.map e)) fun ys => ret (y :: ys) else compL t c f rho (is.map e)) m = _
    rw [h1]
    show bnd (noX (c r)) _ m = _
    rw [bnd_ok (noX_ok h2), List.filter_cons]
    cases q : P i with
    | true =>
      rw [if_pos rfl, if_pos rfl, bnd_ok (noX_ok (h3 q)), bnd_ok ih]
      rfl
    | false =>
      rw [if_neg (by decide), if_neg (by decide), ih]
theorem comp_pure {fi : En → M (List D)} {t : Tg} {c : En → M Bool} {f : En → M D} {vs : List Nat} {ι : Type} (e : ι → D) (P : ι → Bool) (g : ι → D) {is : List ι} (hi : fi rho m = .ok (is.map e) m) (hl : is.length ≤ sizeLine)
    (h : ∀ i ∈ is, ∃ r, t.bind (e i) (wipeE rho vs) = some r ∧ c r m = .ok (P i) m ∧ (P i = true → f r m = .ok (g i) m)) : evComp fi t c f vs rho m = .ok (.lst ((is.filter P).map g)) m := by
  unfold evComp
  rw [bnd_ok hi, bnd_ok (lift_ok (if_pos (by rw [List.length_map]; exact hl))), bnd_ok (compL_pure e P g h)]
  rfl
theorem comp_all {fi : En → M (List D)} {t : Tg} {f : En → M D} {vs : List Nat} {ι : Type} (e : ι → D) (g : ι → D) {is : List ι} (hi : fi rho m = .ok (is.map e) m) (hl : is.length ≤ sizeLine)
    (h : ∀ i ∈ is, ∃ r, t.bind (e i) (wipeE rho vs) = some r ∧ f r m = .ok (g i) m) : evComp fi t yesB f vs rho m = .ok (.lst (is.map g)) m := by
  have := comp_pure (c := yesB) e (fun _ => true) g hi hl fun i hi => by
    obtain ⟨r, h1, h2⟩ := h i hi
    exact ⟨r, h1, rfl, fun _ => h2⟩
  rw [this, List.filter_eq_self.mpr fun _ _ => rfl]
end
abbrev zL (ns : List Int) : D := .lst (ns.map D.int)
abbrev dN (i : Nat) : D := .int (i : Int)
abbrev iL (is : List Nat) : D := .lst (is.map dN)
abbrev at_ (S : List Int) (i : Nat) : Int := S.getD i 0
theorem at_nat {α : Type} {xs : List α} {i : Nat} (h : i < xs.length) : atI xs (i : Int) = some xs[i] := by
  unfold atI ixN
  rw [if_pos (by omega), if_pos (by omega)]
  simp [h]
theorem ix_z {S : List Int} {i : Nat} (h : i < S.length) : ixD (zL S) (dN i) = some (.int (at_ S i)) := by
  show atI (S.map D.int) (i : Int) = _
  rw [at_nat (by simpa using h)]
  simp [at_, h]
theorem ints_of {ι : Type} (g : ι → Int) : ∀ is : List ι, asInts (is.map fun i => D.int (g i)) = some (is.map g)
  | [] => rfl
  | i :: is => by
    show (asInts (is.map _)).map (g i :: ·) = _
    rw [ints_of g is]
    rfl
theorem sum_of {ι : Type} (g : ι → Int) (is : List ι) : sumD (.lst (is.map fun i => D.int (g i))) = some (.int (is.map g).sum) := by
  show (asInts _).map _ = _
  rw [ints_of]
  rfl
theorem flat_all (held : List Nat) : (held.map dN).all D.flat = true := by
  rw [List.all_eq_true]
  intro x hx
  obtain ⟨j, _, rfl⟩ := List.mem_map.mp hx
  rfl
theorem any_eq (held : List Nat) (i : Nat) : ((held.map dN).any fun y => y.eqb (dN i)) = decide (i ∈ held) := by
  rw [List.any_map]
  induction held with
  | nil => rfl
  | cons a l ih =>
    rw [List.any_cons, ih]
    have e : ((fun y : D => y.eqb (dN i)) ∘ dN) a = decide (a = i) := by
      show ((a : Int) == (i : Int)) = _
      by_cases z : a = i
      · subst z; simp
      · rw [decide_eq_false z, beq_eq_false_iff_ne]
        omega
    rw [e]
    by_cases z : a = i
    · subst z; simp
    · have z2 : ¬ i = a := fun y => z y.symm
      simp [z, z2]
theorem nin_of (held : List Nat) (i : Nat) : inD true (dN i) (iL held) = some (.bl (decide (i ∉ held))) := by
  show (if (D.flat (dN i) && (held.map dN).all D.flat) = true then some (D.bl (!((held.map dN).any fun y => y.eqb (dN i)))) else none) = _
  rw [flat_all, any_eq, if_pos (show ((dN i).flat && true) = true from rfl)]
  congr 2
  by_cases z : i ∈ held <;> simp [z]
theorem rng_of (n : Nat) (h : n ≤ 1000) : rng1 [dN n] = some ((List.range n).map dN) := by
  show rngD 0 (n : Int) = _
  unfold rngD
  rw [if_pos (by omega)]
  congr 1
  have : ((n : Int) - 0).toNat = n := by omega
  rw [this]
  apply List.map_congr_left
  intro i _
  show D.int (0 + (i : Int)) = _
  rw [Int.zero_add]
/-! held_least -/
theorem small_mul {i j : Int} (h : 0 ≤ i ∧ i ≤ 1000000) : mulOk i j := .inl (.inl (by omega))
structure Inp (S L : List Int) (R : Int) : Prop where
  hl : L.length = S.length
  n1 : S.length ≤ 64
  r : R ≤ 1000000
  sb : ∀ i, i < S.length → at_ S i ≤ 10000
  hy : Sh.Hyp S.length (at_ S) (at_ L) R
theorem Inp.lb {S L : List Int} {R : Int} (h : Inp S L R) {i : Nat} (hi : i < S.length) : at_ L i ≤ 1000000 := by
  have a := h.hy.r
  have b := h.r
  have c : ∀ (l : List Nat), (∀ j ∈ l, 1 ≤ at_ L j) → i ∈ l → at_ L i ≤ (l.map (at_ L)).sum := by
    intro l
    induction l with
    | nil => intro _ h; cases h
    | cons x l ih =>
      intro hall hm
      simp only [List.map_cons, List.sum_cons]
      have h1 := hall x (List.mem_cons_self ..)
      have h2 := Sh.sum_nn (l := l) (f := at_ L) fun j hj => by have := hall j (List.mem_cons_of_mem _ hj); omega
      rcases List.mem_cons.mp hm with e | e
      · rw [← e]; omega
      · have := ih (fun j hj => hall j (List.mem_cons_of_mem _ hj)) e
        omega
  have := c (List.range S.length) (fun j hj => h.hy.l1 j (List.mem_range.mp hj)) (List.mem_range.mpr hi)
  omega
abbrev envH (R : Int) (S L : List Int) (held : List Nat) (many : Int) (a5 a7 a8 : Option D) : En := [some (.int R), some (zL S), some (zL L), some (iL held), some (.int many), a5, none, a7, a8]
section
variable {exm : Nat → Nat → Bool} {cl : Nat → List D → M D} {S L : List Int} {R : Int} {m : Store}
theorem big : (1000 : Nat) ≤ sizeLine := by decide
/-- rest: those not held -/
theorem ev_rest {rho : En} (ia ih is : Nat) (held : List Nat) (h1 : rho[is]? = some (some (zL S))) (h2 : rho[ih]? = some (some (iL held))) (hn : S.length ≤ 64) (hia : ia < rho.length) (n1 : ia ≠ ih) :
    evComp (evI rng1 (evCons (evB (Bi.sem .len) (evCons (evVar is) evNil)) evNil)) (.nm ia) (evT (ev2 (Cop.sem .nin) (evVar ia) (evVar ih))) (evVar ia) [ia] rho m = .ok (iL (Sh.rest S.length held)) m := by
  refine (comp_pure dN (fun i => decide (i ∉ held)) dN (is := List.range S.length) ?_ (by rw [List.length_range]; have := big; omega) fun i _ => ⟨_, rfl, ?_, fun _ => ?_⟩).trans rfl
  · have e : evB (Bi.sem .len) (evCons (evVar is) evNil) rho m = .ok (dN S.length) m := by
      simp [evB, evCons, evVar, evNil, bnd, lift, ret, h1, Bi.sem, one, lenD, dN]
    show bnd (evCons _ evNil rho) _ m = _
    have e2 : evCons (evB (Bi.sem .len) (evCons (evVar is) evNil)) evNil rho m = .ok [dN S.length] m := cons_ok e rfl
    rw [bnd_ok e2]
    exact lift_ok (rng_of _ (by omega))
  · have e1 : (((wipeE rho [ia]).set ia (some (dN i)))[ia]?).join = some (dN i) := by
      rw [List.getElem?_set_self (by simp [wipeE]; exact hia)]
      rfl
    have e2 : (((wipeE rho [ia]).set ia (some (dN i)))[ih]?).join = some (iL held) := by
      rw [List.getElem?_set_ne n1]
      show (((rho.set ia none))[ih]?).join = _
      rw [List.getElem?_set_ne n1, h2]
      rfl
    show bnd (bnd (evVar ia _) _) _ m = _
    unfold evVar
    rw [e1, e2]
    show bnd (bnd (lift (some (dN i))) fun x => bnd (lift (some (iL held))) fun y => lift (inD true x y)) _ m = _
    have : (bnd (lift (some (dN i))) fun x => bnd (lift (some (iL held))) fun y => lift (inD true x y)) m = .ok (.bl (decide (i ∉ held))) m := by
      show lift (inD true (dN i) (iL held)) m = _
      rw [nin_of]
      rfl
    rw [bnd_ok this]
    rfl
  · have e1 : (((wipeE rho [ia]).set ia (some (dN i)))[ia]?).join = some (dN i) := by
      rw [List.getElem?_set_self (by simp [wipeE]; exact hia)]
      rfl
    show lift _ m = _
    rw [e1]
    rfl
/-- sum([x[at] for at in is]) -/
theorem ev_sum {rho : En} (ia ix il : Nat) (X : List Int) (is : List Nat) (h1 : rho[ix]? = some (some (zL X))) (h2 : rho[il]? = some (some (iL is))) (hb : ∀ i ∈ is, i < X.length) (hl : is.length ≤ 64) (hia : ia < rho.length) (n1 : ia ≠ ix) :
    evB (Bi.sem .sum) (evCons (evComp (evSeq (evVar il)) (.nm ia) yesB (ev2 ixD (evVar ix) (evVar ia)) [ia]) evNil) rho m = .ok (.int ((is.map (at_ X)).sum)) m := by
  have e : evComp (evSeq (evVar il)) (.nm ia) yesB (ev2 ixD (evVar ix) (evVar ia)) [ia] rho m = .ok (.lst (is.map fun i => D.int (at_ X i))) m := by
    refine comp_all dN (fun i => D.int (at_ X i)) (is := is) ?_ (by have := big; omega) fun i hi => ⟨_, rfl, ?_⟩
    · simp [evSeq, evVar, bnd, lift, h2, itemsD]
    · have e1 : (((wipeE rho [ia]).set ia (some (dN i)))[ia]?).join = some (dN i) := by
        rw [List.getElem?_set_self (by simp [wipeE]; exact hia)]
        rfl
      have e2 : (((wipeE rho [ia]).set ia (some (dN i)))[ix]?).join = some (zL X) := by
        rw [List.getElem?_set_ne n1]
        show (((rho.set ia none))[ix]?).join = _
        rw [List.getElem?_set_ne n1, h1]
        rfl
      show bnd (evVar ix _) _ m = _
      unfold evVar
      rw [e1, e2]
      show lift (ixD (zL X) (dN i)) m = _
      rw [ix_z (hb i hi)]
      rfl
  exact evB_ok (cons_ok e rfl) (sum_of _ _)
/-- the loop's body -/
theorem held_body (h : Inp S L R) {held : List Nat} (hi : Sh.HInv S.length (at_ S) (at_ L) held) (many : Int) (a5 a7 a8 : Option D) :
    ∃ b5 b7 b8, (den exm cl (.cons (.set 4 (.bi .len (.cons (.var 3) .nil))) (.cons (.setc 5 (.irng1 (.cons (.bi .len (.cons (.var 1) .nil)) .nil)) (.nm 6) (.tcmp .nin (.var 6) (.var 3)) (.var 6) [6]) (.cons (.set 7 (.bin .sub (.var 0) (.bi .sum (.cons (.comp (.iseq (.var 3)) (.nm 6) .hole (.ix (.var 2) (.var 6)) [6]) .nil)))) (.cons (.set 8 (.bi .sum (.cons (.comp (.iseq (.var 5)) (.nm 6) .hole (.ix (.var 1) (.var 6)) [6]) .nil))) (.cons (.set 3 (.bin .add (.var 3) (.comp (.iseq (.var 5)) (.nm 6) (.tcmp .lt (.bin .mul (.var 7) (.ix (.var 1) (.var 6))) (.bin .mul (.ix (.var 2) (.var 6)) (.var 8))) (.var 6) [6]))) .nil)))))).s (envH R S L held many a5 a7 a8) m =
      .nx (envH R S L (held ++ Sh.news S.length (at_ S) (at_ L) R held) (held.length : Int) b5 b7 b8) m := by
  have hh : held.length ≤ 64 := by
    have p := Sh.rest_perm hi.nd hi.lt
    have := p.length_eq
    rw [List.length_append, List.length_range] at this
    have := h.n1
    omega
  have hrl : (Sh.rest S.length held).length ≤ 64 := by
    have p := Sh.rest_perm hi.nd hi.lt
    have := p.length_eq
    rw [List.length_append, List.length_range] at this
    have := h.n1
    omega
  have hp := Sh.left_pos h.hy hi
  have hpe := Sh.every_pos h.hy hi
  have hlR : Sh.left (at_ L) R held ≤ 1000000 := by
    have := Sh.sum_nn (l := held) (f := at_ L) fun j hj => by have := h.hy.l1 j (hi.lt j hj); omega
    have := h.r
    unfold Sh.left
    omega
  refine ⟨some (iL (Sh.rest S.length held)), some (.int (Sh.left (at_ L) R held)), some (.int (Sh.every S.length (at_ S) held)), ?_⟩
  simp only [den]
  refine (seq_nx (r := envH R S L held (held.length : Int) a5 a7 a8) (set_ok (d := dN held.length) (evB_ok (cons_ok (var_ok rfl) rfl) (by show some (D.int ((held.map dN).length : Int)) = _; rw [List.length_map])))).trans ?_
  refine (seq_nx (r := envH R S L held (held.length : Int) (some (iL (Sh.rest S.length held))) a7 a8) (set_ok (ev_rest 6 3 1 held rfl rfl h.n1 (by show 6 < 9; decide) (by decide)))).trans ?_
  refine (seq_nx (r := envH R S L held (held.length : Int) (some (iL (Sh.rest S.length held))) (some (.int (Sh.left (at_ L) R held))) a8) (set_ok (ev2_ok (var_ok rfl) (ev_sum 6 2 3 L held rfl rfl (fun i hi' => by rw [h.hl]; exact hi.lt i hi') hh (by show 6 < 9; decide) (by decide)) rfl))).trans ?_
  refine (seq_nx (r := envH R S L held (held.length : Int) (some (iL (Sh.rest S.length held))) (some (.int (Sh.left (at_ L) R held))) (some (.int (Sh.every S.length (at_ S) held)))) (set_ok (ev_sum 6 1 5 S (Sh.rest S.length held) rfl rfl (fun i hi' => (Sh.mem_rest.mp hi').1) hrl (by show 6 < 9; decide) (by decide)))).trans ?_
  refine (seq_nx (set_ok (ev2_ok (d := iL (held ++ Sh.news S.length (at_ S) (at_ L) R held)) (var_ok rfl) (comp_pure (is := Sh.rest S.length held) dN (fun i => decide (Sh.left (at_ L) R held * at_ S i < at_ L i * Sh.every S.length (at_ S) held)) dN (seq_ok (var_ok rfl) rfl) (by have := big; omega) fun i hi' => ⟨_, rfl, evT_ok (lt_ok (mul_ok (var_ok rfl) (ev2_ok (var_ok rfl) (var_ok rfl) (ix_z (Sh.mem_rest.mp hi').1)) (small_mul (by omega))) (mul_ok (ev2_ok (var_ok rfl) (var_ok rfl) (ix_z (by rw [h.hl]; exact (Sh.mem_rest.mp hi').1))) (var_ok rfl) (small_mul (by have a := h.lb (Sh.mem_rest.mp hi').1; have b := h.hy.l1 i (Sh.mem_rest.mp hi').1; omega)))), fun _ => var_ok rfl⟩) ?_))).trans rfl
  · show (if _ then some (D.lst (held.map dN ++ _)) else none) = _
    rw [if_pos ?_]
    · show some (D.lst (held.map dN ++ (Sh.news S.length (at_ S) (at_ L) R held).map dN)) = _
      rw [← List.map_append]
    · have : (List.filter (fun i => decide (Sh.left (at_ L) R held * at_ S i < at_ L i * Sh.every S.length (at_ S) held)) (Sh.rest S.length held)).length ≤ (Sh.rest S.length held).length := List.length_filter_le _ _
      have := big
      rw [List.length_map, List.length_map]
      omega

abbrev heldT : I := .tcmp .ne (.var 4) (.bi .len (.cons (.var 3) .nil))
abbrev heldB : I := .cons (.set 4 (.bi .len (.cons (.var 3) .nil))) (.cons (.setc 5 (.irng1 (.cons (.bi .len (.cons (.var 1) .nil)) .nil)) (.nm 6) (.tcmp .nin (.var 6) (.var 3)) (.var 6) [6]) (.cons (.set 7 (.bin .sub (.var 0) (.bi .sum (.cons (.comp (.iseq (.var 3)) (.nm 6) .hole (.ix (.var 2) (.var 6)) [6]) .nil)))) (.cons (.set 8 (.bi .sum (.cons (.comp (.iseq (.var 5)) (.nm 6) .hole (.ix (.var 1) (.var 6)) [6]) .nil))) (.cons (.set 3 (.bin .add (.var 3) (.comp (.iseq (.var 5)) (.nm 6) (.tcmp .lt (.bin .mul (.var 7) (.ix (.var 1) (.var 6))) (.bin .mul (.ix (.var 2) (.var 6)) (.var 8))) (.var 6) [6]))) .nil))))
theorem ne_ok {rho : En} {fa fb : En → M D} {i j : Int} (ha : fa rho m = .ok (.int i) m) (hb : fb rho m = .ok (.int j) m) : ev2 (Cop.sem .ne) fa fb rho m = .ok (.bl (!(i == j))) m := ev2_ok ha hb rfl
theorem eq_ok {rho : En} {fa fb : En → M D} {i j : Int} (ha : fa rho m = .ok (.int i) m) (hb : fb rho m = .ok (.int j) m) : ev2 (Cop.sem .eq) fa fb rho m = .ok (.bl (i == j)) m := ev2_ok ha hb rfl
theorem held_test (held : List Nat) (many : Int) (a5 a7 a8 : Option D) : (den exm cl heldT).b (envH R S L held many a5 a7 a8) m = .ok (!(many == (held.length : Int))) m := by
  simp only [den]
  refine evT_ok (ne_ok (var_ok rfl) (evB_ok (cons_ok (var_ok rfl) rfl) ?_))
  show some (D.int ((held.map dN).length : Int)) = _
  rw [List.length_map]
theorem held_loop (h : Inp S L R) : ∀ (fuel : Nat) (held : List Nat) (many : Int) (a5 a7 a8 : Option D), Sh.HInv S.length (at_ S) (at_ L) held → many ≠ held.length → S.length - held.length + 2 ≤ fuel →
    ∃ held' b5 b7 b8, whileS (den exm cl heldT).b (den exm cl heldB).s fuel (envH R S L held many a5 a7 a8) m = .nx (envH R S L held' (held'.length : Int) b5 b7 b8) m ∧ Sh.HInv S.length (at_ S) (at_ L) held' ∧ Sh.news S.length (at_ S) (at_ L) R held' = [] ∧ ((∃ k, held = Sh.iter S.length (at_ S) (at_ L) R k) → ∃ k, held' = Sh.iter S.length (at_ S) (at_ L) R k)
  | 0, held, many, a5, a7, a8, _, _, hf => by omega
  | fuel + 1, held, many, a5, a7, a8, hi, hm, hf => by
    have t := held_test (exm := exm) (cl := cl) (S := S) (L := L) (R := R) (m := m) held many a5 a7 a8
    rw [show (!(many == (held.length : Int))) = true by simp [hm]] at t
    obtain ⟨b5, b7, b8, hb⟩ := held_body (exm := exm) (cl := cl) (m := m) h hi many a5 a7 a8
    have hi2 := Sh.step_inv h.hy hi
    rw [while_t t, hb]
    show ∃ held' c5 c7 c8, whileS _ _ fuel (envH R S L (held ++ Sh.news S.length (at_ S) (at_ L) R held) (held.length : Int) b5 b7 b8) m = _ ∧ _
    by_cases e : Sh.news S.length (at_ S) (at_ L) R held = []
    · obtain ⟨f2, rfl⟩ : ∃ f2, fuel = f2 + 1 := ⟨fuel - 1, by omega⟩
      rw [e, List.append_nil]
      have t2 := held_test (exm := exm) (cl := cl) (S := S) (L := L) (R := R) (m := m) held (held.length : Int) b5 b7 b8
      rw [show (!((held.length : Int) == (held.length : Int))) = false by simp] at t2
      exact ⟨held, b5, b7, b8, while_f t2, hi, e, fun z => z⟩
    · have lp : 0 < (Sh.news S.length (at_ S) (at_ L) R held).length := List.length_pos_iff.mpr e
      have hl2 : held.length < S.length := by
        have p := (Sh.rest_perm hi2.nd hi2.lt).length_eq
        rw [List.length_append, List.length_append, List.length_range] at p
        omega
      obtain ⟨held', c5, c7, c8, q1, q2, q3, q4⟩ := held_loop h fuel (held ++ Sh.news S.length (at_ S) (at_ L) R held) (held.length : Int) b5 b7 b8 hi2 (by rw [List.length_append]; omega) (by rw [List.length_append]; omega)
      exact ⟨held', c5, c7, c8, q1, q2, q3, fun ⟨k, hk⟩ => q4 ⟨k + 1, by rw [hk]; rfl⟩⟩
theorem held_run (h : Inp S L R) : ∃ held, callF d_held_least.N.length (den exm cl d_held_least.ir).s [.int R, zL S, zL L] m = .ok (iL held) m ∧ Sh.HInv S.length (at_ S) (at_ L) held ∧ Sh.news S.length (at_ S) (at_ L) R held = [] ∧ ∃ k, held = Sh.iter S.length (at_ S) (at_ L) R k := by
  obtain ⟨held, b5, b7, b8, q1, q2, q3, q4⟩ := held_loop (exm := exm) (cl := cl) (m := m) h 100 [] (-1) none none none (Sh.start_inv h.hy) (by simp) (by have := h.n1; simp; omega)
  refine ⟨held, call_ok ?_, q2, q3, q4 ⟨0, rfl⟩⟩
  show (den exm cl d_held_least.ir).s [some (.int R), some (zL S), some (zL L), none, none, none, none, none, none] m = _
  simp only [d_held_least, den]
  refine (seq_nx (r := [some (.int R), some (zL S), some (zL L), some (iL []), none, none, none, none, none]) (set_ok rfl)).trans ?_
  refine (seq_nx (r := envH R S L [] (-1) none none none) (set_ok rfl)).trans ?_
  simp only [den] at q1
  refine (seq_nx q1).trans ?_
  exact seq_rt (ret_ok (var_ok rfl))

/-! shared_of -/
theorem cut_take {α : Type} (xs : List α) {k : Int} (h : 0 ≤ k) : cutL xs none (some k) = xs.take k.toNat := by
  have e : HT.sIx xs.length xs.length (some k) = min k.toNat xs.length := by
    show (if k < 0 then (k + (xs.length : Int)).toNat else min k.toNat xs.length) = _
    rw [if_neg (by omega)]
  unfold cutL
  rw [e]
  show ((xs.drop 0).take (min k.toNat xs.length - 0)) = _
  rw [List.drop_zero, Nat.sub_zero]
  by_cases z : k.toNat ≤ xs.length
  · rw [Nat.min_eq_left z]
  · rw [Nat.min_eq_right (by omega), List.take_of_length_le (Nat.le_refl _), List.take_of_length_le (by omega)]
def put1 (q : Nat → Int) (is : List Nat) (l : List Int) : List Int := is.foldl (fun l i => l.set i (q i)) l
def inc1 (is : List Nat) (l : List Int) : List Int := is.foldl (fun l i => l.set i (at_ l i + 1)) l
theorem at_set {l : List Int} {i j : Nat} {v : Int} (hi : i < l.length) : at_ (l.set i v) j = if j = i then v else at_ l j := by
  unfold at_
  rw [List.getD_eq_getElem?_getD, List.getD_eq_getElem?_getD, List.getElem?_set]
  by_cases e : i = j
  · subst e
    simp [hi]
  · have e2 : ¬ j = i := fun z => e z.symm
    simp [e, e2]
theorem put1_len (q : Nat → Int) : ∀ (is : List Nat) (l : List Int), (put1 q is l).length = l.length
  | [], _ => rfl
  | i :: is, l => (put1_len q is (l.set i (q i))).trans List.length_set
theorem inc1_len : ∀ (is : List Nat) (l : List Int), (inc1 is l).length = l.length
  | [], _ => rfl
  | i :: is, l => (inc1_len is (l.set i (at_ l i + 1))).trans List.length_set
theorem put1_at (q : Nat → Int) : ∀ {is : List Nat} {l : List Int} (j : Nat), (∀ i ∈ is, i < l.length) → at_ (put1 q is l) j = if j ∈ is then q j else at_ l j
  | [], _, _, _ => by simp [put1]
  | i :: is, l, j, h => by
    show at_ (put1 q is (l.set i (q i))) j = _
    rw [put1_at q j (by rw [List.length_set]; exact fun x hx => h x (List.mem_cons_of_mem _ hx)), at_set (h i (List.mem_cons_self ..))]
    by_cases e : j ∈ is
    · rw [if_pos e, if_pos (List.mem_cons_of_mem _ e)]
    · by_cases e2 : j = i
      · subst e2
        simp [e]
      · simp [e, e2]
theorem inc1_at : ∀ {is : List Nat} {l : List Int} (j : Nat), is.Nodup → (∀ i ∈ is, i < l.length) → at_ (inc1 is l) j = at_ l j + if j ∈ is then 1 else 0
  | [], _, _, _, _ => by simp [inc1]
  | i :: is, l, j, nd, h => by
    show at_ (inc1 is (l.set i (at_ l i + 1))) j = _
    rw [inc1_at j (List.nodup_cons.mp nd).2 (by rw [List.length_set]; exact fun x hx => h x (List.mem_cons_of_mem _ hx)), at_set (h i (List.mem_cons_self ..))]
    by_cases e2 : j = i
    · subst e2
      have := (List.nodup_cons.mp nd).1
      simp [this]
    · by_cases e : j ∈ is
      · simp [e, e2]
      · simp [e, e2]
theorem list_eq {l : List Int} {n : Nat} (hl : l.length = n) (F : Nat → Int) (h : ∀ j, j < n → at_ l j = F j) : l = (List.range n).map F := by
  refine List.ext_getElem (by simp [hl]) fun j h1 h2 => ?_
  have := h j (by omega)
  unfold at_ at this
  rw [List.getElem_map, List.getElem_range, ← this]
  simp [h1]
abbrev envS (R : Int) (S L : List Int) (held : List Nat) (f : List Int) (rest : List Nat) (a6 : Option D) (left every : Int) (a9 a10 : Option D) : En := [some (.int R), some (zL S), some (zL L), some (iL held), some (zL f), some (iL rest), a6, some (.int left), some (.int every), a9, a10]
theorem put_z {f : List Int} {i : Nat} {v : Int} (h : i < f.length) : putL (f.map D.int) (dN i) (.int v) = some (zL (f.set i v)) := by
  show (match ixN (f.map D.int).length (i : Int) with
    | some n => some (D.lst ((f.map D.int).set n (.int v)))
    | none => none) = _
  have e : ixN (f.map D.int).length (i : Int) = some i := by
    unfold ixN
    rw [List.length_map, if_pos (by omega), if_pos (by omega)]
    simp
  rw [e]
  show some (D.lst ((f.map D.int).set i (.int v))) = _
  show _ = some (D.lst ((f.set i v).map D.int))
  rw [List.map_set]
theorem for_put {S L : List Int} {R left every : Int} {held rest : List Nat} {a9 a10 : Option D} (hl : 0 ≤ left ∧ left ≤ 1000000) (he : divOk every) : ∀ (is : List Nat) (f : List Int) (a6 : Option D), (∀ i ∈ is, i < S.length) → (∀ i ∈ is, i < f.length) →
    ∃ b6, forS (.nm 6) (den exm cl (.cons (.put 4 (.var 6) (.bin .div (.bin .mul (.var 7) (.ix (.var 1) (.var 6))) (.var 8))) .nil)).s (is.map dN) (envS R S L held f rest a6 left every a9 a10) m = .nx (envS R S L held (put1 (fun i => left * at_ S i / every) is f) rest b6 left every a9 a10) m
  | [], f, a6, _, _ => ⟨a6, rfl⟩
  | i :: is, f, a6, h1, h2 => by
    obtain ⟨b6, ih⟩ := for_put (S := S) (L := L) (R := R) (held := held) (rest := rest) (a9 := a9) (a10 := a10) hl he is (f.set i (left * at_ S i / every)) (some (dN i)) (fun x hx => h1 x (List.mem_cons_of_mem _ hx)) (by rw [List.length_set]; exact fun x hx => h2 x (List.mem_cons_of_mem _ hx))
    refine ⟨b6, ?_⟩
    show cont (forS (.nm 6) _ (is.map dN)) ((den exm cl (.cons (.put 4 (.var 6) (.bin .div (.bin .mul (.var 7) (.ix (.var 1) (.var 6))) (.var 8))) .nil)).s (envS R S L held f rest (some (dN i)) left every a9 a10) m) = _
    have e : (den exm cl (.cons (.put 4 (.var 6) (.bin .div (.bin .mul (.var 7) (.ix (.var 1) (.var 6))) (.var 8))) .nil)).s (envS R S L held f rest (some (dN i)) left every a9 a10) m = .nx (envS R S L held (f.set i (left * at_ S i / every)) rest (some (dN i)) left every a9 a10) m := by
      simp only [den]
      refine (seq_nx ?_).trans rfl
      refine exS_ok (a := zL (f.set i (left * at_ S i / every))) ?_
      rw [bnd_ok (div_ok (mul_ok (var_ok rfl) (ev2_ok (var_ok rfl) (var_ok rfl) (ix_z (h1 i (List.mem_cons_self ..)))) (small_mul hl)) (var_ok rfl) he)]
      exact lift_ok (put_z (h2 i (List.mem_cons_self ..)))
    rw [e]
    exact ih

theorem for_inc {S L : List Int} {R left every : Int} {held rest : List Nat} {a9 a10 : Option D} : ∀ (is : List Nat) (f : List Int) (a6 : Option D), (∀ i ∈ is, i < f.length) →
    ∃ b6, forS (.nm 6) (den exm cl (.cons (.augput false 4 (.var 6) (.int 1)) .nil)).s (is.map dN) (envS R S L held f rest a6 left every a9 a10) m = .nx (envS R S L held (inc1 is f) rest b6 left every a9 a10) m
  | [], f, a6, _ => ⟨a6, rfl⟩
  | i :: is, f, a6, h2 => by
    obtain ⟨b6, ih⟩ := for_inc (S := S) (L := L) (R := R) (left := left) (every := every) (held := held) (rest := rest) (a9 := a9) (a10 := a10) is (f.set i (at_ f i + 1)) (some (dN i)) (by rw [List.length_set]; exact fun x hx => h2 x (List.mem_cons_of_mem _ hx))
    refine ⟨b6, ?_⟩
    show cont (forS (.nm 6) _ (is.map dN)) ((den exm cl (.cons (.augput false 4 (.var 6) (.int 1)) .nil)).s (envS R S L held f rest (some (dN i)) left every a9 a10) m) = _
    have e : (den exm cl (.cons (.augput false 4 (.var 6) (.int 1)) .nil)).s (envS R S L held f rest (some (dN i)) left every a9 a10) m = .nx (envS R S L held (f.set i (at_ f i + 1)) rest (some (dN i)) left every a9 a10) m := by
      simp only [den]
      refine (seq_nx ?_).trans rfl
      refine exS_ok (a := zL (f.set i (at_ f i + 1))) ?_
      show bnd (lift (ixD (zL f) (dN i))) (fun old => bnd (PF.ret (.int 1)) fun y => bnd (lift (augI false old y)) fun d => lift (putL (f.map D.int) (dN i) d)) m = _
      rw [ix_z (h2 i (List.mem_cons_self ..))]
      exact lift_ok (put_z (h2 i (List.mem_cons_self ..)))
    rw [e]
    exact ih
/-- the order -/
theorem sort_perm {S : List Int} {left every : Int} {rest : List Nat} : ∃ order : List Nat, order.Perm rest ∧ (sortBy left every S (rest.map fun (i : Nat) => (i : Int))) = order.map (fun (i : Nat) => (i : Int)) ∧ order.Pairwise fun i j => left * at_ S j % every < left * at_ S i % every ∨ (left * at_ S i % every = left * at_ S j % every ∧ i ≤ j) := by
  have p : (sortBy left every S (rest.map fun (i : Nat) => (i : Int))).Perm (rest.map fun (i : Nat) => (i : Int)) := List.mergeSort_perm _ _
  have mem : ∀ z ∈ sortBy left every S (rest.map fun (i : Nat) => (i : Int)), 0 ≤ z := fun z hz => by
    obtain ⟨i, _, rfl⟩ := List.mem_map.mp (p.mem_iff.mp hz)
    omega
  have pw : (sortBy left every S (rest.map fun (i : Nat) => (i : Int))).Pairwise fun a b => decide (sortKey left every S a < sortKey left every S b ∨ (sortKey left every S a = sortKey left every S b ∧ a ≤ b)) = true := List.pairwise_mergeSort (fun a b c h1 h2 => by
      rw [decide_eq_true_eq] at *
      omega) (fun a b => by
      simp only [Bool.or_eq_true, decide_eq_true_eq]
      omega) _
  refine ⟨(sortBy left every S (rest.map fun (i : Nat) => (i : Int))).map Int.toNat, ?_, ?_, ?_⟩
  · have := p.map Int.toNat
    rw [List.map_map] at this
    have e : (Int.toNat ∘ fun (i : Nat) => (i : Int)) = id := funext fun i => by simp
    rw [e, List.map_id] at this
    exact this
  · rw [List.map_map]
    conv => lhs; rw [← List.map_id (sortBy left every S (rest.map fun (i : Nat) => (i : Int)))]
    apply List.map_congr_left
    intro z hz
    show z = ((z.toNat : Nat) : Int)
    rw [Int.toNat_of_nonneg (mem z hz)]
  · rw [List.pairwise_map]
    refine pw.imp_of_mem fun {a b} ha hb h => ?_
    rw [decide_eq_true_eq] at h
    unfold sortKey at h
    have := mem a ha
    have := mem b hb
    unfold at_
    omega
theorem ints_dN : ∀ is : List Nat, asInts (is.map dN) = some (is.map fun (i : Nat) => (i : Int)) := fun is => ints_of (fun i : Nat => (i : Int)) is
theorem zsum (l : List Int) : l.sum = ((List.range l.length).map (at_ l)).sum := by
  conv => lhs; rw [list_eq (l := l) rfl (at_ l) fun _ _ => rfl]
theorem sortD_eq {dn ds : D} {ns S : List Int} {L ev : Int} (h1 : lstInts dn = some ns) (h2 : lstInts ds = some S) (ok : sortOk L ev S ns = true) : sortD dn (.int L) ds (.int ev) = some (.lst ((sortBy L ev S ns).map D.int)) := by
  unfold sortD
  rw [h1, h2]
  show (if sortOk L ev S ns = true then _ else _) = _
  rw [if_pos ok]
theorem shared_of_run (jh : Nat) (h : Inp S L R) {held : List Nat} (q1 : cl jh [.int R, zL S, zL L] m = .ok (iL held) m) (hi : Sh.HInv S.length (at_ S) (at_ L) held) (q3 : Sh.news S.length (at_ S) (at_ L) R held = []) (q4 : ∃ k, held = Sh.iter S.length (at_ S) (at_ L) R k) :
    ∃ F held T, callF (d_shared_of jh).N.length (den exm cl (d_shared_of jh).ir).s [.int R, zL S, zL L] m = .ok (zL ((List.range S.length).map F)) m ∧ Sh.Out S.length (at_ S) (at_ L) R F held T := by
  have hh : held.length ≤ 64 := by
    have p := Sh.rest_perm hi.nd hi.lt
    have := p.length_eq
    rw [List.length_append, List.length_range] at this
    have := h.n1
    omega
  have hrl : (Sh.rest S.length held).length ≤ 64 := by
    have p := Sh.rest_perm hi.nd hi.lt
    have := p.length_eq
    rw [List.length_append, List.length_range] at this
    have := h.n1
    omega
  have hp := Sh.left_pos h.hy hi
  have hpe := Sh.every_pos h.hy hi
  have hlR : Sh.left (at_ L) R held ≤ 1000000 := by
    have := Sh.sum_nn (l := held) (f := at_ L) fun j hj => by have := h.hy.l1 j (hi.lt j hj); omega
    have := h.r
    unfold Sh.left
    omega
  have heb : Sh.every S.length (at_ S) held ≤ 640000 := by
    have := Sh.sum_le (l := Sh.rest S.length held) (f := at_ S) (g := fun _ => 10000) fun j hj => h.sb j (Sh.mem_rest.mp hj).1
    rw [Sh.sum_const] at this
    unfold Sh.every
    omega
  have hdiv : divOk (Sh.every S.length (at_ S) held) := ⟨hpe, by
    have : (Sh.every S.length (at_ S) held).natAbs < 2 ^ 20 := by omega
    have := (Nat.log2_lt (by omega)).mpr this
    omega⟩
  obtain ⟨order, o1, o2, o3⟩ := sort_perm (S := S) (left := Sh.left (at_ L) R held) (every := Sh.every S.length (at_ S) held) (rest := Sh.rest S.length held)
  obtain ⟨mb0, mb1⟩ := Sh.more_b h.hy hi
  have hlen : (put1 (fun i => Sh.left (at_ L) R held * at_ S i / Sh.every S.length (at_ S) held) (Sh.rest S.length held) L).length = S.length := by rw [put1_len, h.hl]
  have hmore : R - (put1 (fun i => Sh.left (at_ L) R held * at_ S i / Sh.every S.length (at_ S) held) (Sh.rest S.length held) L).sum = Sh.more (n := S.length) (S := at_ S) (L := at_ L) (R := R) held := by
    rw [zsum, hlen, ← Sh.split_sum hi.nd hi.lt]
    have e1 : (held.map (at_ (put1 (fun i => Sh.left (at_ L) R held * at_ S i / Sh.every S.length (at_ S) held) (Sh.rest S.length held) L))).sum = (held.map (at_ L)).sum := Sh.sum_congr fun i hi' => by
      rw [put1_at _ _ (fun x hx => by rw [h.hl]; exact (Sh.mem_rest.mp hx).1), if_neg fun z => (Sh.mem_rest.mp z).2 hi']
    have e2 : ((Sh.rest S.length held).map (at_ (put1 (fun i => Sh.left (at_ L) R held * at_ S i / Sh.every S.length (at_ S) held) (Sh.rest S.length held) L))).sum = ((Sh.rest S.length held).map (Sh.quo (n := S.length) (S := at_ S) (L := at_ L) (R := R) held)).sum := Sh.sum_congr fun i hi' => by
      rw [put1_at _ _ (fun x hx => by rw [h.hl]; exact (Sh.mem_rest.mp hx).1), if_pos hi']
      rfl
    rw [e1, e2]
    unfold Sh.more Sh.left
    omega
  refine ⟨at_ (inc1 (order.take (Sh.more (n := S.length) (S := at_ S) (L := at_ L) (R := R) held).toNat) (put1 (fun i => Sh.left (at_ L) R held * at_ S i / Sh.every S.length (at_ S) held) (Sh.rest S.length held) L)), held, order.take (Sh.more (n := S.length) (S := at_ S) (L := at_ L) (R := R) held).toNat, ?_, ?_⟩
  · refine call_ok ?_
    show (den exm cl (d_shared_of jh).ir).s [some (.int R), some (zL S), some (zL L), none, none, none, none, none, none, none, none] m = _
    obtain ⟨b6, f1⟩ := for_put (exm := exm) (cl := cl) (m := m) (S := S) (L := L) (R := R) (left := Sh.left (at_ L) R held) (every := Sh.every S.length (at_ S) held) (held := held) (rest := Sh.rest S.length held) (a9 := none) (a10 := none) (by omega) hdiv (Sh.rest S.length held) L none (fun i hi' => (Sh.mem_rest.mp hi').1) (fun i hi' => by rw [h.hl]; exact (Sh.mem_rest.mp hi').1)
    obtain ⟨c6, f2⟩ := for_inc (exm := exm) (cl := cl) (m := m) (S := S) (L := L) (R := R) (left := Sh.left (at_ L) R held) (every := Sh.every S.length (at_ S) held) (held := held) (rest := Sh.rest S.length held) (a9 := some (.int (Sh.more (n := S.length) (S := at_ S) (L := at_ L) (R := R) held))) (a10 := some (iL order)) (order.take (Sh.more (n := S.length) (S := at_ S) (L := at_ L) (R := R) held).toNat) (put1 (fun i => Sh.left (at_ L) R held * at_ S i / Sh.every S.length (at_ S) held) (Sh.rest S.length held) L) b6 (fun i hi' => by
      rw [hlen]
      exact (Sh.mem_rest.mp (o1.mem_iff.mp (List.mem_of_mem_take hi'))).1)
    simp only [d_shared_of, den] at f1 f2 ⊢
    refine (seq_nx (r := [some (.int R), some (zL S), some (zL L), some (iL held), none, none, none, none, none, none, none]) (set_ok (ecall_ok (cons_ok (var_ok rfl) (cons_ok (var_ok rfl) (cons_ok (var_ok rfl) rfl))) q1))).trans ?_
    refine (seq_nx (r := [some (.int R), some (zL S), some (zL L), some (iL held), some (zL L), none, none, none, none, none, none]) (set_ok (evB_ok (cons_ok (var_ok rfl) rfl) rfl))).trans ?_
    refine (seq_nx (r := [some (.int R), some (zL S), some (zL L), some (iL held), some (zL L), some (iL (Sh.rest S.length held)), none, none, none, none, none]) (set_ok (ev_rest 6 3 1 held rfl rfl h.n1 (by show 6 < 11; decide) (by decide)))).trans ?_
    refine (seq_nx (r := [some (.int R), some (zL S), some (zL L), some (iL held), some (zL L), some (iL (Sh.rest S.length held)), none, some (.int (Sh.left (at_ L) R held)), none, none, none]) (set_ok (sub_ok (var_ok rfl) (ev_sum 6 2 3 L held rfl rfl (fun i hi' => by rw [h.hl]; exact hi.lt i hi') hh (by show 6 < 11; decide) (by decide))))).trans ?_
    refine (seq_nx (r := envS R S L held L (Sh.rest S.length held) none (Sh.left (at_ L) R held) (Sh.every S.length (at_ S) held) none none) (set_ok (ev_sum 6 1 5 S (Sh.rest S.length held) rfl rfl (fun i hi' => (Sh.mem_rest.mp hi').1) hrl (by show 6 < 11; decide) (by decide)))).trans ?_
    refine (seq_nx ((for_ok (seq_ok (var_ok rfl) rfl)).trans f1)).trans ?_
    refine (seq_nx (r := envS R S L held (put1 (fun i => Sh.left (at_ L) R held * at_ S i / Sh.every S.length (at_ S) held) (Sh.rest S.length held) L) (Sh.rest S.length held) b6 (Sh.left (at_ L) R held) (Sh.every S.length (at_ S) held) (some (.int (Sh.more (n := S.length) (S := at_ S) (L := at_ L) (R := R) held))) none) (m' := m) (set_ok (d := .int (Sh.more (n := S.length) (S := at_ S) (L := at_ L) (R := R) held)) ?_)).trans ?_
    · rw [← hmore]
      refine sub_ok (var_ok rfl) (evB_ok (cons_ok (var_ok rfl) rfl) ?_)
      show (asInts _).map _ = _
      rw [asInts_map]
      rfl
    refine (seq_nx (r := envS R S L held (put1 (fun i => Sh.left (at_ L) R held * at_ S i / Sh.every S.length (at_ S) held) (Sh.rest S.length held) L) (Sh.rest S.length held) b6 (Sh.left (at_ L) R held) (Sh.every S.length (at_ S) held) (some (.int (Sh.more (n := S.length) (S := at_ S) (L := at_ L) (R := R) held))) (some (iL order))) (m' := m) (set_ok (d := iL order) ?_)).trans ?_
    · show bnd (evVar 5 _) _ m = _
      rw [bnd_ok (var_ok rfl), bnd_ok (var_ok rfl), bnd_ok (var_ok rfl), bnd_ok (var_ok rfl)]
      refine lift_ok ((sortD_eq (dn := iL (Sh.rest S.length held)) (ds := zL S) (ints_dN _) (asInts_map S) ?_).trans ?_)
      · unfold sortOk
        simp only [Bool.and_eq_true, decide_eq_true_eq, List.all_eq_true]
        refine ⟨⟨⟨⟨hpe, fun z hz => ?_⟩, fun z _ => small_mul (by omega)⟩, by have := h.n1; omega⟩, by rw [List.length_map]; omega⟩
        obtain ⟨i, hi', rfl⟩ := List.mem_map.mp hz
        have := (Sh.mem_rest.mp hi').1
        omega
      · rw [o2, List.map_map]
        rfl
    refine (seq_nx ((for_ok (seq_ok (d := iL (order.take (Sh.more (n := S.length) (S := at_ S) (L := at_ L) (R := R) held).toNat)) ?_ rfl)).trans f2)).trans ?_
    · show bnd (evVar 10 _) _ m = _
      rw [bnd_ok (var_ok rfl), bnd_ok (show evPart none _ m = .ok none m from rfl), bnd_ok (show evPart (some (evVar 9)) _ m = .ok (some (Sh.more (n := S.length) (S := at_ S) (L := at_ L) (R := R) held)) m from rfl)]
      refine lift_ok ?_
      show some (D.lst (cutL (order.map dN) none (some _))) = _
      rw [cut_take _ mb0, ← List.map_take]
    refine seq_rt (ret_ok (var_ok ?_))
    show some (some (zL _)) = _
    rw [← list_eq (by rw [inc1_len, hlen]) _ fun _ _ => rfl]
  · refine Sh.out_of h.hy hi q3 o1 o3 (fun i hi' => ?_) q4
    have nd : order.Nodup := o1.nodup_iff.mpr Sh.rest_nd
    rw [inc1_at i (nd.sublist (List.take_sublist _ _)) (fun x hx => by rw [hlen]; exact (Sh.mem_rest.mp (o1.mem_iff.mp (List.mem_of_mem_take hx))).1), put1_at _ _ (fun x hx => by rw [h.hl]; exact (Sh.mem_rest.mp hx).1)]
    by_cases z : i ∈ held
    · have z2 : i ∉ Sh.rest S.length held := fun y => (Sh.mem_rest.mp y).2 z
      rw [if_pos z, if_neg z2, if_neg fun y => z2 (o1.mem_iff.mp (List.mem_of_mem_take y))]
      omega
    · have z2 : i ∈ Sh.rest S.length held := Sh.mem_rest.mpr ⟨hi', z⟩
      rw [if_neg z, if_pos z2]
      rfl
end
end PF

namespace PF
open PySem L2
section
variable {exm : Nat → Nat → Bool} {cl : Nat → List D → M D} {S L : List Int} {R : Int} {m : Store} {rho : En}
theorem chain_ok {fa fb fc : En → M D} {i j k : Int} (ha : fa rho m = .ok (.int i) m) (hb : fb rho m = .ok (.int j) m) (hc : fc rho m = .ok (.int k) m) : evChain (Cop.sem .le) (Cop.sem .le) fa fb fc rho m = .ok (.bl (decide (i ≤ j) && decide (j ≤ k))) m := by
  unfold evChain
  rw [bnd_ok ha, bnd_ok hb]
  show bnd (lift (some (D.bl (decide (i ≤ j))))) _ m = _
  by_cases h : i ≤ j
  · rw [decide_eq_true h]
    show bnd (fc rho) _ m = _
    rw [bnd_ok hc]
    rfl
  · rw [decide_eq_false h]
    rfl
theorem chain_lt {fa fb fc : En → M D} {i j k : Int} (ha : fa rho m = .ok (.int i) m) (hb : fb rho m = .ok (.int j) m) (hc : fc rho m = .ok (.int k) m) : evChain (Cop.sem .lt) (Cop.sem .lt) fa fb fc rho m = .ok (.bl (decide (i < j) && decide (j < k))) m := by
  unfold evChain
  rw [bnd_ok ha, bnd_ok hb]
  show bnd (lift (some (D.bl (decide (i < j))))) _ m = _
  by_cases h : i < j
  · rw [decide_eq_true h]
    show bnd (fc rho) _ m = _
    rw [bnd_ok hc]
    rfl
  · rw [decide_eq_false h]
    rfl
theorem and_t {f g : En → M D} (hf : f rho m = .ok (.bl true) m) : evAnd f g rho m = g rho m := by
  unfold evAnd
  rw [bnd_ok hf]
  rfl
theorem and_f {f g : En → M D} (hf : f rho m = .ok (.bl false) m) : evAnd f g rho m = .ok (.bl false) m := by
  unfold evAnd
  rw [bnd_ok hf]
  rfl
theorem skip {t : En → M Bool} {F G : SM} (h : t rho m = .ok false m) : seqS (ifS t F nxS) G rho m = G rho m := seq_nx (if_f h)
theorem within_run (t lo hi : Int) : callF d_is_within.N.length (den exm cl d_is_within.ir).s [.int t, .int lo, .int hi] m = .ok (.bl (decide (lo ≤ t) && decide (t ≤ hi))) m := by
  refine call_ok ?_
  show (den exm cl d_is_within.ir).s [some (.int t), some (.int lo), some (.int hi)] m = _
  simp only [d_is_within, den]
  refine seq_rt (ret_ok ?_)
  refine (and_t (show ev1 (isiD .int) (evVar 0) _ m = .ok (.bl true) m from rfl)).trans ((and_t (show evNot (ev1 (isiD .bool) (evVar 0)) _ m = .ok (.bl true) m from rfl)).trans ?_)
  exact chain_ok (var_ok rfl) (var_ok rfl) (var_ok rfl)
theorem tor_f {f g : En → M Bool} (hf : f rho m = .ok false m) : tbOr f g rho m = g rho m := by
  unfold tbOr
  rw [bnd_ok hf]
  rfl
theorem tor_t {f g : En → M Bool} (hf : f rho m = .ok true m) : tbOr f g rho m = .ok true m := by
  unfold tbOr
  rw [bnd_ok hf]
  rfl
theorem tand_t {f g : En → M Bool} (hf : f rho m = .ok true m) : tbAnd f g rho m = g rho m := by
  unfold tbAnd
  rw [bnd_ok hf]
  rfl
theorem tand_f {f g : En → M Bool} (hf : f rho m = .ok false m) : tbAnd f g rho m = .ok false m := by
  unfold tbAnd
  rw [bnd_ok hf]
  rfl
theorem tnot_ok {f : En → M Bool} {b : Bool} (hf : f rho m = .ok b m) : tbNot f rho m = .ok (!b) m := by
  unfold tbNot
  rw [bnd_ok hf]
  rfl
theorem tst_ok {f : En → M D} {d : D} {b : Bool} (hf : f rho m = .ok d m) (h : truthD d = some b) : bnd (f rho) truthM m = .ok b m := by
  rw [bnd_ok hf]
  unfold truthM
  rw [h]
  rfl
structure Inq (S L : List Int) (R : Int) : Prop where
  i : Inp S L R
  n8 : S.length ≤ 8
  r : R ≤ 5000
  s : ∀ x ∈ S, 1 ≤ x ∧ x ≤ 1000
  l : ∀ x ∈ L, 1 ≤ x ∧ x ≤ 1000
theorem Inq.mk' {S L : List Int} {R : Int} (h0 : 0 < S.length) (hl : L.length = S.length) (n8 : S.length ≤ 8) (r : R ≤ 5000) (s : ∀ x ∈ S, 1 ≤ x ∧ x ≤ 1000) (l : ∀ x ∈ L, 1 ≤ x ∧ x ≤ 1000) (hr : L.sum ≤ R) : Inq S L R := by
  have at_mem : ∀ {X : List Int} {i : Nat}, i < X.length → at_ X i ∈ X := fun {X i} hi => by
    unfold at_
    rw [show X.getD i 0 = X[i] by simp [hi]]
    exact List.getElem_mem hi
  refine ⟨⟨hl, by omega, by omega, fun i hi => by have := s _ (at_mem hi); omega, ⟨h0, fun i hi => (s _ (at_mem hi)).1, fun i hi => (l _ (at_mem (by omega))).1, ?_⟩⟩, n8, r, s, l⟩
  rw [← hl, ← zsum]
  exact hr
theorem Inq.r1 (h : Inq S L R) : 1 ≤ R ∧ L.sum ≤ R := by
  have a := h.i.hy.r
  have b := Sh.left_pos h.i.hy (Sh.start_inv h.i.hy)
  unfold Sh.left at b
  simp at b
  refine ⟨by omega, ?_⟩
  rw [zsum, h.i.hl]
  exact a
theorem shared_run (jw xb xt js : Nat) (h : Inq S L R) {d : D} {m' : Store} (hw : ∀ t lo hi : Int, cl jw [.int t, .int lo, .int hi] m = .ok (.bl (decide (lo ≤ t) && decide (t ≤ hi))) m) (hs : cl js [.int R, zL S, zL L] m = .ok d m') :
    callF (d_shared jw xb xt js).N.length (den exm cl (d_shared jw xb xt js).ir).s [.int R, zL S, zL L] m = .ok d m' := by
  refine call_ok ?_
  show (den exm cl (d_shared jw xb xt js).ir).s [some (.int R), some (zL S), some (zL L), none] m = _
  have n1 := h.i.hy.n0
  have n8 := h.n8
  have r1 := h.r1
  have r5 := h.r
  simp only [d_shared, den]
  refine (skip ?_).trans ?_
  · refine (tor_f (tnot_ok (b := true) (tst_ok (ecall_ok (cons_ok (var_ok rfl) (cons_ok rfl (cons_ok rfl rfl))) (hw R 1 5000)) ?_))).trans ((tor_f (tnot_ok (b := true) rfl)).trans (tnot_ok (b := true) rfl))
    show some _ = some true
    rw [decide_eq_true (by omega), decide_eq_true (by omega)]
    rfl
  refine (skip ?_).trans ?_
  · have e1 : evB (Bi.sem .len) (evCons (evVar 1) evNil) [some (.int R), some (zL S), some (zL L), none] m = .ok (.int (S.length : Int)) m := evB_ok (cons_ok (var_ok rfl) rfl) (by show some (D.int ((S.map D.int).length : Int)) = _; rw [List.length_map])
    have e2 : evB (Bi.sem .len) (evCons (evVar 2) evNil) [some (.int R), some (zL S), some (zL L), none] m = .ok (.int (L.length : Int)) m := evB_ok (cons_ok (var_ok rfl) rfl) (by show some (D.int ((L.map D.int).length : Int)) = _; rw [List.length_map])
    refine (tor_f (tnot_ok (b := true) (evT_ok ?_))).trans (evT_ok ?_)
    · refine (chain_ok rfl e1 rfl).trans ?_
      rw [decide_eq_true (by omega), decide_eq_true (by omega)]
      rfl
    · refine (ne_ok e1 e2).trans ?_
      rw [h.i.hl]
      simp
  refine (skip ?_).trans ?_
  · have e : ev2 (Bop.sem .add) (evVar 1) (evVar 2) [some (.int R), some (zL S), some (zL L), none] m = .ok (zL (S ++ L)) m := ev2_ok (var_ok rfl) (var_ok rfl) (by
      show (if _ then some (D.lst (S.map D.int ++ L.map D.int)) else none) = _
      rw [if_pos (by rw [List.length_map, List.length_map, h.i.hl]; have := big; omega), ← List.map_append])
    refine tst_ok (comp_pure (is := S ++ L) D.int (fun _ => false) D.int (seq_ok e rfl) (by rw [List.length_append, h.i.hl]; have := big; omega) fun i hi => ⟨_, rfl, tnot_ok (b := true) (tst_ok (ecall_ok (cons_ok (var_ok rfl) (cons_ok rfl (cons_ok rfl rfl))) (hw i 1 1000)) ?_), fun z => by cases z⟩) ?_
    · have : 1 ≤ i ∧ i ≤ 1000 := (List.mem_append.mp hi).elim (h.s i) (h.l i)
      show some _ = some true
      rw [decide_eq_true this.1, decide_eq_true this.2]
      rfl
    · rw [List.filter_eq_nil_iff.mpr fun _ _ => by simp]
      rfl
  refine (skip ?_).trans ?_
  · refine evT_ok (ev2_ok (evB_ok (cons_ok (var_ok rfl) rfl) (show sumD (zL L) = some (.int L.sum) by show (asInts _).map _ = _; rw [asInts_map]; rfl)) (var_ok rfl) ?_)
    show some (D.bl (decide (R < L.sum))) = _
    rw [decide_eq_false (by omega)]
  exact seq_rt (ret_ok (ecall_ok (cons_ok (var_ok rfl) (cons_ok (var_ok rfl) (cons_ok (var_ok rfl) rfl))) hs))

theorem run_s (exm : Nat → Nat → Bool) (fds : List FD) (k j : Nat) (d : FD) (h : fds[j]? = some d) : run exm fds (k + 1) j = callF d.N.length (den exm (run exm fds k) d.ir).s := by
  show (match fds[j]? with
    | some d => callF d.N.length (den exm (run exm fds k) d.ir).s
    | none => fun _ => bad) = _
  rw [h]
theorem shared_all {fds : List FD} {jw jh jo js xb xt : Nat} (fw : fds[jw]? = some d_is_within) (fh : fds[jh]? = some d_held_least) (fo : fds[jo]? = some (d_shared_of jh)) (fs : fds[js]? = some (d_shared jw xb xt jo)) (k : Nat) (h : Inq S L R) :
    ∃ F held T, run exm fds (k + 4) js [.int R, zL S, zL L] m = .ok (zL ((List.range S.length).map F)) m ∧ Sh.Out S.length (at_ S) (at_ L) R F held T := by
  obtain ⟨held, q1, hi, q3, q4⟩ := held_run (exm := exm) (cl := run exm fds (k + 1)) (m := m) h.i
  rw [← run_s exm fds (k + 1) jh _ fh] at q1
  obtain ⟨F, held, T, o1, o2⟩ := shared_of_run (exm := exm) (cl := run exm fds (k + 2)) (m := m) jh h.i q1 hi q3 q4
  rw [← run_s exm fds (k + 2) jo _ fo] at o1
  refine ⟨F, held, T, ?_, o2⟩
  rw [run_s exm fds (k + 3) js _ fs]
  refine shared_run jw xb xt jo h (fun t lo hi => ?_) ?_
  · rw [run_s exm fds (k + 2) jw _ fw]
    exact within_run t lo hi
  · exact o1
end
end PF

namespace PF
open PySem L2
def d__law_seed : FD := ⟨"_law_seed", ["seed", "k"], ["seed", "k"], [.frz, .frz], [.frz, .frz], 0, false,
  (.cons (.ret (.bin .mod (.bin .pow (.bin .mod (.bin .add (.bin .add (.bin .mul (.var 0) (.int 1103515245)) (.bin .mul (.int 7919) (.var 1))) (.int 12345)) (.int 2147483647)) (.int 5)) (.int 2147483647))) .nil)⟩
def d__law_shared : FD := ⟨"_law_shared", ["room", "shares", "leasts"], ["room", "shares", "leasts", "found", "rest", "again", "every", "at", "less", "order", "more", "k", "key"], [.frz, .frz, .frz, .own, .frz, .frz, .frz, .frz, .frz, .frz, .frz, .frz, .frz], [.frz, .frz, .frz], 0, false,
  (.cons (.set 3 (.bin .mul (.lst (.cons (.int 0) .nil)) (.bi .len (.cons (.var 1) .nil)))) (.cons (.set 4 (.lrng (.bi .len (.cons (.var 1) .nil)))) (.cons (.set 5 (.bl true)) (.cons (.whl 100 (.tst (.var 5)) (.cons (.set 6 (.bi .sum (.cons (.comp (.iseq (.var 4)) (.nm 7) .hole (.ix (.var 1) (.var 7)) [7]) .nil))) (.cons (.set 8 (.comp (.iseq (.var 4)) (.nm 7) (.tcmp .lt (.bin .mul (.var 0) (.ix (.var 1) (.var 7))) (.bin .mul (.ix (.var 2) (.var 7)) (.var 6))) (.var 7) [7])) (.cons (.for (.iseq (.var 8)) (.nm 7) (.cons (.put 3 (.var 7) (.ix (.var 2) (.var 7))) .nil)) (.cons (.set 0 (.bin .sub (.var 0) (.bi .sum (.cons (.comp (.iseq (.var 8)) (.nm 7) .hole (.ix (.var 2) (.var 7)) [7]) .nil)))) (.cons (.setc 4 (.iseq (.var 4)) (.nm 7) (.tcmp .nin (.var 7) (.var 8)) (.var 7) [7]) (.cons (.set 5 (.cmp .ne (.var 8) (.lst .nil))) .nil))))))) (.cons (.set 6 (.bi .sum (.cons (.comp (.iseq (.var 4)) (.nm 7) .hole (.ix (.var 1) (.var 7)) [7]) .nil))) (.cons (.set 9 (.bi .sorted (.cons (.comp (.iseq (.var 4)) (.nm 7) .hole (.tup (.cons (.neg (.bin .mod (.bin .mul (.var 0) (.ix (.var 1) (.var 7))) (.var 6))) (.cons (.var 7) .nil))) [7]) .nil))) (.cons (.set 10 (.bin .sub (.var 0) (.bi .sum (.cons (.comp (.iseq (.var 4)) (.nm 7) .hole (.bin .div (.bin .mul (.var 0) (.ix (.var 1) (.var 7))) (.var 6)) [7]) .nil)))) (.cons (.for (.ienm (.cons (.var 9) .nil)) (.tn 11 [12, 7]) (.cons (.put 3 (.var 7) (.bin .add (.bin .div (.bin .mul (.var 0) (.ix (.var 1) (.var 7))) (.var 6)) (.bi .int (.cons (.cmp .lt (.var 11) (.var 10)) .nil)))) .nil)) (.cons (.retv 3) .nil)))))))))⟩
def d_law (j__law_cell j__law_seed j_shared j__law_shared x_BadSize x_TooSmall : Nat) : FD := ⟨"law", ["script"], ["script", "many", "most", "shares", "k", "leasts", "room", "odd", "one", "two", "three", "caught", "way"], [.frz, .frz, .frz, .frz, .frz, .frz, .frz, .own, .frz, .frz, .frz, .own, .frz], [.frz], 0, false,
  (.cons (.set 1 (.bin .add (.int 1) (.bin .mod (.call j__law_cell (.cons (.var 0) (.cons (.int 0) .nil))) (.int 8)))) (.cons (.set 2 (.ix (.lst (.cons (.int 3) (.cons (.int 20) (.cons (.int 1000) .nil)))) (.bin .mod (.call j__law_cell (.cons (.var 0) (.cons (.int 1) .nil))) (.int 3)))) (.cons (.setc 3 (.irng1 (.cons (.var 1) .nil)) (.nm 4) .hole (.bin .add (.int 1) (.bin .mod (.call j__law_seed (.cons (.call j__law_cell (.cons (.var 0) (.cons (.int 2) .nil))) (.cons (.var 4) .nil))) (.var 2))) [4]) (.cons (.setc 5 (.irng1 (.cons (.var 1) .nil)) (.nm 4) .hole (.bin .add (.int 1) (.bin .mod (.call j__law_seed (.cons (.call j__law_cell (.cons (.var 0) (.cons (.int 3) .nil))) (.cons (.var 4) .nil))) (.ix (.lst (.cons (.int 1) (.cons (.int 9) (.cons (.int 600) .nil)))) (.bin .mod (.call j__law_cell (.cons (.var 0) (.cons (.int 4) .nil))) (.int 3))))) [4]) (.cons (.set 6 (.bin .add (.bi .sum (.cons (.var 5) .nil)) (.ix (.lst (.cons (.int 0) (.cons (.bin .mod (.call j__law_cell (.cons (.var 0) (.cons (.int 5) .nil))) (.int 40)) (.cons (.bin .mod (.call j__law_cell (.cons (.var 0) (.cons (.int 5) .nil))) (.int 5000)) .nil)))) (.bin .mod (.call j__law_cell (.cons (.var 0) (.cons (.int 6) .nil))) (.int 3))))) (.cons (.set 6 (.bi .min (.cons (.int 5000) (.cons (.var 6) .nil)))) (.cons (.iff (.tcmp .ne (.call j_shared (.cons (.var 6) (.cons (.var 3) (.cons (.var 5) .nil)))) (.call j__law_shared (.cons (.var 6) (.cons (.var 3) (.cons (.var 5) .nil))))) (.cons (.ret (.bl false)) .nil) .nil) (.cons (.set 7 (.lst (.cons (.tup (.cons (.int 0) (.cons (.var 3) (.cons (.var 5) .nil)))) (.cons (.tup (.cons (.int 5001) (.cons (.var 3) (.cons (.var 5) .nil)))) (.cons (.tup (.cons .non (.cons (.var 3) (.cons (.var 5) .nil)))) (.cons (.tup (.cons (.var 6) (.cons (.lst .nil) (.cons (.lst .nil) .nil)))) .nil)))))) (.cons (.set 7 (.bin .add (.var 7) (.lst (.cons (.tup (.cons (.var 6) (.cons (.bi .tuple (.cons (.var 3) .nil)) (.cons (.var 5) .nil)))) (.cons (.tup (.cons (.var 6) (.cons (.var 3) (.cons (.bin .add (.var 5) (.lst (.cons (.int 1) .nil))) .nil)))) (.cons (.tup (.cons (.var 6) (.cons (.bin .add (.sl (.var 3) .hole (.prt (.neg (.int 1)))) (.lst (.cons (.int 0) .nil))) (.cons (.var 5) .nil)))) .nil)))))) (.cons (.app 7 (.tup (.cons (.var 6) (.cons (.var 3) (.cons (.bin .add (.sl (.var 5) .hole (.prt (.neg (.int 1)))) (.lst (.cons (.bl true) .nil))) .nil))))) (.cons (.set 7 (.bin .add (.var 7) (.lst (.cons (.tup (.cons (.var 6) (.cons (.bin .mul (.lst (.cons (.int 1) .nil)) (.int 9)) (.cons (.bin .mul (.lst (.cons (.int 1) .nil)) (.int 9)) .nil)))) (.cons (.tup (.cons (.bl true) (.cons (.var 3) (.cons (.var 5) .nil)))) (.cons (.tup (.cons (.var 6) (.cons (.bin .add (.sl (.var 3) .hole (.prt (.neg (.int 1)))) (.lst (.cons (.str "1") .nil))) (.cons (.var 5) .nil)))) .nil)))))) (.cons (.app 7 (.tup (.cons (.var 6) (.cons (.var 3) (.cons (.bin .add (.sl (.var 5) .hole (.prt (.neg (.int 1)))) (.lst (.cons (.int 1001) .nil))) .nil))))) (.cons (.unp (.tp [8, 9, 10]) (.ix (.var 7) (.bin .mod (.call j__law_cell (.cons (.var 0) (.cons (.int 7) .nil))) (.int 12)))) (.cons (.set 11 (.lst .nil)) (.cons (.for (.irng1 (.cons (.int 2) .nil)) (.nm 12) (.cons (.try (.cons (.iff (.tcmp .eq (.var 12) (.int 0)) (.cons (.expr (.call j_shared (.cons (.var 8) (.cons (.var 9) (.cons (.var 10) .nil))))) .nil) (.cons (.expr (.call j_shared (.cons (.bi .sum (.cons (.var 5) .nil)) (.cons (.var 3) (.cons (.bin .add (.lst (.cons (.bin .add (.int 1) (.ix (.var 5) (.int 0))) .nil)) (.sl (.var 5) (.prt (.int 1)) .hole)) .nil))))) .nil)) .nil) (.hnd x_BadSize (.cons (.app 11 (.str "size")) .nil) (.hnd x_TooSmall (.cons (.app 11 (.str "small")) .nil) .nil))) .nil)) (.cons (.ret (.cmp .eq (.var 11) (.lst (.cons (.str "size") (.cons (.str "small") .nil))))) .nil))))))))))))))))⟩
end PF

namespace PF
open PySem L2
section
variable {exm : Nat → Nat → Bool} {cl : Nat → List D → M D} {S L : List Int} {R : Int} {m : Store} {rho : En}
theorem iz (is : List Nat) : iL is = zL (is.map fun (i : Nat) => (i : Int)) := by
  show D.lst _ = D.lst _
  rw [List.map_map]
  rfl
theorem plL_ints : ∀ l : List Int, D.plL (l.map D.int) = true
  | [] => rfl
  | i :: l => by
    show (D.pl (.int i) && D.plL (l.map D.int)) = true
    rw [plL_ints l]
    rfl
theorem dpL_ints : ∀ l : List Int, D.dpL (l.map D.int) = 0
  | [] => rfl
  | i :: l => by
    show max (D.dp (.int i)) (D.dpL (l.map D.int)) = 0
    rw [dpL_ints l]
    rfl
theorem eqOk_z (a b : List Int) : eqOk (zL a) (zL b) = true := by
  rw [eqOk_iff]
  have e : ∀ l : List Int, (zL l).dp = 1 := fun l => by
    show D.dpL (l.map D.int) + 1 = 1
    rw [dpL_ints]
  rw [e, e]
  exact ⟨plL_ints a, plL_ints b, by decide, by decide⟩
theorem ne_nil (is : List Nat) : neD (iL is) (.lst []) = some (.bl (decide (is ≠ []))) := by
  have e : eqOk (iL is) (.lst []) = true := by
    rw [iz]
    exact eqOk_z _ []
  unfold neD
  rw [e]
  simp only [Bool.or_true, if_true]
  cases is with
  | nil => rfl
  | cons a l => rfl
theorem ne_z (a : List Int) : neD (zL a) (zL a) = some (.bl false) := by
  unfold neD
  rw [eqOk_z, eqb_refl (zL a) (show D.pl (zL a) = true from plL_ints a)]
  simp
abbrev envG (room : Int) (S L f : List Int) (rest : List Nat) (again : Bool) (a6 a7 a8 : Option D) : En := [some (.int room), some (zL S), some (zL L), some (zL f), some (iL rest), some (.bl again), a6, a7, a8, none, none, none, none]
theorem rest_step (held : List Nat) (n : Nat) (nw : List Nat) : (Sh.rest n held).filter (fun i => decide (i ∉ nw)) = Sh.rest n (held ++ nw) := by
  unfold Sh.rest
  rw [List.filter_filter]
  apply List.filter_congr
  intro i _
  by_cases a : i ∈ held <;> by_cases b : i ∈ nw <;> simp [a, b]
theorem left_step (held nw : List Nat) : Sh.left (at_ L) R (held ++ nw) = Sh.left (at_ L) R held - (nw.map (at_ L)).sum := by
  unfold Sh.left
  rw [List.map_append, List.sum_append]
  omega
theorem for_least {room : Int} {rest : List Nat} {again : Bool} {a6 a8 : Option D} : ∀ (is : List Nat) (f : List Int) (a7 : Option D), (∀ i ∈ is, i < L.length) → (∀ i ∈ is, i < f.length) →
    ∃ b7, forS (.nm 7) (den exm cl (.cons (.put 3 (.var 7) (.ix (.var 2) (.var 7))) .nil)).s (is.map dN) (envG room S L f rest again a6 a7 a8) m = .nx (envG room S L (put1 (at_ L) is f) rest again a6 b7 a8) m
  | [], f, a7, _, _ => ⟨a7, rfl⟩
  | i :: is, f, a7, h1, h2 => by
    obtain ⟨b7, ih⟩ := for_least (room := room) (rest := rest) (again := again) (a6 := a6) (a8 := a8) is (f.set i (at_ L i)) (some (dN i)) (fun x hx => h1 x (List.mem_cons_of_mem _ hx)) (by rw [List.length_set]; exact fun x hx => h2 x (List.mem_cons_of_mem _ hx))
    refine ⟨b7, ?_⟩
    show cont (forS (.nm 7) _ (is.map dN)) ((den exm cl (.cons (.put 3 (.var 7) (.ix (.var 2) (.var 7))) .nil)).s (envG room S L f rest again a6 (some (dN i)) a8) m) = _
    have e : (den exm cl (.cons (.put 3 (.var 7) (.ix (.var 2) (.var 7))) .nil)).s (envG room S L f rest again a6 (some (dN i)) a8) m = .nx (envG room S L (f.set i (at_ L i)) rest again a6 (some (dN i)) a8) m := by
      simp only [den]
      refine (seq_nx ?_).trans rfl
      refine exS_ok (a := zL (f.set i (at_ L i))) ?_
      rw [bnd_ok (ev2_ok (var_ok rfl) (var_ok rfl) (ix_z (h1 i (List.mem_cons_self ..))))]
      exact lift_ok (put_z (h2 i (List.mem_cons_self ..)))
    rw [e]
    exact ih
abbrev lsB : I := .cons (.set 6 (.bi .sum (.cons (.comp (.iseq (.var 4)) (.nm 7) .hole (.ix (.var 1) (.var 7)) [7]) .nil))) (.cons (.set 8 (.comp (.iseq (.var 4)) (.nm 7) (.tcmp .lt (.bin .mul (.var 0) (.ix (.var 1) (.var 7))) (.bin .mul (.ix (.var 2) (.var 7)) (.var 6))) (.var 7) [7])) (.cons (.for (.iseq (.var 8)) (.nm 7) (.cons (.put 3 (.var 7) (.ix (.var 2) (.var 7))) .nil)) (.cons (.set 0 (.bin .sub (.var 0) (.bi .sum (.cons (.comp (.iseq (.var 8)) (.nm 7) .hole (.ix (.var 2) (.var 7)) [7]) .nil)))) (.cons (.setc 4 (.iseq (.var 4)) (.nm 7) (.tcmp .nin (.var 7) (.var 8)) (.var 7) [7]) (.cons (.set 5 (.cmp .ne (.var 8) (.lst .nil))) .nil)))))
theorem lens (h : Inp S L R) {held : List Nat} (hi : Sh.HInv S.length (at_ S) (at_ L) held) : (Sh.rest S.length held).length ≤ 64 ∧ Sh.left (at_ L) R held ≤ 1000000 ∧ Sh.every S.length (at_ S) held ≤ 640000 := by
  have p := (Sh.rest_perm hi.nd hi.lt).length_eq
  rw [List.length_append, List.length_range] at p
  have := h.n1
  have hl : (Sh.rest S.length held).length ≤ 64 := by omega
  refine ⟨hl, ?_, ?_⟩
  · have := Sh.sum_nn (l := held) (f := at_ L) fun j hj => by have := h.hy.l1 j (hi.lt j hj); omega
    have := h.r
    unfold Sh.left
    omega
  · have := Sh.sum_le (l := Sh.rest S.length held) (f := at_ S) (g := fun _ => 10000) fun j hj => h.sb j (Sh.mem_rest.mp hj).1
    rw [Sh.sum_const] at this
    unfold Sh.every
    omega
theorem ls_body (h : Inp S L R) {held : List Nat} (hi : Sh.HInv S.length (at_ S) (at_ L) held) {f : List Int} (hf : f.length = S.length) (a6 a7 a8 : Option D) :
    ∃ b6 b7 b8, (den exm cl lsB).s (envG (Sh.left (at_ L) R held) S L f (Sh.rest S.length held) true a6 a7 a8) m =
      .nx (envG (Sh.left (at_ L) R (held ++ Sh.news S.length (at_ S) (at_ L) R held)) S L (put1 (at_ L) (Sh.news S.length (at_ S) (at_ L) R held) f) (Sh.rest S.length (held ++ Sh.news S.length (at_ S) (at_ L) R held)) (decide (Sh.news S.length (at_ S) (at_ L) R held ≠ [])) b6 b7 b8) m := by
  obtain ⟨hrl, hlR, _⟩ := lens h hi
  have hp := Sh.left_pos h.hy hi
  have nr : ∀ i ∈ Sh.news S.length (at_ S) (at_ L) R held, i ∈ Sh.rest S.length held := fun i hn => by
    unfold Sh.news at hn
    exact (List.mem_filter.mp hn).1
  have nlt : ∀ i ∈ Sh.news S.length (at_ S) (at_ L) R held, i < S.length := fun i hn => (Sh.mem_rest.mp (nr i hn)).1
  have nl : (Sh.news S.length (at_ S) (at_ L) R held).length ≤ 64 := by
    have : (Sh.news S.length (at_ S) (at_ L) R held).length ≤ (Sh.rest S.length held).length := List.length_filter_le _ _
    omega
  obtain ⟨b7, fl⟩ := for_least (exm := exm) (cl := cl) (m := m) (S := S) (L := L) (room := Sh.left (at_ L) R held) (rest := Sh.rest S.length held) (again := true) (a6 := some (.int (Sh.every S.length (at_ S) held))) (a8 := some (iL (Sh.news S.length (at_ S) (at_ L) R held))) (Sh.news S.length (at_ S) (at_ L) R held) f a7 (fun i hn => by rw [h.hl]; exact nlt i hn) (fun i hn => by rw [hf]; exact nlt i hn)
  refine ⟨some (.int (Sh.every S.length (at_ S) held)), b7, some (iL (Sh.news S.length (at_ S) (at_ L) R held)), ?_⟩
  simp only [den] at fl ⊢
  refine (seq_nx (r := envG (Sh.left (at_ L) R held) S L f (Sh.rest S.length held) true (some (.int (Sh.every S.length (at_ S) held))) a7 a8) (set_ok (ev_sum 7 1 4 S (Sh.rest S.length held) rfl rfl (fun i hi' => (Sh.mem_rest.mp hi').1) hrl (by show 7 < 13; decide) (by decide)))).trans ?_
  refine (seq_nx (r := envG (Sh.left (at_ L) R held) S L f (Sh.rest S.length held) true (some (.int (Sh.every S.length (at_ S) held))) a7 (some (iL (Sh.news S.length (at_ S) (at_ L) R held)))) (set_ok (comp_pure (is := Sh.rest S.length held) dN (fun i => decide (Sh.left (at_ L) R held * at_ S i < at_ L i * Sh.every S.length (at_ S) held)) dN (seq_ok (var_ok rfl) rfl) (by have := big; omega) fun i hi' => ⟨_, rfl, evT_ok (lt_ok (mul_ok (var_ok rfl) (ev2_ok (var_ok rfl) (var_ok rfl) (ix_z (Sh.mem_rest.mp hi').1)) (small_mul (by omega))) (mul_ok (ev2_ok (var_ok rfl) (var_ok rfl) (ix_z (by rw [h.hl]; exact (Sh.mem_rest.mp hi').1))) (var_ok rfl) (small_mul (by have a := h.lb (Sh.mem_rest.mp hi').1; have b := h.hy.l1 i (Sh.mem_rest.mp hi').1; omega)))), fun _ => var_ok rfl⟩))).trans ?_
  refine (seq_nx ((for_ok (seq_ok (var_ok rfl) rfl)).trans fl)).trans ?_
  refine (seq_nx (r := envG (Sh.left (at_ L) R (held ++ Sh.news S.length (at_ S) (at_ L) R held)) S L (put1 (at_ L) (Sh.news S.length (at_ S) (at_ L) R held) f) (Sh.rest S.length held) true (some (.int (Sh.every S.length (at_ S) held))) b7 (some (iL (Sh.news S.length (at_ S) (at_ L) R held)))) (m' := m) (set_ok (d := .int (Sh.left (at_ L) R (held ++ Sh.news S.length (at_ S) (at_ L) R held))) ?_)).trans ?_
  · rw [left_step]
    exact sub_ok (var_ok rfl) (ev_sum 7 2 8 L _ rfl rfl (fun i hn => by rw [h.hl]; exact nlt i hn) nl (by show 7 < 13; decide) (by decide))
  refine (seq_nx (r := envG (Sh.left (at_ L) R (held ++ Sh.news S.length (at_ S) (at_ L) R held)) S L (put1 (at_ L) (Sh.news S.length (at_ S) (at_ L) R held) f) (Sh.rest S.length (held ++ Sh.news S.length (at_ S) (at_ L) R held)) true (some (.int (Sh.every S.length (at_ S) held))) b7 (some (iL (Sh.news S.length (at_ S) (at_ L) R held)))) (m' := m) (set_ok (d := iL (Sh.rest S.length (held ++ Sh.news S.length (at_ S) (at_ L) R held))) ?_)).trans ?_
  · rw [← rest_step]
    exact comp_pure (is := Sh.rest S.length held) dN (fun i => decide (i ∉ Sh.news S.length (at_ S) (at_ L) R held)) dN (seq_ok (var_ok rfl) rfl) (by have := big; omega) fun i hi' => ⟨_, rfl, evT_ok (ev2_ok (var_ok rfl) (var_ok rfl) (nin_of _ i)), fun _ => var_ok rfl⟩
  exact (seq_nx (set_ok (ev2_ok (var_ok rfl) rfl (ne_nil _)))).trans rfl
theorem ls_loop (h : Inp S L R) : ∀ (fuel : Nat) (held : List Nat) (f : List Int) (a6 a7 a8 : Option D), Sh.HInv S.length (at_ S) (at_ L) held → f.length = S.length → (∀ i ∈ held, at_ f i = at_ L i) → (∃ k, held = Sh.iter S.length (at_ S) (at_ L) R k) → S.length - held.length + 2 ≤ fuel →
    ∃ held' f' b6 b7 b8, whileS (den exm cl (.tst (.var 5))).b (den exm cl lsB).s fuel (envG (Sh.left (at_ L) R held) S L f (Sh.rest S.length held) true a6 a7 a8) m = .nx (envG (Sh.left (at_ L) R held') S L f' (Sh.rest S.length held') false b6 b7 b8) m ∧ Sh.HInv S.length (at_ S) (at_ L) held' ∧ f'.length = S.length ∧ (∀ i ∈ held', at_ f' i = at_ L i) ∧ Sh.news S.length (at_ S) (at_ L) R held' = [] ∧ ∃ k, held' = Sh.iter S.length (at_ S) (at_ L) R k
  | 0, held, f, a6, a7, a8, _, _, _, _, hf => by omega
  | fuel + 1, held, f, a6, a7, a8, hi, hfl, hh, hk, hf => by
    obtain ⟨b6, b7, b8, hb⟩ := ls_body (exm := exm) (cl := cl) (m := m) h hi hfl a6 a7 a8
    have hi2 := Sh.step_inv h.hy hi
    rw [while_t (show (den exm cl (.tst (.var 5))).b (envG (Sh.left (at_ L) R held) S L f (Sh.rest S.length held) true a6 a7 a8) m = .ok true m from rfl), hb]
    show ∃ held' f' c6 c7 c8, whileS _ _ fuel (envG (Sh.left (at_ L) R (held ++ Sh.news S.length (at_ S) (at_ L) R held)) S L (put1 (at_ L) (Sh.news S.length (at_ S) (at_ L) R held) f) (Sh.rest S.length (held ++ Sh.news S.length (at_ S) (at_ L) R held)) (decide (Sh.news S.length (at_ S) (at_ L) R held ≠ [])) b6 b7 b8) m = _ ∧ _
    by_cases e : Sh.news S.length (at_ S) (at_ L) R held = []
    · obtain ⟨f2, rfl⟩ : ∃ f2, fuel = f2 + 1 := ⟨fuel - 1, by omega⟩
      rw [e, List.append_nil]
      exact ⟨held, f, b6, b7, b8, while_f rfl, hi, hfl, hh, e, hk⟩
    · rw [decide_eq_true e]
      have lp : 0 < (Sh.news S.length (at_ S) (at_ L) R held).length := List.length_pos_iff.mpr e
      have hl2 : held.length < S.length := by
        have p := (Sh.rest_perm hi2.nd hi2.lt).length_eq
        rw [List.length_append, List.length_append, List.length_range] at p
        omega
      obtain ⟨k, hk⟩ := hk
      have nlt : ∀ i ∈ Sh.news S.length (at_ S) (at_ L) R held, i < S.length := fun i hn => hi2.lt i (List.mem_append_right _ hn)
      refine ls_loop h fuel (held ++ Sh.news S.length (at_ S) (at_ L) R held) (put1 (at_ L) (Sh.news S.length (at_ S) (at_ L) R held) f) b6 b7 b8 hi2 (by rw [put1_len, hfl]) (fun i hm => ?_) ⟨k + 1, by rw [hk]; rfl⟩ (by rw [List.length_append]; omega)
      rw [put1_at _ _ (fun x hx => by rw [hfl]; exact nlt x hx)]
      by_cases z : i ∈ Sh.news S.length (at_ S) (at_ L) R held
      · rw [if_pos z]
      · rw [if_neg z]
        exact hh i ((List.mem_append.mp hm).resolve_right z)

theorem pairs_of (kf : Nat → Int) : ∀ is : List Nat, asPairs (is.map fun i => D.tup [.int (kf i), dN i]) = some (is.map fun i => (kf i, (i : Int)))
  | [] => rfl
  | i :: is => by
    show ((pairOf (D.tup [.int (kf i), dN i])).bind fun p => (asPairs (is.map _)).map (p :: ·)) = _
    rw [pairs_of kf is]
    rfl
theorem sort2 (kf : Nat → Int) (is : List Nat) : ∃ order : List Nat, order.Perm is ∧ sortP (is.map fun i => (kf i, (i : Int))) = order.map (fun i => (kf i, (i : Int))) ∧ order.Pairwise fun i j => kf i < kf j ∨ (kf i = kf j ∧ i ≤ j) := by
  have p : (sortP (is.map fun i => (kf i, (i : Int)))).Perm (is.map fun i => (kf i, (i : Int))) := List.mergeSort_perm _ _
  have mem : ∀ z ∈ sortP (is.map fun i => (kf i, (i : Int))), z = (kf z.2.toNat, ((z.2.toNat : Nat) : Int)) := fun z hz => by
    obtain ⟨i, _, rfl⟩ := List.mem_map.mp (p.mem_iff.mp hz)
    simp
  have pw : (sortP (is.map fun i => (kf i, (i : Int)))).Pairwise fun a b => lexLe a b = true := List.pairwise_mergeSort (fun a b c x y => by
      unfold lexLe at *
      rw [Bool.not_eq_true'] at *
      have x := SrtO.lexB_no.mp x
      have y := SrtO.lexB_no.mp y
      exact SrtO.lexB_no.mpr (by omega)) (fun a b => by
      unfold lexLe
      rw [Bool.or_eq_true, Bool.not_eq_true', Bool.not_eq_true']
      by_cases x : SrtO.lexB b a = false
      · exact .inl x
      · rw [Bool.not_eq_false] at x
        have x := SrtO.lexB_iff.mp x
        exact .inr (SrtO.lexB_no.mpr (by omega))) _
  refine ⟨(sortP (is.map fun i => (kf i, (i : Int)))).map fun z => z.2.toNat, ?_, ?_, ?_⟩
  · have := p.map fun z : Int × Int => z.2.toNat
    rw [List.map_map] at this
    have e : ((fun z : Int × Int => z.2.toNat) ∘ fun i : Nat => (kf i, (i : Int))) = id := funext fun i => by simp
    rw [e, List.map_id] at this
    exact this
  · rw [List.map_map]
    conv => lhs; rw [← List.map_id (sortP (is.map fun i => (kf i, (i : Int))))]
    apply List.map_congr_left
    intro z hz
    exact mem z hz
  · rw [List.pairwise_map]
    refine pw.imp_of_mem fun {a b} ha hb h => ?_
    have ea := mem a ha
    have eb := mem b hb
    unfold lexLe at h
    rw [Bool.not_eq_true'] at h
    have h := SrtO.lexB_no.mp h
    have a1 : a.1 = kf a.2.toNat := congrArg Prod.fst ea
    have a2 : a.2 = ((a.2.toNat : Nat) : Int) := congrArg Prod.snd ea
    have b1 : b.1 = kf b.2.toNat := congrArg Prod.fst eb
    have b2 : b.2 = ((b.2.toNat : Nat) : Int) := congrArg Prod.snd eb
    rw [← a1, ← b1]
    omega
abbrev envG2 (room : Int) (S L f : List Int) (rest : List Nat) (every more : Int) (a7 a8 od a11 a12 : Option D) : En := [some (.int room), some (zL S), some (zL L), some (zL f), some (iL rest), some (.bl false), some (.int every), a7, a8, od, some (.int more), a11, a12]
abbrev lsF : I := .cons (.put 3 (.var 7) (.bin .add (.bin .div (.bin .mul (.var 0) (.ix (.var 1) (.var 7))) (.var 6)) (.bi .int (.cons (.cmp .lt (.var 11) (.var 10)) .nil)))) .nil
theorem for_last {room every more : Int} {rest : List Nat} {a8 od : Option D} (kf : Nat → Int) (q : Nat → Int) (hl : 0 ≤ room ∧ room ≤ 1000000) (he : divOk every) : ∀ (ps : List (Nat × Nat)) (f : List Int) (a7 a11 a12 : Option D), (∀ p ∈ ps, p.1 < S.length) → (∀ p ∈ ps, p.1 < f.length) → (∀ p ∈ ps, q p.1 = room * at_ S p.1 / every + if (p.2 : Int) < more then 1 else 0) →
    ∃ b7 b11 b12, forS (.tn 11 [12, 7]) (den exm cl lsF).s (ps.map fun p => D.tup [dN p.2, .tup [.int (kf p.1), dN p.1]]) (envG2 room S L f rest every more a7 a8 od a11 a12) m = .nx (envG2 room S L (put1 q (ps.map (·.1)) f) rest every more b7 a8 od b11 b12) m
  | [], f, a7, a11, a12, _, _, _ => ⟨a7, a11, a12, rfl⟩
  | p :: ps, f, a7, a11, a12, h1, h2, h3 => by
    obtain ⟨b7, b11, b12, ih⟩ := for_last (room := room) (every := every) (more := more) (rest := rest) (a8 := a8) (od := od) kf q hl he ps (f.set p.1 (q p.1)) (some (dN p.1)) (some (dN p.2)) (some (.int (kf p.1))) (fun x hx => h1 x (List.mem_cons_of_mem _ hx)) (by rw [List.length_set]; exact fun x hx => h2 x (List.mem_cons_of_mem _ hx)) (fun x hx => h3 x (List.mem_cons_of_mem _ hx))
    refine ⟨b7, b11, b12, ?_⟩
    show cont (forS (.tn 11 [12, 7]) _ (ps.map fun p => D.tup [dN p.2, .tup [.int (kf p.1), dN p.1]])) ((den exm cl lsF).s (envG2 room S L f rest every more (some (dN p.1)) a8 od (some (dN p.2)) (some (.int (kf p.1)))) m) = _
    have e : (den exm cl lsF).s (envG2 room S L f rest every more (some (dN p.1)) a8 od (some (dN p.2)) (some (.int (kf p.1)))) m = .nx (envG2 room S L (f.set p.1 (q p.1)) rest every more (some (dN p.1)) a8 od (some (dN p.2)) (some (.int (kf p.1)))) m := by
      simp only [den]
      refine (seq_nx ?_).trans rfl
      refine exS_ok (a := zL (f.set p.1 (q p.1))) ?_
      have ei : evB (Bi.sem .int) (evCons (ev2 (Cop.sem .lt) (evVar 11) (evVar 10)) evNil) (envG2 room S L f rest every more (some (dN p.1)) a8 od (some (dN p.2)) (some (.int (kf p.1)))) m = .ok (.int (if (p.2 : Int) < more then 1 else 0)) m := by
        refine evB_ok (cons_ok (lt_ok (var_ok rfl) (var_ok rfl)) rfl) ?_
        show some (D.int (if decide ((p.2 : Int) < more) = true then 1 else 0)) = _
        by_cases c : (p.2 : Int) < more
        · rw [decide_eq_true c, if_pos rfl, if_pos c]
        · rw [decide_eq_false c, if_neg (by decide), if_neg c]
      rw [h3 p (List.mem_cons_self ..)]
      rw [bnd_ok (add_ok (div_ok (mul_ok (var_ok rfl) (ev2_ok (var_ok rfl) (var_ok rfl) (ix_z (h1 p (List.mem_cons_self ..)))) (small_mul hl)) (var_ok rfl) he) ei)]
      exact lift_ok (put_z (h2 p (List.mem_cons_self ..)))
    rw [e]
    exact ih
theorem zip_take {ol : List Nat} (nd : ol.Nodup) {i p k : Nat} (h : (i, p) ∈ ol.zipIdx) : (p < k ↔ i ∈ ol.take k) := by
  rw [List.mem_zipIdx_iff_getElem?] at h
  obtain ⟨hp, he⟩ := List.getElem?_eq_some_iff.mp h
  constructor
  · intro z
    rw [List.mem_take_iff_getElem]
    exact ⟨p, by omega, he⟩
  · intro z
    rw [List.mem_take_iff_getElem] at z
    obtain ⟨r, hr, e⟩ := z
    have hr2 : r < ol.length := by omega
    rcases Nat.lt_trichotomy r p with c | c | c
    · exfalso
      have := List.pairwise_iff_getElem.mp nd r p hr2 hp c
      exact this (e.trans he.symm)
    · omega
    · omega
theorem law_shared_run (h : Inp S L R) : ∃ F held T, callF d__law_shared.N.length (den exm cl d__law_shared.ir).s [.int R, zL S, zL L] m = .ok (zL ((List.range S.length).map F)) m ∧ Sh.Out S.length (at_ S) (at_ L) R F held T := by
  have n1 := h.n1
  have bg := big
  obtain ⟨held, f, b6, b7, b8, q1, hi, hfl, hh, q3, q4⟩ := ls_loop (exm := exm) (cl := cl) (m := m) h 100 [] (List.replicate S.length 0) none none none (Sh.start_inv h.hy) (by simp) (fun i hi => by cases hi) ⟨0, rfl⟩ (by simp; omega)
  obtain ⟨hrl, hlR, heb⟩ := lens h hi
  have hp := Sh.left_pos h.hy hi
  have hpe := Sh.every_pos h.hy hi
  have hdiv : divOk (Sh.every S.length (at_ S) held) := ⟨hpe, by
    have : (Sh.every S.length (at_ S) held).natAbs < 2 ^ 20 := by omega
    have := (Nat.log2_lt (by omega)).mpr this
    omega⟩
  obtain ⟨mb0, mb1⟩ := Sh.more_b h.hy hi
  obtain ⟨order, o1, o2, o3⟩ := sort2 (fun i => -(Sh.left (at_ L) R held * at_ S i % Sh.every S.length (at_ S) held)) (Sh.rest S.length held)
  have nd : order.Nodup := o1.nodup_iff.mpr Sh.rest_nd
  have olt : ∀ i ∈ order, i < S.length := fun i hi' => (Sh.mem_rest.mp (o1.mem_iff.mp hi')).1
  let T := order.take (Sh.more (n := S.length) (S := at_ S) (L := at_ L) (R := R) held).toNat
  let q : Nat → Int := fun i => Sh.left (at_ L) R held * at_ S i / Sh.every S.length (at_ S) held + if i ∈ T then 1 else 0
  refine ⟨at_ (put1 q order f), held, T, ?_, ?_⟩
  · refine call_ok ?_
    show (den exm cl d__law_shared.ir).s [some (.int R), some (zL S), some (zL L), none, none, none, none, none, none, none, none, none, none] m = _
    have zm : ∀ p ∈ order.zipIdx, p.1 ∈ order := fun p hp' => by
      obtain ⟨i, k⟩ := p
      rw [List.mem_zipIdx_iff_getElem?] at hp'
      exact List.mem_of_getElem? hp'
    obtain ⟨c7, c11, c12, fl⟩ := for_last (exm := exm) (cl := cl) (m := m) (S := S) (L := L) (room := Sh.left (at_ L) R held) (every := Sh.every S.length (at_ S) held) (more := Sh.more (n := S.length) (S := at_ S) (L := at_ L) (R := R) held) (rest := Sh.rest S.length held) (a8 := b8) (od := some (.lst (order.map fun i => D.tup [.int (-(Sh.left (at_ L) R held * at_ S i % Sh.every S.length (at_ S) held)), dN i])))
      (fun i => -(Sh.left (at_ L) R held * at_ S i % Sh.every S.length (at_ S) held)) q (by omega) hdiv order.zipIdx f b7 none none (fun p hp' => olt _ (zm p hp')) (fun p hp' => by rw [hfl]; exact olt _ (zm p hp')) (fun p hp' => by
        obtain ⟨i, k⟩ := p
        have z := zip_take nd (k := (Sh.more (n := S.length) (S := at_ S) (L := at_ L) (R := R) held).toNat) hp'
        show Sh.left (at_ L) R held * at_ S i / Sh.every S.length (at_ S) held + (if i ∈ T then 1 else 0) = _
        by_cases c : (k : Int) < Sh.more (n := S.length) (S := at_ S) (L := at_ L) (R := R) held
        · rw [if_pos c, if_pos (z.mp (by omega))]
        · rw [if_neg c, if_neg fun w => c (by have := z.mpr w; omega)])
    have zf : order.zipIdx.map (·.1) = order := by simp
    rw [zf] at fl
    simp only [d__law_shared, den] at fl q1 ⊢
    refine (seq_nx (r := [some (.int R), some (zL S), some (zL L), some (zL (List.replicate S.length 0)), none, none, none, none, none, none, none, none, none]) (m' := m) (set_ok (d := zL (List.replicate S.length 0)) (ev2_ok (a := .lst [.int 0]) (b := dN S.length) rfl (evB_ok (cons_ok (var_ok rfl) rfl) ?_) ?_))).trans ?_
    · show some (D.int ((S.map D.int).length : Int)) = _
      rw [List.length_map]
    · have e : (Bop.sem .mul) (.lst [.int 0]) (dN S.length) = if -(2 ^ 63) ≤ (S.length : Int) ∧ (S.length : Int) < 2 ^ 63 ∧ [D.int 0].length * ((S.length : Int)).toNat ≤ sizeLine then some (.lst (List.replicate ((S.length : Int)).toNat [D.int 0]).flatten) else none := rfl
      have e2 : (List.replicate S.length [D.int 0]).flatten = (List.replicate S.length (0 : Int)).map D.int := by simp
      have e3 : [D.int 0].length * ((S.length : Int)).toNat ≤ sizeLine := by
        rw [Int.toNat_natCast]
        show 1 * S.length ≤ sizeLine
        omega
      rw [e, if_pos ⟨by omega, by omega, e3⟩, Int.toNat_natCast, e2]
    refine (seq_nx (r := [some (.int R), some (zL S), some (zL L), some (zL (List.replicate S.length 0)), some (iL (List.range S.length)), none, none, none, none, none, none, none, none]) (m' := m) (set_ok (d := iL (List.range S.length)) (ev1_ok (a := dN S.length) (evB_ok (cons_ok (var_ok rfl) rfl) ?_) ?_))).trans ?_
    · show some (D.int ((S.map D.int).length : Int)) = _
      rw [List.length_map]
    · show (if 0 ≤ (S.length : Int) ∧ (S.length : Int) ≤ 16777216 then some (D.lst ((List.range ((S.length : Int)).toNat).map fun (i : Nat) => D.int (i : Int))) else none) = _
      rw [if_pos (by omega), Int.toNat_natCast]
    have st : envG (Sh.left (at_ L) R []) S L (List.replicate S.length 0) (Sh.rest S.length []) true none none none = [some (.int R), some (zL S), some (zL L), some (zL (List.replicate S.length 0)), some (iL (List.range S.length)), some (.bl true), none, none, none, none, none, none, none] := by
      have a : Sh.left (at_ L) R [] = R := by
        unfold Sh.left
        simp
      have b : Sh.rest S.length [] = List.range S.length := by
        unfold Sh.rest
        rw [List.filter_eq_self]
        intro a _
        simp
      rw [a, b]
    rw [st] at q1
    refine (seq_nx (r := [some (.int R), some (zL S), some (zL L), some (zL (List.replicate S.length 0)), some (iL (List.range S.length)), some (.bl true), none, none, none, none, none, none, none]) (set_ok rfl)).trans ?_
    refine (seq_nx q1).trans ?_
    refine (seq_nx (r := envG (Sh.left (at_ L) R held) S L f (Sh.rest S.length held) false (some (.int (Sh.every S.length (at_ S) held))) b7 b8) (set_ok (ev_sum 7 1 4 S (Sh.rest S.length held) rfl rfl (fun i hi' => (Sh.mem_rest.mp hi').1) hrl (by show 7 < 13; decide) (by decide)))).trans ?_
    refine (seq_nx (r := [some (.int (Sh.left (at_ L) R held)), some (zL S), some (zL L), some (zL f), some (iL (Sh.rest S.length held)), some (.bl false), some (.int (Sh.every S.length (at_ S) held)), b7, b8, some (.lst (order.map fun i => D.tup [.int (-(Sh.left (at_ L) R held * at_ S i % Sh.every S.length (at_ S) held)), dN i])), none, none, none]) (m' := m) (set_ok (d := .lst (order.map fun i => D.tup [.int (-(Sh.left (at_ L) R held * at_ S i % Sh.every S.length (at_ S) held)), dN i])) (evB_ok (cons_ok (comp_all (is := Sh.rest S.length held) dN (fun i => D.tup [.int (-(Sh.left (at_ L) R held * at_ S i % Sh.every S.length (at_ S) held)), dN i]) (seq_ok (var_ok rfl) rfl) (by omega) fun i hi' => ⟨_, rfl, ?_⟩) rfl) ?_))).trans ?_
    · rw [bnd_ok (cons_ok (ev1_ok (sem := negD) (mod_ok (mul_ok (var_ok rfl) (ev2_ok (var_ok rfl) (var_ok rfl) (ix_z (Sh.mem_rest.mp hi').1)) (small_mul (by omega))) (var_ok rfl) hpe) rfl) (cons_ok (var_ok rfl) rfl))]
      rfl
    · show sortedD (.lst _) = _
      unfold sortedD
      have ne := hi.ne
      have ai : asInts ((Sh.rest S.length held).map fun i => D.tup [.int (-(Sh.left (at_ L) R held * at_ S i % Sh.every S.length (at_ S) held)), dN i]) = none := by
        cases e : Sh.rest S.length held with
        | nil => exact absurd e ne
        | cons a l => rfl
      show (match asInts ((Sh.rest S.length held).map fun i => D.tup [.int (-(Sh.left (at_ L) R held * at_ S i % Sh.every S.length (at_ S) held)), dN i]) with
        | some ns => some (D.lst ((sortI ns).map D.int))
        | none => (asPairs ((Sh.rest S.length held).map fun i => D.tup [.int (-(Sh.left (at_ L) R held * at_ S i % Sh.every S.length (at_ S) held)), dN i])).map fun ps => D.lst ((sortP ps).map pairD)) = _
      rw [ai, pairs_of]
      show some (D.lst ((sortP ((Sh.rest S.length held).map fun i => (-(Sh.left (at_ L) R held * at_ S i % Sh.every S.length (at_ S) held), (i : Int)))).map pairD)) = _
      rw [o2, List.map_map]
      rfl
    refine (seq_nx (r := envG2 (Sh.left (at_ L) R held) S L f (Sh.rest S.length held) (Sh.every S.length (at_ S) held) (Sh.more (n := S.length) (S := at_ S) (L := at_ L) (R := R) held) b7 b8 (some (.lst (order.map fun i => D.tup [.int (-(Sh.left (at_ L) R held * at_ S i % Sh.every S.length (at_ S) held)), dN i]))) none none) (m' := m) (set_ok (d := .int (Sh.more (n := S.length) (S := at_ S) (L := at_ L) (R := R) held)) (sub_ok (var_ok rfl) (evB_ok (cons_ok (comp_all (is := Sh.rest S.length held) dN (fun i => D.int (Sh.left (at_ L) R held * at_ S i / Sh.every S.length (at_ S) held)) (seq_ok (var_ok rfl) rfl) (by omega) fun i hi' => ⟨_, rfl, div_ok (mul_ok (var_ok rfl) (ev2_ok (var_ok rfl) (var_ok rfl) (ix_z (Sh.mem_rest.mp hi').1)) (small_mul (by omega))) (var_ok rfl) hdiv⟩) rfl) (sum_of _ _))))).trans ?_
    refine (seq_nx ((for_ok ?_).trans fl)).trans ?_
    · show bnd (evCons (evVar 9) evNil _) _ m = _
      rw [bnd_ok (cons_ok (var_ok rfl) rfl)]
      refine lift_ok ?_
      show some (enumD (order.map fun i => D.tup [.int (-(Sh.left (at_ L) R held * at_ S i % Sh.every S.length (at_ S) held)), dN i])) = _
      unfold enumD
      rw [List.zipIdx_map, List.map_map]
      rfl
    refine seq_rt (ret_ok (var_ok ?_))
    show some (some (zL _)) = _
    rw [← list_eq (by rw [put1_len, hfl]) _ fun _ _ => rfl]
  · refine Sh.out_of h.hy hi q3 o1 (o3.imp fun z => ?_) (fun i hi' => ?_) q4
    · unfold Sh.rem
      omega
    · rw [put1_at _ _ (fun x hx => by rw [hfl]; exact olt x hx)]
      by_cases z : i ∈ held
      · have z2 : i ∉ order := fun y => (Sh.mem_rest.mp (o1.mem_iff.mp y)).2 z
        rw [if_pos z, if_neg z2, hh i z]
      · rw [if_neg z, if_pos (o1.mem_iff.mpr (Sh.mem_rest.mpr ⟨hi', z⟩))]
        rfl
end
end PF

namespace PF
open PySem L2
section
variable {exm : Nat → Nat → Bool} {cl : Nat → List D → M D} {S L : List Int} {R : Int} {m : Store} {rho : En}
/-- what is_within says of plain things -/
def wv (d : D) (lo hi : Int) : Bool := match d with
  | .int t => decide (lo ≤ t) && decide (t ≤ hi)
  | _ => false
def simp1 (d : D) : Bool := match d with
  | .int _ => true
  | .bl _ => true
  | .non => true
  | .str _ => true
  | _ => false
theorem within_any (d : D) (lo hi : Int) (h : simp1 d = true) : callF d_is_within.N.length (den exm cl d_is_within.ir).s [d, .int lo, .int hi] m = .ok (.bl (wv d lo hi)) m := by
  cases d with
  | int t => exact within_run t lo hi
  | bl b =>
    refine call_ok ?_
    show (den exm cl d_is_within.ir).s [some (.bl b), some (.int lo), some (.int hi)] m = _
    simp only [d_is_within, den]
    exact seq_rt (ret_ok ((and_t (show ev1 (isiD .int) (evVar 0) _ m = .ok (.bl true) m from rfl)).trans (and_f (show evNot (ev1 (isiD .bool) (evVar 0)) _ m = .ok (.bl false) m from rfl))))
  | non =>
    refine call_ok ?_
    show (den exm cl d_is_within.ir).s [some .non, some (.int lo), some (.int hi)] m = _
    simp only [d_is_within, den]
    exact seq_rt (ret_ok (and_f (show ev1 (isiD .int) (evVar 0) _ m = .ok (.bl false) m from rfl)))
  | str x =>
    refine call_ok ?_
    show (den exm cl d_is_within.ir).s [some (.str x), some (.int lo), some (.int hi)] m = _
    simp only [d_is_within, den]
    exact seq_rt (ret_ok (and_f (show ev1 (isiD .int) (evVar 0) _ m = .ok (.bl false) m from rfl)))
  | _ => cases h
theorem call_ex {nv : Nat} {F : SM} {ds : List D} {c : Nat} {r : En} (h : F (ds.map some ++ List.replicate (nv - ds.length) none) m = .exc c r m) : callF nv F ds m = .exc c m := by
  unfold callF
  rw [h]
theorem seq_ex {f g : SM} {c : Nat} {r : En} (h : f rho m = .exc c r m) : seqS f g rho m = .exc c r m := by
  unfold seqS
  rw [h]
section
variable (jw xb xt js : Nat) (hw : ∀ (d : D) (lo hi : Int), simp1 d = true → cl jw [d, .int lo, .int hi] m = .ok (.bl (wv d lo hi)) m)
include hw
theorem ref1 (d1 d2 d3 : D) (h : simp1 d1 = true) (h1 : wv d1 1 5000 = false) : callF (d_shared jw xb xt js).N.length (den exm cl (d_shared jw xb xt js).ir).s [d1, d2, d3] m = .exc xb m := by
  refine call_ex (r := [some d1, some d2, some d3, none]) ?_
  show (den exm cl (d_shared jw xb xt js).ir).s [some d1, some d2, some d3, none] m = _
  simp only [d_shared, den]
  refine seq_ex ((if_t (tor_t (tnot_ok (b := false) (tst_ok (ecall_ok (cons_ok (var_ok rfl) (cons_ok rfl (cons_ok rfl rfl))) (hw d1 1 5000 h)) ?_)))).trans rfl)
  rw [h1]
  rfl
theorem ref1b (d1 d3 : D) (xs : List D) (h : simp1 d1 = true) (h1 : wv d1 1 5000 = true) : callF (d_shared jw xb xt js).N.length (den exm cl (d_shared jw xb xt js).ir).s [d1, .tup xs, d3] m = .exc xb m := by
  refine call_ex (r := [some d1, some (.tup xs), some d3, none]) ?_
  show (den exm cl (d_shared jw xb xt js).ir).s [some d1, some (.tup xs), some d3, none] m = _
  simp only [d_shared, den]
  refine seq_ex ((if_t ((tor_f (tnot_ok (b := true) (tst_ok (ecall_ok (cons_ok (var_ok rfl) (cons_ok rfl (cons_ok rfl rfl))) (hw d1 1 5000 h)) ?_))).trans (tor_t (tnot_ok (b := false) rfl)))).trans rfl)
  rw [h1]
  rfl
/-- behind the first test -/
theorem ref_skip (d1 : D) (xs ys : List D) (h : simp1 d1 = true) (h1 : wv d1 1 5000 = true) : tbOr (tbNot fun rho => bnd (evCall (cl jw) (evCons (evVar 0) (evCons (fun _ => PF.ret (.int 1)) (evCons (fun _ => PF.ret (.int 5000)) evNil))) rho) truthM) (tbOr (tbNot fun rho => bnd (ev1 (isiD .list) (evVar 1) rho) truthM) (tbNot fun rho => bnd (ev1 (isiD .list) (evVar 2) rho) truthM)) [some d1, some (.lst xs), some (.lst ys), none] m = .ok false m := by
  refine (tor_f (tnot_ok (b := true) (tst_ok (ecall_ok (cons_ok (var_ok rfl) (cons_ok rfl (cons_ok rfl rfl))) (hw d1 1 5000 h)) ?_))).trans ((tor_f (tnot_ok (b := true) rfl)).trans (tnot_ok (b := true) rfl))
  rw [h1]
  rfl
theorem ref2 (d1 : D) (xs ys : List D) (h : simp1 d1 = true) (h1 : wv d1 1 5000 = true) (h2 : xs.length < 1 ∨ 8 < xs.length ∨ xs.length ≠ ys.length) : callF (d_shared jw xb xt js).N.length (den exm cl (d_shared jw xb xt js).ir).s [d1, .lst xs, .lst ys] m = .exc xb m := by
  refine call_ex (r := [some d1, some (.lst xs), some (.lst ys), none]) ?_
  show (den exm cl (d_shared jw xb xt js).ir).s [some d1, some (.lst xs), some (.lst ys), none] m = _
  simp only [d_shared, den]
  refine (skip (ref_skip jw hw d1 xs ys h h1)).trans ?_
  refine seq_ex ((if_t ?_).trans rfl)
  have e1 : evB (Bi.sem .len) (evCons (evVar 1) evNil) [some d1, some (.lst xs), some (.lst ys), none] m = .ok (.int (xs.length : Int)) m := evB_ok (cons_ok (var_ok rfl) rfl) rfl
  have e2 : evB (Bi.sem .len) (evCons (evVar 2) evNil) [some d1, some (.lst xs), some (.lst ys), none] m = .ok (.int (ys.length : Int)) m := evB_ok (cons_ok (var_ok rfl) rfl) rfl
  have c1 := evT_ok (chain_ok (fa := fun _ => PF.ret (.int 1)) (fc := fun _ => PF.ret (.int 8)) (i := 1) (k := 8) rfl e1 rfl)
  by_cases c : 1 ≤ xs.length ∧ xs.length ≤ 8
  · rw [decide_eq_true (show (1 : Int) ≤ (xs.length : Int) by omega), decide_eq_true (show (xs.length : Int) ≤ 8 by omega)] at c1
    refine (tor_f (tnot_ok (b := true) c1)).trans ((evT_ok (ne_ok e1 e2)).trans ?_)
    rw [show (((xs.length : Int)) == ((ys.length : Int))) = false from beq_eq_false_iff_ne.mpr (by omega)]
    rfl
  · have : (decide ((1 : Int) ≤ (xs.length : Int)) && decide ((xs.length : Int) ≤ 8)) = false := by
      rw [Bool.and_eq_false_iff]
      by_cases z : 1 ≤ xs.length
      · exact .inr (decide_eq_false (by omega))
      · exact .inl (decide_eq_false (by omega))
    rw [this] at c1
    exact tor_t (tnot_ok (b := false) c1)
theorem ref_skip2 (d1 : D) (xs ys : List D) (h2 : 1 ≤ xs.length ∧ xs.length ≤ 8 ∧ ys.length = xs.length) : tbOr (tbNot (evT (evChain (Cop.sem .le) (Cop.sem .le) (fun _ => PF.ret (.int 1)) (evB (Bi.sem .len) (evCons (evVar 1) evNil)) fun _ => PF.ret (.int 8)))) (evT (ev2 (Cop.sem .ne) (evB (Bi.sem .len) (evCons (evVar 1) evNil)) (evB (Bi.sem .len) (evCons (evVar 2) evNil)))) [some d1, some (.lst xs), some (.lst ys), none] m = .ok false m := by
  have e1 : evB (Bi.sem .len) (evCons (evVar 1) evNil) [some d1, some (.lst xs), some (.lst ys), none] m = .ok (.int (xs.length : Int)) m := evB_ok (cons_ok (var_ok rfl) rfl) rfl
  have e2 : evB (Bi.sem .len) (evCons (evVar 2) evNil) [some d1, some (.lst xs), some (.lst ys), none] m = .ok (.int (ys.length : Int)) m := evB_ok (cons_ok (var_ok rfl) rfl) rfl
  have c1 := evT_ok (chain_ok (fa := fun _ => PF.ret (.int 1)) (fc := fun _ => PF.ret (.int 8)) (i := 1) (k := 8) rfl e1 rfl)
  rw [decide_eq_true (show (1 : Int) ≤ (xs.length : Int) by omega), decide_eq_true (show (xs.length : Int) ≤ 8 by omega)] at c1
  refine (tor_f (tnot_ok (b := true) c1)).trans ((evT_ok (ne_ok e1 e2)).trans ?_)
  rw [h2.2.2]
  simp
theorem ref_comp (d1 : D) (xs ys : List D) (h2 : xs.length ≤ 8 ∧ ys.length = xs.length) (h3 : ∀ d ∈ xs ++ ys, simp1 d = true) : evComp (evSeq (ev2 (Bop.sem .add) (evVar 1) (evVar 2))) (.nm 3) (tbNot fun rho => bnd (evCall (cl jw) (evCons (evVar 3) (evCons (fun _ => PF.ret (.int 1)) (evCons (fun _ => PF.ret (.int 1000)) evNil))) rho) truthM) (evVar 3) [3] [some d1, some (.lst xs), some (.lst ys), none] m = .ok (.lst ((xs ++ ys).filter fun d => !wv d 1 1000)) m := by
  have bg := big
  have e : ev2 (Bop.sem .add) (evVar 1) (evVar 2) [some d1, some (.lst xs), some (.lst ys), none] m = .ok (.lst (xs ++ ys)) m := ev2_ok (var_ok rfl) (var_ok rfl) (by
    show (if xs.length + ys.length ≤ sizeLine then some (D.lst (xs ++ ys)) else none) = _
    rw [if_pos (by omega)])
  have := comp_pure (rho := [some d1, some (.lst xs), some (.lst ys), none]) (m := m) (is := xs ++ ys) (fun d : D => d) (fun d => !wv d 1 1000) (fun d => d) (fi := evSeq (ev2 (Bop.sem .add) (evVar 1) (evVar 2))) (t := .nm 3) (c := tbNot fun rho => bnd (evCall (cl jw) (evCons (evVar 3) (evCons (fun _ => PF.ret (.int 1)) (evCons (fun _ => PF.ret (.int 1000)) evNil))) rho) truthM) (f := evVar 3) (vs := [3]) (by rw [List.map_id']; exact seq_ok e rfl) (by rw [List.length_append]; omega) fun d hd => ⟨_, rfl, tnot_ok (tst_ok (ecall_ok (cons_ok (var_ok rfl) (cons_ok rfl (cons_ok rfl rfl))) (hw d 1 1000 (h3 d hd))) rfl), fun _ => var_ok rfl⟩
  rw [List.map_id'] at this
  exact this
theorem ref3 (d1 : D) (xs ys : List D) (h : simp1 d1 = true) (h1 : wv d1 1 5000 = true) (h2 : 1 ≤ xs.length ∧ xs.length ≤ 8 ∧ ys.length = xs.length) (h3 : ∀ d ∈ xs ++ ys, simp1 d = true) (h4 : ∃ d ∈ xs ++ ys, wv d 1 1000 = false) : callF (d_shared jw xb xt js).N.length (den exm cl (d_shared jw xb xt js).ir).s [d1, .lst xs, .lst ys] m = .exc xb m := by
  refine call_ex (r := [some d1, some (.lst xs), some (.lst ys), none]) ?_
  show (den exm cl (d_shared jw xb xt js).ir).s [some d1, some (.lst xs), some (.lst ys), none] m = _
  simp only [d_shared, den]
  refine (skip (ref_skip jw hw d1 xs ys h h1)).trans ((skip (ref_skip2 jw hw d1 xs ys h2)).trans ?_)
  refine seq_ex ((if_t (tst_ok (ref_comp jw hw d1 xs ys h2.2 h3) ?_)).trans rfl)
  obtain ⟨d, hd, hf⟩ := h4
  have : d ∈ (xs ++ ys).filter fun d => !wv d 1 1000 := List.mem_filter.mpr ⟨hd, by rw [hf]; rfl⟩
  show some (!((xs ++ ys).filter fun d => !wv d 1 1000).isEmpty) = some true
  cases e : (xs ++ ys).filter fun d => !wv d 1 1000 with
  | nil => rw [e] at this; cases this
  | cons a l => rfl
theorem ref4 (xs ys : List Int) (h1 : 1 ≤ R ∧ R ≤ 5000) (h2 : 1 ≤ xs.length ∧ xs.length ≤ 8 ∧ ys.length = xs.length) (h3 : ∀ d ∈ xs ++ ys, 1 ≤ d ∧ d ≤ 1000) (h4 : R < ys.sum) : callF (d_shared jw xb xt js).N.length (den exm cl (d_shared jw xb xt js).ir).s [.int R, zL xs, zL ys] m = .exc xt m := by
  refine call_ex (r := [some (.int R), some (zL xs), some (zL ys), none]) ?_
  show (den exm cl (d_shared jw xb xt js).ir).s [some (.int R), some (zL xs), some (zL ys), none] m = _
  simp only [d_shared, den]
  have lx : (xs.map D.int).length = xs.length := List.length_map ..
  have ly : (ys.map D.int).length = ys.length := List.length_map ..
  have mem : ∀ d ∈ xs.map D.int ++ ys.map D.int, ∃ z ∈ xs ++ ys, d = .int z := fun d hd => by
    rw [← List.map_append] at hd
    obtain ⟨z, hz, e⟩ := List.mem_map.mp hd
    exact ⟨z, hz, e.symm⟩
  refine (skip (ref_skip jw hw (.int R) _ _ rfl (by show (decide (1 ≤ R) && decide (R ≤ 5000)) = true; rw [decide_eq_true h1.1, decide_eq_true h1.2]; rfl))).trans ((skip (ref_skip2 jw hw (.int R) _ _ (by rw [lx, ly]; exact h2))).trans ?_)
  refine (skip (tst_ok (ref_comp jw hw (.int R) _ _ (by rw [lx, ly]; exact h2.2) fun d hd => by
    obtain ⟨z, _, rfl⟩ := mem d hd
    rfl) ?_)).trans ?_
  · have : ((xs.map D.int ++ ys.map D.int).filter fun d => !wv d 1 1000) = [] := List.filter_eq_nil_iff.mpr fun d hd => by
      obtain ⟨z, hz, rfl⟩ := mem d hd
      have q := h3 z hz
      show ¬ (!(decide (1 ≤ z) && decide (z ≤ 1000))) = true
      rw [decide_eq_true q.1, decide_eq_true q.2]
      decide
    rw [this]
    rfl
  · refine seq_ex ((if_t (evT_ok (ev2_ok (evB_ok (cons_ok (var_ok rfl) rfl) (show sumD (zL ys) = some (.int ys.sum) by show (asInts _).map _ = _; rw [asInts_map]; rfl)) (var_ok rfl) ?_))).trans rfl)
    show some (D.bl (decide (R < ys.sum))) = _
    rw [decide_eq_true h4]
end
end
end PF

/-! common to the laws: cells of the script, small lists -/
namespace PF
open PySem L2
section
variable {exm : Nat → Nat → Bool} {cl : Nat → List D → M D} {m : Store} {rho : En}
theorem ix_s {ns : List Int} {i : Nat} (h : i < ns.length) : ixD (.scr ns) (dN i) = some (.int (at_ ns i)) := by
  show (atI ns (i : Int)).map D.int = _
  rw [at_nat h]
  simp [at_, h]
theorem cell_run (ns : List Int) (i : Nat) : callF d__law_cell.N.length (den exm cl d__law_cell.ir).s [.scr ns, dN i] m = .ok (.int (at_ ns i)) m := by
  refine call_ok ?_
  show (den exm cl d__law_cell.ir).s [some (.scr ns), some (dN i)] m = _
  simp only [d__law_cell, den]
  have t : evT (ev2 (Cop.sem .lt) (evVar 1) (evB (Bi.sem .len) (evCons (evVar 0) evNil))) [some (.scr ns), some (dN i)] m = .ok (decide ((i : Int) < (ns.length : Int))) m := evT_ok (lt_ok (var_ok rfl) (evB_ok (cons_ok (var_ok rfl) rfl) rfl))
  by_cases h : i < ns.length
  · rw [decide_eq_true (by omega)] at t
    exact seq_rt ((if_t t).trans (seq_rt (ret_ok (ev2_ok (var_ok rfl) (var_ok rfl) (ix_s h)))))
  · rw [decide_eq_false (by omega)] at t
    refine (skip t).trans (seq_rt (ret_ok ?_))
    show PF.ret (D.int 0) m = _
    have : at_ ns i = 0 := by
      unfold at_
      rw [List.getD_eq_getElem?_getD, List.getElem?_eq_none (by omega)]
      rfl
    rw [this]
    rfl
theorem cellE {jc : Nat} {ns : List Int} (hc : ∀ i : Nat, cl jc [.scr ns, dN i] m = .ok (.int (at_ ns i)) m) (i : Nat) (z : Int) (hz : z = (i : Int)) (hv : rho[0]? = some (some (.scr ns))) : evCall (cl jc) (evCons (evVar 0) (evCons (fun _ => PF.ret (.int z)) evNil)) rho m = .ok (.int (at_ ns i)) m := by
  subst hz
  exact ecall_ok (cons_ok (var_ok hv) (cons_ok rfl rfl)) (hc i)
theorem pick3 (a b c x : Int) (h : 0 ≤ x ∧ x < 3) : ∃ w, ixD (.lst [.int a, .int b, .int c]) (.int x) = some (.int w) ∧ (w = a ∨ w = b ∨ w = c) := by
  have : x = 0 ∨ x = 1 ∨ x = 2 := by omega
  rcases this with rfl | rfl | rfl
  · exact ⟨a, rfl, .inl rfl⟩
  · exact ⟨b, rfl, .inr (.inl rfl)⟩
  · exact ⟨c, rfl, .inr (.inr rfl)⟩
theorem zmap (f : Nat → Int) (n : Nat) : D.lst ((List.range n).map fun i => D.int (f i)) = zL ((List.range n).map f) := by
  show _ = D.lst (((List.range n).map f).map D.int)
  rw [List.map_map]
  rfl
theorem at_map {f : Nat → Int} {n i : Nat} (h : i < n) : at_ ((List.range n).map f) i = f i := by
  unfold at_
  simp [h]
theorem lst_ok {fs : En → M (List D)} {ds : List D} (h : fs rho m = .ok ds m) (hl : ds.length ≤ sizeLine) : bnd (fs rho) lstM m = .ok (.lst ds) m := by
  rw [bnd_ok h]
  exact lift_ok (if_pos hl)
theorem tup_ok {fs : En → M (List D)} {ds : List D} (h : fs rho m = .ok ds m) (hl : ds.length ≤ sizeLine) : bnd (fs rho) tupM m = .ok (.tup ds) m := by
  rw [bnd_ok h]
  exact lift_ok (if_pos hl)
theorem sum_z (l : List Int) : sumD (zL l) = some (.int l.sum) := by
  show (asInts _).map _ = _
  rw [asInts_map]
  rfl
theorem sum_bd (f : Nat → Int) (n : Nat) (b : Int) (h : ∀ i, i < n → f i ≤ b) : ((List.range n).map f).sum ≤ b * n := by
  have := Sh.sum_le (l := List.range n) (f := f) (g := fun _ => b) fun i hi => h i (List.mem_range.mp hi)
  rw [Sh.sum_const, List.length_range] at this
  exact this
theorem min2 (x : Int) : ∃ R, mm false [.int 5000, .int x] = some (.int R) ∧ R ≤ 5000 ∧ R ≤ x ∧ (R = 5000 ∨ R = x) := by
  refine ⟨if x < 5000 then x else 5000, rfl, ?_⟩
  split <;> omega
theorem ix_mem {ds : List D} {x : Int} (h : 0 ≤ x ∧ x < ds.length) : ∃ t ∈ ds, ixD (.lst ds) (.int x) = some t := by
  obtain ⟨i, rfl⟩ := Int.eq_ofNat_of_zero_le h.1
  have hi : i < ds.length := by omega
  exact ⟨ds[i], List.getElem_mem hi, at_nat hi⟩
theorem cut_last {α : Type} (xs : List α) (h : 0 < xs.length) : cutL xs none (some (-1)) = xs.dropLast := by
  have e : HT.sIx xs.length xs.length (some (-1)) = xs.length - 1 := by
    show (if (-1 : Int) < 0 then ((-1 : Int) + (xs.length : Int)).toNat else min (-1 : Int).toNat xs.length) = _
    rw [if_pos (by decide)]
    omega
  unfold cutL
  rw [e]
  show ((xs.drop 0).take (xs.length - 1 - 0)) = _
  rw [List.drop_zero, Nat.sub_zero, List.dropLast_eq_take]
theorem cut_tail {α : Type} (xs : List α) (h : 0 < xs.length) : cutL xs (some 1) none = xs.drop 1 := by
  have e : HT.sIx xs.length 0 (some 1) = 1 := by
    show (if (1 : Int) < 0 then ((1 : Int) + (xs.length : Int)).toNat else min (1 : Int).toNat xs.length) = _
    rw [if_neg (by decide)]
    show min 1 xs.length = 1
    omega
  unfold cutL
  rw [e]
  show ((xs.drop 1).take (xs.length - 1)) = _
  rw [List.take_of_length_le (by rw [List.length_drop]; omega)]
theorem lcat {fa fb : En → M D} {xs ys : List D} (ha : fa rho m = .ok (.lst xs) m) (hb : fb rho m = .ok (.lst ys) m) (h : xs.length + ys.length ≤ 1000) : ev2 (Bop.sem .add) fa fb rho m = .ok (.lst (xs ++ ys)) m := ev2_ok ha hb (by
  show (if xs.length + ys.length ≤ sizeLine then some (D.lst (xs ++ ys)) else none) = _
  rw [if_pos (by have := big; omega)])
theorem sl_last {f : En → M D} {xs : List D} (ha : f rho m = .ok (.lst xs) m) (h : 0 < xs.length) : evSl f (evPart none) (evPart (some (ev1 negD fun _ => PF.ret (.int 1)))) rho m = .ok (.lst xs.dropLast) m := by
  show bnd (f rho) _ m = _
  rw [bnd_ok ha, bnd_ok (show evPart none _ m = .ok none m from rfl), bnd_ok (show evPart (some (ev1 negD fun _ => PF.ret (.int 1))) rho m = .ok (some (-1)) m from rfl)]
  refine lift_ok ?_
  show some (D.lst (cutL xs none (some (-1)))) = _
  rw [cut_last xs h]
theorem sl_tail {f : En → M D} {xs : List D} (ha : f rho m = .ok (.lst xs) m) (h : 0 < xs.length) : evSl f (evPart (some fun _ => PF.ret (.int 1))) (evPart none) rho m = .ok (.lst (xs.drop 1)) m := by
  show bnd (f rho) _ m = _
  rw [bnd_ok ha, bnd_ok (show evPart (some fun _ => PF.ret (.int 1)) rho m = .ok (some 1) m from rfl), bnd_ok (show evPart none _ m = .ok none m from rfl)]
  refine lift_ok ?_
  show some (D.lst (cutL xs (some 1) none)) = _
  rw [cut_tail xs h]
end
end PF

namespace PF
open PySem L2
section
variable {exm : Nat → Nat → Bool} {cl : Nat → List D → M D} {m : Store} {rho : En}
def seedF (s k : Int) : Int := ((s * 1103515245 + 7919 * k + 12345) % 2147483647) ^ 5 % 2147483647
theorem seed_run (s : Int) (k : Nat) (hk : k ≤ 100) : callF d__law_seed.N.length (den exm cl d__law_seed.ir).s [.int s, dN k] m = .ok (.int (seedF s k)) m := by
  refine call_ok ?_
  show (den exm cl d__law_seed.ir).s [some (.int s), some (dN k)] m = _
  simp only [d__law_seed, den]
  have hb : 0 ≤ (s * 1103515245 + 7919 * (k : Int) + 12345) % 2147483647 := Int.emod_nonneg _ (by omega)
  have hb2 : (s * 1103515245 + 7919 * (k : Int) + 12345) % 2147483647 < 2147483647 := Int.emod_lt_of_pos _ (by omega)
  refine seq_rt (ret_ok (mod_ok (ev2_ok (mod_ok (add_ok (add_ok (mul_ok (var_ok rfl) rfl (.inl (.inr (by omega)))) (mul_ok rfl (var_ok rfl) (.inl (.inl (by omega))))) rfl) rfl (by decide)) rfl ?_) rfl (by decide)))
  show (if powOk ((s * 1103515245 + 7919 * (k : Int) + 12345) % 2147483647) 5 then some (D.int (((s * 1103515245 + 7919 * (k : Int) + 12345) % 2147483647) ^ (5 : Int).toNat)) else none) = _
  rw [if_pos ⟨by decide, by decide, by omega⟩]
  rfl
abbrev oddL (S L : List Int) (R : Int) : List D := [.tup [.int 0, zL S, zL L], .tup [.int 5001, zL S, zL L], .tup [.non, zL S, zL L], .tup [.int R, .lst [], .lst []], .tup [.int R, .tup (S.map D.int), zL L], .tup [.int R, zL S, .lst (L.map D.int ++ [.int 1])], .tup [.int R, .lst ((S.map D.int).dropLast ++ [.int 0]), zL L],
  .tup [.int R, zL S, .lst ((L.map D.int).dropLast ++ [.bl true])], .tup [.int R, .lst [.int 1, .int 1, .int 1, .int 1, .int 1, .int 1, .int 1, .int 1, .int 1], .lst [.int 1, .int 1, .int 1, .int 1, .int 1, .int 1, .int 1, .int 1, .int 1]], .tup [.bl true, zL S, zL L], .tup [.int R, .lst ((S.map D.int).dropLast ++ [.str "1"]), zL L], .tup [.int R, zL S, .lst ((L.map D.int).dropLast ++ [.int 1001])]]
theorem odd_bad (jw xb xt js : Nat) (hw : ∀ (d : D) (lo hi : Int), simp1 d = true → cl jw [d, .int lo, .int hi] m = .ok (.bl (wv d lo hi)) m) {S L : List Int} {R : Int} (h1 : 1 ≤ R ∧ R ≤ 5000) (n0 : 1 ≤ S.length ∧ S.length ≤ 8) (hl : L.length = S.length) :
    ∀ t ∈ oddL S L R, ∃ d1 d2 d3, t = .tup [d1, d2, d3] ∧ callF (d_shared jw xb xt js).N.length (den exm cl (d_shared jw xb xt js).ir).s [d1, d2, d3] m = .exc xb m := by
  have wR : wv (.int R) 1 5000 = true := by
    show (decide (1 ≤ R) && decide (R ≤ 5000)) = true
    rw [decide_eq_true h1.1, decide_eq_true h1.2]
    rfl
  have lS : (S.map D.int).length = S.length := List.length_map ..
  have lL : (L.map D.int).length = L.length := List.length_map ..
  have sI : ∀ (X : List Int), ∀ d ∈ X.map D.int, simp1 d = true := fun X d hd => by
    obtain ⟨z, _, rfl⟩ := List.mem_map.mp hd
    rfl
  have sD : ∀ (X : List Int), ∀ d ∈ (X.map D.int).dropLast, simp1 d = true := fun X d hd => sI X d ((List.dropLast_sublist _).subset hd)
  have lastS : ∀ (x : D), simp1 x = true → wv x 1 1000 = false → callF (d_shared jw xb xt js).N.length (den exm cl (d_shared jw xb xt js).ir).s [.int R, .lst ((S.map D.int).dropLast ++ [x]), zL L] m = .exc xb m := fun x hx hf => by
    refine ref3 jw xb xt js hw (.int R) _ _ rfl wR ?_ (fun d hd => ?_) ⟨x, ?_, hf⟩
    · rw [List.length_append, List.length_dropLast, lS, lL]
      simp
      omega
    · rcases List.mem_append.mp hd with z | z
      · rcases List.mem_append.mp z with z | z
        · exact sD S d z
        · rw [List.mem_singleton.mp z]; exact hx
      · exact sI L d z
    · exact List.mem_append_left _ (List.mem_append_right _ (List.mem_singleton.mpr rfl))
  have lastL : ∀ (x : D), simp1 x = true → wv x 1 1000 = false → callF (d_shared jw xb xt js).N.length (den exm cl (d_shared jw xb xt js).ir).s [.int R, zL S, .lst ((L.map D.int).dropLast ++ [x])] m = .exc xb m := fun x hx hf => by
    refine ref3 jw xb xt js hw (.int R) _ _ rfl wR ?_ (fun d hd => ?_) ⟨x, ?_, hf⟩
    · rw [List.length_append, List.length_dropLast, lS, lL]
      simp
      omega
    · rcases List.mem_append.mp hd with z | z
      · exact sI S d z
      · rcases List.mem_append.mp z with z | z
        · exact sD L d z
        · rw [List.mem_singleton.mp z]; exact hx
    · exact List.mem_append_right _ (List.mem_append_right _ (List.mem_singleton.mpr rfl))
  intro t ht
  simp only [oddL, List.mem_cons, List.not_mem_nil, or_false] at ht
  rcases ht with rfl | rfl | rfl | rfl | rfl | rfl | rfl | rfl | rfl | rfl | rfl | rfl
  · exact ⟨_, _, _, rfl, ref1 jw xb xt js hw _ _ _ rfl rfl⟩
  · exact ⟨_, _, _, rfl, ref1 jw xb xt js hw _ _ _ rfl rfl⟩
  · exact ⟨_, _, _, rfl, ref1 jw xb xt js hw _ _ _ rfl rfl⟩
  · exact ⟨_, _, _, rfl, ref2 jw xb xt js hw _ _ _ rfl wR (.inl (by decide))⟩
  · exact ⟨_, _, _, rfl, ref1b jw xb xt js hw _ _ _ rfl wR⟩
  · exact ⟨_, _, _, rfl, ref2 jw xb xt js hw _ _ _ rfl wR (.inr (.inr (by rw [List.length_append, lS, lL]; simp; omega)))⟩
  · exact ⟨_, _, _, rfl, lastS _ rfl rfl⟩
  · exact ⟨_, _, _, rfl, lastL _ rfl rfl⟩
  · exact ⟨_, _, _, rfl, ref2 jw xb xt js hw _ _ _ rfl wR (.inr (.inl (by decide)))⟩
  · exact ⟨_, _, _, rfl, ref1 jw xb xt js hw _ _ _ rfl rfl⟩
  · exact ⟨_, _, _, rfl, lastS _ rfl rfl⟩
  · exact ⟨_, _, _, rfl, lastL _ rfl rfl⟩
theorem try_ex {F : SM} {hs : List (Nat × SM)} {c : Nat} (h : F rho m = .exc c rho m) : tryS exm F hs rho m = catchS exm hs c rho m := by
  unfold tryS
  rw [h]
theorem drop_ex {f : En → M D} {c : Nat} (h : f rho m = .exc c m) : dropS f rho m = .exc c rho m := by
  unfold dropS exS
  rw [h]
theorem call_exE {rn : List D → M D} {fs : En → M (List D)} {ds : List D} {c : Nat} (ha : fs rho m = .ok ds m) (h : rn ds m = .exc c m) : evCall rn fs rho m = .exc c m := by
  unfold evCall
  rw [bnd_ok ha, h]
theorem law02 {fds : List FD} {jc jd jw jh jo js jr xb xt jl : Nat} (fw : fds[jw]? = some d_is_within) (fh : fds[jh]? = some d_held_least) (fo : fds[jo]? = some (d_shared_of jh)) (fs : fds[js]? = some (d_shared jw xb xt jo)) (fc : fds[jc]? = some d__law_cell) (fd : fds[jd]? = some d__law_seed) (fr : fds[jr]? = some d__law_shared)
    (fl : fds[jl]? = some (d_law jc jd js jr xb xt)) (x1 : exm xb xb = true) (x2 : exm xt xb = false) (x3 : exm xt xt = true) (k : Nat) (ns : List Int) : run exm fds (k + 5) jl [.scr ns] m = .ok (.bl true) m := by
  rw [run_s exm fds (k + 4) jl _ fl]
  refine call_ok ?_
  show (den exm (run exm fds (k + 4)) (d_law jc jd js jr xb xt).ir).s [some (.scr ns), none, none, none, none, none, none, none, none, none, none, none, none] m = _
  have hc : ∀ i : Nat, run exm fds (k + 4) jc [.scr ns, dN i] m = .ok (.int (at_ ns i)) m := fun i => by
    rw [run_s exm fds (k + 3) jc _ fc]
    exact cell_run ns i
  have hd : ∀ (s : Int) (i : Nat), i ≤ 100 → run exm fds (k + 4) jd [.int s, dN i] m = .ok (.int (seedF s i)) m := fun s i h => by
    rw [run_s exm fds (k + 3) jd _ fd]
    exact seed_run s i h
  have hs : ∀ {S L : List Int} {R : Int}, Inq S L R → ∃ F held T, run exm fds (k + 4) js [.int R, zL S, zL L] m = .ok (zL ((List.range S.length).map F)) m ∧ Sh.Out S.length (at_ S) (at_ L) R F held T := fun {S L R} h => shared_all fw fh fo fs k h
  have hr : ∀ {S L : List Int} {R : Int}, Inp S L R → ∃ F held T, run exm fds (k + 4) jr [.int R, zL S, zL L] m = .ok (zL ((List.range S.length).map F)) m ∧ Sh.Out S.length (at_ S) (at_ L) R F held T := fun {S L R} h => by
    rw [run_s exm fds (k + 3) jr _ fr]
    exact law_shared_run h
  have hw : ∀ (d : D) (lo hi : Int), simp1 d = true → run exm fds (k + 3) jw [d, .int lo, .int hi] m = .ok (.bl (wv d lo hi)) m := fun d lo hi h => by
    rw [run_s exm fds (k + 2) jw _ fw]
    exact within_any d lo hi h
  have hbad : ∀ {S L : List Int} {R : Int}, 1 ≤ R ∧ R ≤ 5000 → 1 ≤ S.length ∧ S.length ≤ 8 → L.length = S.length → ∀ t ∈ oddL S L R, ∃ d1 d2 d3, t = .tup [d1, d2, d3] ∧ run exm fds (k + 4) js [d1, d2, d3] m = .exc xb m := fun {S L R} h1 h2 h3 => by
    rw [run_s exm fds (k + 3) js _ fs]
    exact odd_bad jw xb xt jo hw h1 h2 h3
  have hsm : ∀ {R : Int} (xs ys : List Int), 1 ≤ R ∧ R ≤ 5000 → 1 ≤ xs.length ∧ xs.length ≤ 8 ∧ ys.length = xs.length → (∀ d ∈ xs ++ ys, 1 ≤ d ∧ d ≤ 1000) → R < ys.sum → run exm fds (k + 4) js [.int R, zL xs, zL ys] m = .exc xt m := fun {R} xs ys h1 h2 h3 h4 => by
    rw [run_s exm fds (k + 3) js _ fs]
    exact ref4 jw xb xt jo hw xs ys h1 h2 h3 h4
  generalize run exm fds (k + 4) = cl at *
  simp only [d_law, den]
  obtain ⟨n, hn⟩ : ∃ n : Nat, (1 + at_ ns 0 % 8 : Int) = (n : Int) := ⟨(1 + at_ ns 0 % 8).toNat, by
    have := Int.emod_nonneg (at_ ns 0) (show (8 : Int) ≠ 0 by decide)
    omega⟩
  have hn1 : 1 ≤ n ∧ n ≤ 8 := by
    have a := Int.emod_nonneg (at_ ns 0) (show (8 : Int) ≠ 0 by decide)
    have b := Int.emod_lt_of_pos (at_ ns 0) (show (0 : Int) < 8 by decide)
    omega
  have md3 : ∀ i : Nat, 0 ≤ at_ ns i % 3 ∧ at_ ns i % 3 < 3 := fun i => ⟨Int.emod_nonneg _ (by decide), Int.emod_lt_of_pos _ (by decide)⟩
  obtain ⟨most, w1, w2⟩ := pick3 3 20 1000 (at_ ns 1 % 3) (md3 1)
  obtain ⟨need, d1, d2⟩ := pick3 1 9 600 (at_ ns 4 % 3) (md3 4)
  have wb : 0 < most ∧ most ≤ 1000 := by omega
  have db : 0 < need ∧ need ≤ 600 := by omega
  refine (seq_nx (r := [some (.scr ns), some (dN n), none, none, none, none, none, none, none, none, none, none, none]) (m' := m) (set_ok (d := dN n) ?_)).trans ?_
  · show _ = R.ok (D.int (n : Int)) m
    rw [← hn]
    exact add_ok rfl (mod_ok (cellE hc 0 0 rfl rfl) rfl (by decide))
  refine (seq_nx (r := [some (.scr ns), some (dN n), some (.int most), none, none, none, none, none, none, none, none, none, none]) (m' := m) (set_ok (d := .int most) (ev2_ok (lst_ok (cons_ok rfl (cons_ok rfl (cons_ok rfl rfl))) (by decide)) (mod_ok (cellE hc 1 1 rfl rfl) rfl (by decide)) w1))).trans ?_
  have rng : ∀ (rho : En), rho[1]? = some (some (dN n)) → evI rng1 (evCons (evVar 1) evNil) rho m = .ok ((List.range n).map dN) m := fun rho h => by
    show bnd (evCons (evVar 1) evNil _) _ m = _
    rw [bnd_ok (cons_ok (var_ok h) rfl)]
    exact lift_ok (rng_of n (by omega))
  have hlen : (List.range n).length ≤ sizeLine := by
    rw [List.length_range]
    have := big
    omega
  obtain ⟨S, hSd⟩ : ∃ S : List Int, S = (List.range n).map fun (i : Nat) => 1 + seedF (at_ ns 2) (i : Int) % most := ⟨_, rfl⟩
  obtain ⟨L, hLd⟩ : ∃ L : List Int, L = (List.range n).map fun (i : Nat) => 1 + seedF (at_ ns 3) (i : Int) % need := ⟨_, rfl⟩
  refine (seq_nx (r := [some (.scr ns), some (dN n), some (.int most), some (zL S), none, none, none, none, none, none, none, none, none]) (m' := m) (set_ok (d := zL S) ?_)).trans ?_
  · rw [hSd, ← zmap]
    exact comp_all dN (fun i => D.int (1 + seedF (at_ ns 2) (i : Int) % most)) (rng _ rfl) hlen fun i hi => ⟨_, rfl, add_ok rfl (mod_ok (ecall_ok (cons_ok (cellE hc 2 2 rfl rfl) (cons_ok (var_ok rfl) rfl)) (hd _ i (by have := List.mem_range.mp hi; omega))) (var_ok rfl) wb.1)⟩
  refine (seq_nx (r := [some (.scr ns), some (dN n), some (.int most), some (zL S), none, some (zL L), none, none, none, none, none, none, none]) (m' := m) (set_ok (d := zL L) ?_)).trans ?_
  · rw [hLd, ← zmap]
    exact comp_all dN (fun i => D.int (1 + seedF (at_ ns 3) (i : Int) % need)) (rng _ rfl) hlen fun i hi => ⟨_, rfl, add_ok rfl (mod_ok (ecall_ok (cons_ok (cellE hc 3 3 rfl rfl) (cons_ok (var_ok rfl) rfl)) (hd _ i (by have := List.mem_range.mp hi; omega))) (ev2_ok (lst_ok (cons_ok rfl (cons_ok rfl (cons_ok rfl rfl))) (by decide)) (mod_ok (cellE hc 4 4 rfl rfl) rfl (by decide)) d1) db.1)⟩
  have hSn : S.length = n := by rw [hSd]; simp
  have hLn : L.length = n := by rw [hLd]; simp
  have sS : ∀ x ∈ S, 1 ≤ x ∧ x ≤ 1000 := fun x hx => by
    rw [hSd] at hx
    obtain ⟨i, _, rfl⟩ := List.mem_map.mp hx
    have a := Int.emod_nonneg (seedF (at_ ns 2) (i : Int)) (show most ≠ 0 by omega)
    have b := Int.emod_lt_of_pos (seedF (at_ ns 2) (i : Int)) wb.1
    omega
  have sL : ∀ x ∈ L, 1 ≤ x ∧ x ≤ 600 := fun x hx => by
    rw [hLd] at hx
    obtain ⟨i, _, rfl⟩ := List.mem_map.mp hx
    have a := Int.emod_nonneg (seedF (at_ ns 3) (i : Int)) (show need ≠ 0 by omega)
    have b := Int.emod_lt_of_pos (seedF (at_ ns 3) (i : Int)) db.1
    omega
  have atL : ∀ {i : Nat}, i < n → at_ L i ∈ L := fun {i} hi => by
    unfold at_
    rw [show L.getD i 0 = L[i]'(by omega) by simp [hLn, hi]]
    exact List.getElem_mem _
  have Lsum : L.sum = ((List.range n).map (at_ L)).sum := by rw [← hLn]; exact zsum L
  have L1 : L.sum ≤ 4800 ∧ (n : Int) ≤ L.sum := by
    have a := sum_bd (at_ L) n 600 fun i hi => (sL _ (atL hi)).2
    have b := Sh.sum_le (l := List.range n) (f := fun _ => 1) (g := at_ L) fun i hi => (sL _ (atL (List.mem_range.mp hi))).1
    rw [Sh.sum_const, List.length_range] at b
    omega
  obtain ⟨ad, a1, a2⟩ := pick3 0 (at_ ns 5 % 40) (at_ ns 5 % 5000) (at_ ns 6 % 3) (md3 6)
  have ad0 : 0 ≤ ad := by
    have a := Int.emod_nonneg (at_ ns 5) (show (40 : Int) ≠ 0 by decide)
    have b := Int.emod_nonneg (at_ ns 5) (show (5000 : Int) ≠ 0 by decide)
    omega
  refine (seq_nx (r := [some (.scr ns), some (dN n), some (.int most), some (zL S), none, some (zL L), some (.int (L.sum + ad)), none, none, none, none, none, none]) (m' := m) (set_ok (add_ok (evB_ok (cons_ok (var_ok rfl) rfl) (sum_z L)) (ev2_ok (lst_ok (cons_ok rfl (cons_ok (mod_ok (cellE hc 5 5 rfl rfl) rfl (by decide)) (cons_ok (mod_ok (cellE hc 5 5 rfl rfl) rfl (by decide)) rfl))) (by show 3 ≤ sizeLine; decide)) (mod_ok (cellE hc 6 6 rfl rfl) rfl (by decide)) a1)))).trans ?_
  obtain ⟨R, r1, r2, r3, r4⟩ := min2 (L.sum + ad)
  have hR : L.sum ≤ R := by omega
  refine (seq_nx (r := [some (.scr ns), some (dN n), some (.int most), some (zL S), none, some (zL L), some (.int R), none, none, none, none, none, none]) (m' := m) (set_ok (d := .int R) (evB_ok (cons_ok rfl (cons_ok (var_ok rfl) rfl)) r1))).trans ?_
  have Q : Inq S L R := .mk' (by omega) (by omega) (by omega) (by omega) sS (fun x hx => by have := sL x hx; omega) hR
  obtain ⟨F, held, T, f1, f2⟩ := hs Q
  obtain ⟨F', held', T', g1, g2⟩ := hr Q.i
  have same : (List.range S.length).map F' = (List.range S.length).map F := List.map_congr_left fun i hi => g2.uniq f2 (List.mem_range.mp hi)
  rw [same] at g1
  refine (skip (evT_ok (ev2_ok (ecall_ok (cons_ok (var_ok rfl) (cons_ok (var_ok rfl) (cons_ok (var_ok rfl) rfl))) f1) (ecall_ok (cons_ok (var_ok rfl) (cons_ok (var_ok rfl) (cons_ok (var_ok rfl) rfl))) g1) (ne_z _)))).trans ?_
  -- the twelve odd ones
  have bg := big
  have lS : (S.map D.int).length = n := by rw [List.length_map, hSn]
  have lL : (L.map D.int).length = n := by rw [List.length_map, hLn]
  have t3 : ∀ (a b c : D), [a, b, c].length ≤ sizeLine := fun a b c => by show 3 ≤ sizeLine; omega
  refine (seq_nx (m' := m) (r := [some (.scr ns), some (dN n), some (.int most), some (zL S), none, some (zL L), some (.int R), some (.lst [.tup [.int 0, zL S, zL L], .tup [.int 5001, zL S, zL L], .tup [.non, zL S, zL L], .tup [.int R, .lst [], .lst []]]), none, none, none, none, none]) (set_ok (lst_ok (cons_ok (tup_ok (cons_ok rfl (cons_ok (var_ok rfl) (cons_ok (var_ok rfl) rfl))) (t3 _ _ _)) (cons_ok (tup_ok (cons_ok rfl (cons_ok (var_ok rfl) (cons_ok (var_ok rfl) rfl))) (t3 _ _ _)) (cons_ok (tup_ok (cons_ok rfl (cons_ok (var_ok rfl) (cons_ok (var_ok rfl) rfl))) (t3 _ _ _)) (cons_ok (tup_ok (cons_ok (var_ok rfl) (cons_ok rfl (cons_ok rfl rfl))) (t3 _ _ _)) rfl)))) (by show 4 ≤ sizeLine; omega)))).trans ?_
  have one1 : ∀ (x : D) (rho : En), bnd (evCons (fun _ => PF.ret x) evNil rho) lstM m = .ok (.lst [x]) m := fun x rho => lst_ok (ds := [x]) (cons_ok rfl rfl) (by show 1 ≤ sizeLine; omega)
  have cL : ∀ (x : D) (rho : En), rho[5]? = some (some (zL L)) → ev2 (Bop.sem .add) (evVar 5) (fun rho => bnd (evCons (fun _ => PF.ret x) evNil rho) lstM) rho m = .ok (.lst (L.map D.int ++ [x])) m := fun x rho h => lcat (xs := L.map D.int) (ys := [x]) (var_ok h) (one1 x rho) (by rw [lL]; show n + 1 ≤ 1000; omega)
  have dL : ∀ (x : D) (rho : En), rho[5]? = some (some (zL L)) → ev2 (Bop.sem .add) (evSl (evVar 5) (evPart none) (evPart (some (ev1 negD fun _ => PF.ret (.int 1))))) (fun rho => bnd (evCons (fun _ => PF.ret x) evNil rho) lstM) rho m = .ok (.lst ((L.map D.int).dropLast ++ [x])) m := fun x rho h => lcat (xs := (L.map D.int).dropLast) (ys := [x]) (sl_last (xs := L.map D.int) (var_ok h) (by omega)) (one1 x rho) (by rw [List.length_dropLast, lL]; show n - 1 + 1 ≤ 1000; omega)
  have dS : ∀ (x : D) (rho : En), rho[3]? = some (some (zL S)) → ev2 (Bop.sem .add) (evSl (evVar 3) (evPart none) (evPart (some (ev1 negD fun _ => PF.ret (.int 1))))) (fun rho => bnd (evCons (fun _ => PF.ret x) evNil rho) lstM) rho m = .ok (.lst ((S.map D.int).dropLast ++ [x])) m := fun x rho h => lcat (xs := (S.map D.int).dropLast) (ys := [x]) (sl_last (xs := S.map D.int) (var_ok h) (by omega)) (one1 x rho) (by rw [List.length_dropLast, lS]; show n - 1 + 1 ≤ 1000; omega)
  refine (seq_nx (m' := m) (r := [some (.scr ns), some (dN n), some (.int most), some (zL S), none, some (zL L), some (.int R), some (.lst ((oddL S L R).take 7)), none, none, none, none, none]) (set_ok (lcat (xs := (oddL S L R).take 4) (ys := [.tup [.int R, .tup (S.map D.int), zL L], .tup [.int R, zL S, .lst (L.map D.int ++ [.int 1])], .tup [.int R, .lst ((S.map D.int).dropLast ++ [.int 0]), zL L]]) (var_ok rfl) (lst_ok (cons_ok (tup_ok (cons_ok (var_ok rfl) (cons_ok (evB_ok (cons_ok (var_ok rfl) rfl) rfl) (cons_ok (var_ok rfl) rfl))) (t3 _ _ _)) (cons_ok (tup_ok (cons_ok (var_ok rfl) (cons_ok (var_ok rfl) (cons_ok (cL (.int 1) _ rfl) rfl))) (t3 _ _ _)) (cons_ok (tup_ok (cons_ok (var_ok rfl) (cons_ok (dS (.int 0) _ rfl) (cons_ok (var_ok rfl) rfl))) (t3 _ _ _)) rfl))) (t3 _ _ _)) (by show 4 + 3 ≤ 1000; omega)))).trans ?_
  refine (seq_nx (m' := m) (r := [some (.scr ns), some (dN n), some (.int most), some (zL S), none, some (zL L), some (.int R), some (.lst ((oddL S L R).take 8)), none, none, none, none, none]) ?_).trans ?_
  · refine exS_ok (a := D.lst ((oddL S L R).take 8)) ?_
    rw [bnd_ok (show lstAt 7 _ m = .ok ((oddL S L R).take 7) m from rfl), bnd_ok (tup_ok (cons_ok (var_ok rfl) (cons_ok (var_ok rfl) (cons_ok (dL (.bl true) _ rfl) rfl))) (t3 _ _ _))]
    exact lift_ok (if_pos (by show 7 < sizeLine; omega))
  refine (seq_nx (m' := m) (r := [some (.scr ns), some (dN n), some (.int most), some (zL S), none, some (zL L), some (.int R), some (.lst ((oddL S L R).take 11)), none, none, none, none, none]) (set_ok (lcat (xs := (oddL S L R).take 8) (ys := [.tup [.int R, .lst [.int 1, .int 1, .int 1, .int 1, .int 1, .int 1, .int 1, .int 1, .int 1], .lst [.int 1, .int 1, .int 1, .int 1, .int 1, .int 1, .int 1, .int 1, .int 1]], .tup [.bl true, zL S, zL L], .tup [.int R, .lst ((S.map D.int).dropLast ++ [.str "1"]), zL L]]) (var_ok rfl) (lst_ok (cons_ok (tup_ok (cons_ok (var_ok rfl) (cons_ok (ev2_ok (one1 (.int 1) _) rfl rfl) (cons_ok (ev2_ok (one1 (.int 1) _) rfl rfl) rfl))) (t3 _ _ _)) (cons_ok (tup_ok (cons_ok rfl (cons_ok (var_ok rfl) (cons_ok (var_ok rfl) rfl))) (t3 _ _ _)) (cons_ok (tup_ok (cons_ok (var_ok rfl) (cons_ok (dS (.str "1") _ rfl) (cons_ok (var_ok rfl) rfl))) (t3 _ _ _)) rfl))) (t3 _ _ _)) (by show 8 + 3 ≤ 1000; omega)))).trans ?_
  refine (seq_nx (m' := m) (r := [some (.scr ns), some (dN n), some (.int most), some (zL S), none, some (zL L), some (.int R), some (.lst (oddL S L R)), none, none, none, none, none]) ?_).trans ?_
  · refine exS_ok (a := D.lst (oddL S L R)) ?_
    rw [bnd_ok (show lstAt 7 _ m = .ok ((oddL S L R).take 11) m from rfl), bnd_ok (tup_ok (cons_ok (var_ok rfl) (cons_ok (var_ok rfl) (cons_ok (dL (.int 1001) _ rfl) rfl))) (t3 _ _ _))]
    exact lift_ok (if_pos (by show 11 < sizeLine; omega))
  obtain ⟨t, tm, t1⟩ := ix_mem (ds := oddL S L R) (x := at_ ns 7 % 12) ⟨Int.emod_nonneg _ (by decide), Int.emod_lt_of_pos _ (by decide)⟩
  obtain ⟨e1, e2, e3, rfl, eb⟩ := hbad (S := S) (L := L) (R := R) (by omega) (by omega) (by omega) t tm
  refine (seq_nx (m' := m) (r := [some (.scr ns), some (dN n), some (.int most), some (zL S), none, some (zL L), some (.int R), some (.lst (oddL S L R)), some e1, some e2, some e3, none, none]) ?_).trans ?_
  · exact (exS_ok (ev2_ok (var_ok rfl) (mod_ok (cellE hc 7 7 rfl rfl) rfl (by decide)) t1)).trans rfl
  refine (seq_nx (m' := m) (r := [some (.scr ns), some (dN n), some (.int most), some (zL S), none, some (zL L), some (.int R), some (.lst (oddL S L R)), some e1, some e2, some e3, some (.lst []), none]) (set_ok rfl)).trans ?_
  have catch1 : ∀ (l : List D) (w : Option D), l.length ≤ 10 → catchS exm ([(xb, stillS (seqS (appS 11 fun _ => PF.ret (.str "size")) nxS)), (xt, stillS (seqS (appS 11 fun _ => PF.ret (.str "small")) nxS))]) xb [some (.scr ns), some (dN n), some (.int most), some (zL S), none, some (zL L), some (.int R), some (.lst (oddL S L R)), some e1, some e2, some e3, some (.lst l), w] m = .nx [some (.scr ns), some (dN n), some (.int most), some (zL S), none, some (zL L), some (.int R), some (.lst (oddL S L R)), some e1, some e2, some e3, some (.lst (l ++ [.str "size"])), w] m := fun l w hl => by
    unfold catchS
    rw [if_pos x1]
    have e : seqS (appS 11 fun _ => PF.ret (.str "size")) nxS [some (.scr ns), some (dN n), some (.int most), some (zL S), none, some (zL L), some (.int R), some (.lst (oddL S L R)), some e1, some e2, some e3, some (.lst l), w] m = .nx [some (.scr ns), some (dN n), some (.int most), some (zL S), none, some (zL L), some (.int R), some (.lst (oddL S L R)), some e1, some e2, some e3, some (.lst (l ++ [.str "size"])), w] m := by
      refine (seq_nx (exS_ok (a := D.lst (l ++ [D.str "size"])) ?_)).trans rfl
      exact lift_ok (if_pos (by omega))
    unfold stillS
    rw [e]
  have catch2 : ∀ (l : List D) (w : Option D), l.length ≤ 10 → catchS exm ([(xb, stillS (seqS (appS 11 fun _ => PF.ret (.str "size")) nxS)), (xt, stillS (seqS (appS 11 fun _ => PF.ret (.str "small")) nxS))]) xt [some (.scr ns), some (dN n), some (.int most), some (zL S), none, some (zL L), some (.int R), some (.lst (oddL S L R)), some e1, some e2, some e3, some (.lst l), w] m = .nx [some (.scr ns), some (dN n), some (.int most), some (zL S), none, some (zL L), some (.int R), some (.lst (oddL S L R)), some e1, some e2, some e3, some (.lst (l ++ [.str "small"])), w] m := fun l w hl => by
    unfold catchS
    rw [if_neg (by rw [x2]; decide)]
    unfold catchS
    rw [if_pos x3]
    have e : seqS (appS 11 fun _ => PF.ret (.str "small")) nxS [some (.scr ns), some (dN n), some (.int most), some (zL S), none, some (zL L), some (.int R), some (.lst (oddL S L R)), some e1, some e2, some e3, some (.lst l), w] m = .nx [some (.scr ns), some (dN n), some (.int most), some (zL S), none, some (zL L), some (.int R), some (.lst (oddL S L R)), some e1, some e2, some e3, some (.lst (l ++ [.str "small"])), w] m := by
      refine (seq_nx (exS_ok (a := D.lst (l ++ [D.str "small"])) ?_)).trans rfl
      exact lift_ok (if_pos (by omega))
    unfold stillS
    rw [e]
  have L0 : 1 ≤ at_ L 0 ∧ at_ L 0 ≤ 600 := sL _ (atL (by omega))
  have small : cl js [.int L.sum, zL S, zL ((1 + at_ L 0) :: L.drop 1)] m = .exc xt m := by
    have hd0 : L = at_ L 0 :: L.drop 1 := by
      cases e : L with
      | nil => rw [e] at hLn; simp at hLn; omega
      | cons a l => rfl
    refine hsm S _ (by omega) ⟨by omega, by omega, ?_⟩ (fun d hd => ?_) ?_
    · rw [List.length_cons, List.length_drop]
      omega
    · rcases List.mem_append.mp hd with z | z
      · exact sS d z
      · rcases List.mem_cons.mp z with z | z
        · omega
        · have := sL d (List.mem_of_mem_drop z)
          omega
    · have : L.sum = at_ L 0 + (L.drop 1).sum := by
        conv => lhs; rw [hd0]
        rw [List.sum_cons]
      rw [List.sum_cons]
      omega
  have zz : zL ((1 + at_ L 0) :: L.drop 1) = .lst ([.int (1 + at_ L 0)] ++ (L.map D.int).drop 1) := by
    show D.lst (D.int (1 + at_ L 0) :: (L.drop 1).map D.int) = _
    rw [List.map_drop]
    rfl
  refine (seq_nx (m' := m) (r := [some (.scr ns), some (dN n), some (.int most), some (zL S), none, some (zL L), some (.int R), some (.lst (oddL S L R)), some e1, some e2, some e3, some (.lst [.str "size", .str "small"]), some (dN 1)]) ?_).trans ?_
  · refine (for_ok (xs := [dN 0, dN 1]) rfl).trans ?_
    have b0 : ∀ (w : Nat), (w = 0 ∨ w = 1) → ∀ l : List D, l.length ≤ 1 → (seqS (ifS (evT (ev2 (Cop.sem .eq) (evVar 12) fun _ => PF.ret (.int 0))) (seqS (dropS (evCall (cl js) (evCons (evVar 8) (evCons (evVar 9) (evCons (evVar 10) evNil))))) nxS) (seqS (dropS (evCall (cl js) (evCons (evB (Bi.sem .sum) (evCons (evVar 5) evNil)) (evCons (evVar 3) (evCons (ev2 (Bop.sem .add) (fun rho => bnd (evCons (ev2 (Bop.sem .add) (fun _ => PF.ret (.int 1)) (ev2 ixD (evVar 5) fun _ => PF.ret (.int 0))) evNil rho) lstM) (evSl (evVar 5) (evPart (some fun _ => PF.ret (.int 1))) (evPart none))) evNil))))) nxS)) nxS) [some (.scr ns), some (dN n), some (.int most), some (zL S), none, some (zL L), some (.int R), some (.lst (oddL S L R)), some e1, some e2, some e3, some (.lst l), some (dN w)] m = .exc (if w = 0 then xb else xt) [some (.scr ns), some (dN n), some (.int most), some (zL S), none, some (zL L), some (.int R), some (.lst (oddL S L R)), some e1, some e2, some e3, some (.lst l), some (dN w)] m := fun w hw l hl => by
      rcases hw with rfl | rfl
      · refine seq_ex ((if_t (evT_ok (eq_ok (i := 0) (j := 0) (var_ok rfl) rfl))).trans ?_)
        exact seq_ex (drop_ex (call_exE (cons_ok (var_ok rfl) (cons_ok (var_ok rfl) (cons_ok (var_ok rfl) rfl))) eb))
      · refine seq_ex ((if_f (evT_ok (eq_ok (i := 1) (j := 0) (var_ok rfl) rfl))).trans ?_)
        refine seq_ex (drop_ex (call_exE (ds := [.int L.sum, zL S, zL ((1 + at_ L 0) :: L.drop 1)]) (cons_ok (evB_ok (cons_ok (var_ok rfl) rfl) (sum_z L)) (cons_ok (var_ok rfl) (cons_ok ?_ rfl))) small))
        rw [zz]
        refine lcat (lst_ok (ds := [.int (1 + at_ L 0)]) (cons_ok (add_ok rfl (ev2_ok (var_ok rfl) rfl (ix_z (i := 0) (by omega)))) rfl) (by show 1 ≤ sizeLine; omega)) (sl_tail (xs := L.map D.int) (var_ok rfl) (by omega)) ?_
        rw [List.length_drop, lL]
        show 1 + (n - 1) ≤ 1000
        omega
    have s0 := b0 0 (.inl rfl) [] (by decide)
    have s1 := b0 1 (.inr rfl) [.str "size"] (by show 1 ≤ 1; omega)
    rw [if_pos rfl] at s0
    rw [if_neg (by decide)] at s1
    show cont _ (seqS (tryS exm _ _) nxS [some (.scr ns), some (dN n), some (.int most), some (zL S), none, some (zL L), some (.int R), some (.lst (oddL S L R)), some e1, some e2, some e3, some (.lst []), some (dN 0)] m) = _
    refine (congrArg (fun z => cont _ z) (seq_nx ((try_ex s0).trans (catch1 [] (some (dN 0)) (by decide))))).trans ?_
    show cont _ (seqS (tryS exm _ _) nxS [some (.scr ns), some (dN n), some (.int most), some (zL S), none, some (zL L), some (.int R), some (.lst (oddL S L R)), some e1, some e2, some e3, some (.lst [.str "size"]), some (dN 1)] m) = _
    refine (congrArg (fun z => cont _ z) (seq_nx ((try_ex s1).trans (catch2 [.str "size"] (some (dN 1)) (by show 1 ≤ 10; omega))))).trans ?_
    rfl
  have eqs : eqD (.lst [.str "size", .str "small"]) (.lst [.str "size", .str "small"]) = some (.bl true) := by
    have p : D.pl (.lst [.str "size", .str "small"]) = true := by decide +kernel
    have q : eqOk (.lst [.str "size", .str "small"]) (.lst [.str "size", .str "small"]) = true := by decide +kernel
    unfold eqD
    rw [eqb_refl (.lst [.str "size", .str "small"]) p, q]
    simp
  exact seq_rt (ret_ok (ev2_ok (var_ok rfl) rfl eqs))
end
end PF

namespace PF
open PySem L2
def fdsL : List FD := [d_is_within, d_held_least, (d_shared_of 1), (d_shared 0 1 2 2), d__law_cell, d__law_seed, d__law_shared, (d_law 4 5 3 6 1 2)]
def top (i : Nat) : Stmt := PySem.Challenge.pw_paneframe_k02_shared.main.body.getD i (.Pass ⟨0, 0, 0, 0⟩)
def lawD : LawD := ⟨fdsL, [top 5, top 8, top 9, top 10, top 12, top 13, top 14, top 15], [("MOST_ROOM", 5000)], ["PaneError", "BadSize", "TooSmall"], [[true, false, false], [true, true, false], [true, false, true]], ["shared_of"], 7⟩
theorem lawD_ok : lawD.ok = true := by decide +kernel

abbrev hk : PySem.W.Hook := He.hookX 4 lawD.fa lawD.fn [] lawD.tf (fun _ => true)
def ob (s : PySem.W.SharedT) : He.AlX := He.obsX 4 lawD.fa lawD.fn [] lawD.tf (fun _ => true) (HandSHeadRun.getT s)
theorem ob_eq (s : PySem.W.SharedT) : ob s = hk.obs s.abs := He.obsX_eq (HandSHeadRun.getT_eq s)
abbrev Rw : PySem.W.OpenRow := PySem.W.OpenLaw.row PySem.Challenge.rw_paneframe_k02_shared
theorem head_run (w : World) : HandSHeadRun.RunEq Rw (PySem.W.view Rw.prog [15]) hk ob 4000 ["PaneError", "BadSize", "TooSmall", "is_within", "MOST_ROOM", "held_least", "shared_of", "shared", "_law_cell", "_law_seed", "_law_shared"] w := by
  intro os
  kernel_rfl

def lvl : Nat := 100
theorem law_true (ns : List Int) (h1 : ns.length ≤ 63) (h2 : ∀ z ∈ ns, Builtin.Int.intBits z ≤ 1048576) : ∃ m, run lawD.exm lawD.fds lvl lawD.law [.scr ns] [] = .ok (.bl true) m := ⟨[], law02 (jw := 0) (jh := 1) (jo := 2) (js := 3) (jc := 4) (jd := 5) (jr := 6) (xb := 1) (xt := 2) rfl rfl rfl rfl rfl rfl rfl rfl rfl rfl rfl 95 ns⟩
end PF

open PySem PySem.W PySem.Calls PyProof.Rows
theorem PySem.Challenge.cw_paneframe_k02_shared_holds : PySem.Challenge.rw_paneframe_k02_shared.Holds := by
  w_on; o_law
  refine HandSHeadRun.head_any (r := OpenLaw.row PySem.Challenge.rw_paneframe_k02_shared) (q := view (OpenLaw.row PySem.Challenge.rw_paneframe_k02_shared).prog [15]) (H := PF.hk) (ob := PF.ob) (M := 4000) (loose := ["PaneError", "BadSize", "TooSmall", "is_within", "MOST_ROOM", "held_least", "shared_of", "shared", "_law_cell", "_law_seed", "_law_shared"]) (d := HandSHeadRun.topDef (OpenLaw.row PySem.Challenge.rw_paneframe_k02_shared).prog 15) (kwd := []) PF.ob_eq
    (by kernel_rfl) (fun s => by kernel_rfl) PF.head_run (by kernel_rfl) (by kernel_rfl) (by kernel_rfl) (by rfl) (by first | assumption | decide +kernel) (by decide +kernel) ⟨rfl, rfl, rfl, rfl, rfl, by decide +kernel⟩ ?hw ?hc
  case hw => w_witness2
  case hc =>
    refine LamX.walk_ofTsE (l := PySem.Challenge.rw_paneframe_k02_shared) (n := 63) (k := PF.lvl) (x := "script") (CX := fun w => L2.CX (PySem.Challenge.rw_paneframe_k02_shared).prog w) rfl (by decide) (by kernel_rfl) ⟨rfl, by decide, by decide⟩ ?F (fun _ _ _ _ _ ⟨_, _, _, _, _, _, _, _, _, _, _, _, z⟩ => z)
    intro w mg fa h Y G hmg0
    obtain ⟨K, KX, c⟩ := Y
    have hmg : mg ("law" : PySem.Str) = some (.ref fa) := by
      have e : (HandSHeadRun.topDef (OpenLaw.row PySem.Challenge.rw_paneframe_k02_shared).prog 15).name = ("law" : PySem.Str) := by kernel_rfl
      rw [← e]
      exact hmg0
    exact ⟨K, KX, PF.LawD.at_ PF.lawD PF.lawD_ok KX G c (d := (PF.d_law 4 5 3 6 1 2)) rfl hmg PF.law_true⟩


