import PyProof.Rows.All
import Wide.All
import OpenK.AllK
import Wide.FinOn
import HandS.ForMost
import HandS.ForExc
import HandS.Lambda
import HandS.TupAny
import HandS.TupMul
import HandS.Flow
import HandS.Style
import HandS.Wide
import HandS.IsInst
import KE.KRevSl
import HandS.Iter
import HandS.Zip
import KE.GoesEnum
import HandS.More
import HandS.TryMany
import HandS.Conv
import HandS.Text
import HandS.Defaults
import HandS.CallSlots
import HandS.SortRule
import HandS.SortInts
import HandS.SortKw
import KE.SortUse
import HandS.ExcOwn
import HandS.TupLe
import HandS.SetFor
import PyProof.EqKinds
import HandS.HeadHook4
import HandS.HeadWalk
import HandS.Head2
import HandS.HeadEnd
import HandS.Codes
import PySem.Challenge.RW_paneframe_k08_stacks
set_option Elab.async false
set_option linter.all false
set_option maxRecDepth 100000
set_option maxHeartbeats 8100000
namespace PF
open PySem L2
/-! ### data, results -/
inductive D where
  | non | bl (b : Bool) | int (i : Int) | str (x : Str) | tup (xs : List D) | lst (xs : List D) | obj (n : Nat) | scr (ns : List Int) | dic (ks : List Key) (ds : List D)
abbrev Ob := List (Str × D)
abbrev Store := List Ob
inductive R (α : Type) where
  | ok (a : α) (m : Store) | exc (c : Nat) (m : Store) | bad
abbrev M (α : Type) := Store → R α
abbrev En := List (Option D)
def R.wp {α : Type} (r : R α) (P : α → Store → Prop) (E : Nat → Store → Prop) : Prop := match r with
  | .ok a m => P a m
  | .exc c m => E c m
  | .bad => False
def bnd {α β : Type} (x : M α) (f : α → M β) : M β := fun m => match x m with
  | .ok a m' => f a m'
  | .exc c m' => .exc c m'
  | .bad => .bad
def ret {α : Type} (a : α) : M α := fun m => .ok a m
def lift {α : Type} (o : Option α) : M α := fun m => match o with
  | some a => .ok a m
  | none => .bad
theorem wp_bnd {α β : Type} {x : M α} {f : α → M β} {m : Store} {P : β → Store → Prop} {E : Nat → Store → Prop} :
    (bnd x f m).wp P E ↔ (x m).wp (fun a m' => (f a m').wp P E) E := by
  unfold bnd R.wp
  cases x m <;> simp
theorem wp_mono {α : Type} {r : R α} {P P' : α → Store → Prop} {E E' : Nat → Store → Prop} (h : r.wp P E) (hP : ∀ a m, P a m → P' a m) (hE : ∀ c m, E c m → E' c m) : r.wp P' E' := by
  unfold R.wp at *
  cases r with
  | ok a m => exact hP a m h
  | exc c m => exact hE c m h
  | bad => exact h
theorem wp_lift {α : Type} {o : Option α} {m : Store} {P : α → Store → Prop} {E : Nat → Store → Prop} : (lift o m).wp P E ↔ ∃ a, o = some a ∧ P a m := by
  unfold lift R.wp
  cases o <;> simp
/-! ### ghost state -/
inductive Own where
  | ins (n : Nat) | dic (n : Nat) | fld (n : Nat) (f : Str) | tab | dead
structure Gh where
  F : Hp
  B : Addr → Option Own
  io : List Addr
mutual
inductive Rep (K : PySem.W.Frag) (g : Gh) : V → D → Prop
  | non : Rep K g .non .non
  | bl (b : Bool) : Rep K g (.bl b) (.bl b)
  | int (i : Int) : Rep K g (.int i) (.int i)
  | str (x : Str) : Rep K g (.str x) (.str x)
  | tup {a : Addr} {vs : List V} {ds : List D} : g.F a = some (.tup vs) → RepL K g vs ds → Rep K g (.ref a) (.tup ds)
  | lst {a : Addr} {vs : List V} {ds : List D} : g.F a = some (.lst vs) → RepL K g vs ds → Rep K g (.ref a) (.lst ds)
  | obj {a : Addr} {n : Nat} : g.io[n]? = some a → Rep K g (.ref a) (.obj n)
  | scr {a : Addr} {ns : List Int} : SqL K g.F a (ns.map V.int) → Rep K g (.ref a) (.scr ns)
  | dic {a : Addr} {ks : List Key} {vs : List V} {ds : List D} : g.F a = some (.dK (ks.zip vs)) → ks.length = vs.length → RepL K g vs ds → Rep K g (.ref a) (.dic ks ds)
inductive RepL (K : PySem.W.Frag) (g : Gh) : List V → List D → Prop
  | nil : RepL K g [] []
  | cons {v : V} {d : D} {vs : List V} {ds : List D} : Rep K g v d → RepL K g vs ds → RepL K g (v :: vs) (d :: ds)
end
/-- more is frozen, more objects -/
structure Le (g g' : Gh) : Prop where
  ff : Same g.F g'.F
  io : ∃ more, g'.io = g.io ++ more
theorem Le.refl (g : Gh) : Le g g := ⟨Same.refl _, [], by simp⟩
theorem Le.trans {a b c : Gh} (x : Le a b) (y : Le b c) : Le a c := by
  obtain ⟨m1, e1⟩ := x.io
  obtain ⟨m2, e2⟩ := y.io
  exact ⟨x.ff.trans y.ff, m1 ++ m2, by rw [e2, e1, List.append_assoc]⟩
theorem io_at {g g' : Gh} (l : Le g g') {n : Nat} {a : Addr} (h : g.io[n]? = some a) : g'.io[n]? = some a := by
  obtain ⟨m, e⟩ := l.io
  rw [e, List.getElem?_append_left (List.getElem?_eq_some_iff.mp h).1]
  exact h
mutual
theorem Rep.mono {K : PySem.W.Frag} {g g' : Gh} (l : Le g g') : ∀ {v : V} {d : D}, Rep K g v d → Rep K g' v d
  | _, _, .non => .non
  | _, _, .bl b => .bl b
  | _, _, .int i => .int i
  | _, _, .str x => .str x
  | _, _, .tup h r => .tup (l.ff _ _ h) (RepL.mono l r)
  | _, _, .lst h r => .lst (l.ff _ _ h) (RepL.mono l r)
  | _, _, .obj h => .obj (io_at l h)
  | _, _, .scr h => .scr (l.ff.seq h)
  | _, _, .dic h e r => .dic (l.ff _ _ h) e (RepL.mono l r)
theorem RepL.mono {K : PySem.W.Frag} {g g' : Gh} (l : Le g g') : ∀ {vs : List V} {ds : List D}, RepL K g vs ds → RepL K g' vs ds
  | _, _, .nil => .nil
  | _, _, .cons h t => .cons (Rep.mono l h) (RepL.mono l t)
end
theorem RepL.length {K : PySem.W.Frag} {g : Gh} : ∀ {vs : List V} {ds : List D}, RepL K g vs ds → vs.length = ds.length
  | _, _, .nil => rfl
  | _, _, .cons _ t => congrArg Nat.succ (RepL.length t)
theorem RepL.get {K : PySem.W.Frag} {g : Gh} : ∀ {vs : List V} {ds : List D} {i : Nat} {d : D}, RepL K g vs ds → ds[i]? = some d → ∃ v, vs[i]? = some v ∧ Rep K g v d
  | _, _, _, _, .nil, e => by simp at e
  | _, _, 0, _, .cons h _, e => by
    simp only [List.getElem?_cons_zero, Option.some.injEq] at e
    subst e
    exact ⟨_, rfl, h⟩
  | _, _, i + 1, _, .cons _ t, e => by
    simp only [List.getElem?_cons_succ] at e ⊢
    exact RepL.get t e
theorem RepL.getV {K : PySem.W.Frag} {g : Gh} : ∀ {vs : List V} {ds : List D} {i : Nat} {v : V}, RepL K g vs ds → vs[i]? = some v → ∃ d, ds[i]? = some d ∧ Rep K g v d
  | _, _, _, _, .nil, e => by simp at e
  | _, _, 0, _, .cons h _, e => by
    simp only [List.getElem?_cons_zero, Option.some.injEq] at e
    subst e
    exact ⟨_, rfl, h⟩
  | _, _, i + 1, _, .cons _ t, e => by
    simp only [List.getElem?_cons_succ] at e ⊢
    exact RepL.getV t e
theorem RepL.append {K : PySem.W.Frag} {g : Gh} : ∀ {vs ws : List V} {ds es : List D}, RepL K g vs ds → RepL K g ws es → RepL K g (vs ++ ws) (ds ++ es)
  | _, _, _, _, .nil, s => s
  | _, _, _, _, .cons h t, s => .cons h (RepL.append t s)
theorem RepL.take {K : PySem.W.Frag} {g : Gh} : ∀ {vs : List V} {ds : List D} (n : Nat), RepL K g vs ds → RepL K g (vs.take n) (ds.take n)
  | _, _, 0, _ => .nil
  | _, _, _ + 1, .nil => .nil
  | _, _, n + 1, .cons h t => .cons h (RepL.take n t)
theorem RepL.drop {K : PySem.W.Frag} {g : Gh} : ∀ {vs : List V} {ds : List D} (n : Nat), RepL K g vs ds → RepL K g (vs.drop n) (ds.drop n)
  | _, _, 0, r => r
  | _, _, _ + 1, .nil => .nil
  | _, _, n + 1, .cons _ t => RepL.drop n t
theorem RepL.set {K : PySem.W.Frag} {g : Gh} {v : V} {d : D} (r : Rep K g v d) : ∀ {vs : List V} {ds : List D} (n : Nat), RepL K g vs ds → RepL K g (vs.set n v) (ds.set n d)
  | _, _, _, .nil => .nil
  | _, _, 0, .cons _ t => .cons r t
  | _, _, n + 1, .cons h t => .cons h (RepL.set r n t)
theorem RepL.ints {K : PySem.W.Frag} {g : Gh} : ∀ {vs : List V} {ns : List Int}, RepL K g vs (ns.map D.int) → vs = ns.map V.int
  | _, [], .nil => rfl
  | _, n :: ns, .cons h t => by
    cases h
    rw [RepL.ints t]
    rfl
theorem RepL.of_ints {K : PySem.W.Frag} {g : Gh} : ∀ (ns : List Int), RepL K g (ns.map V.int) (ns.map D.int)
  | [] => .nil
  | n :: ns => .cons (.int n) (RepL.of_ints ns)
/-- the fixed facts: the written part, the code tables, the class of the walls, the exceptions' classes -/
structure Par where
  K : PySem.W.Frag
  T : List (Addr × Str)
  C : Addr
  cls : Nat → Value
/-- from (g, H) to (g', H'): nothing is changed but what B owns -/
structure Ext (g : Gh) (H : Hp) (g' : Gh) (H' : Hp) : Prop where
  le : Le g g'
  hh : ∀ a o, H a = some o → g.B a = none → H' a = some o
  fn : ∀ a, H a ≠ none → g.F a = none → g'.F a = none
  bb : ∀ a, g.B a ≠ none → g'.B a ≠ none
  bn : ∀ a, H a ≠ none → g.B a = none → g'.B a = none
  no : ∀ a, H a ≠ none → H' a ≠ none
theorem Ext.refl (g : Gh) (H : Hp) : Ext g H g H := ⟨Le.refl g, fun _ _ h _ => h, fun _ _ h => h, fun _ h => h, fun _ _ h => h, fun _ h => h⟩
theorem Ext.trans {g g1 g2 : Gh} {H H1 H2 : Hp} (a : Ext g H g1 H1) (b : Ext g1 H1 g2 H2) : Ext g H g2 H2 where
  le := a.le.trans b.le
  hh := fun x o h n => b.hh x o (a.hh x o h n) (a.bn x (by rw [h]; simp) n)
  fn := fun x h n => b.fn x (a.no x h) (a.fn x h n)
  bb := fun x h => b.bb x (a.bb x h)
  bn := fun x h n => b.bn x (a.no x h) (a.bn x h n)
  no := fun x h => b.no x (a.no x h)
theorem Ext.fresh {g g' : Gh} {H H' : Hp} (e : Ext g H g' H') {a : Addr} (h : H' a = none) : H a = none := by
  cases q : H a with
  | none => rfl
  | some o => exact absurd h (e.no a (by rw [q]; simp))
/-- a field of an object -/
def FldR (K : PySem.W.Frag) (g : Gh) (H : Hp) (n : Nat) (f : Str) (v : V) (d : D) : Prop := match d with
  | .lst ds => ∃ a vs, v = .ref a ∧ H a = some (.lst vs) ∧ g.B a = some (.fld n f) ∧ RepL K g vs ds
  | d => Rep K g v d
def ObR (p : Par) (g : Gh) (H : Hp) (n : Nat) (x : Addr) (fs : Ob) : Prop :=
  ∃ (dx : Addr) (vf : List (Str × V)), H x = some (.ins p.C dx vf) ∧ H dx = some (.own x) ∧ g.B x = some (.ins n) ∧ g.B dx = some (.dic n) ∧
    Paired (fun (q : Str × V) (r : Str × D) => q.1 = r.1 ∧ FldR p.K g H n q.1 q.2 r.2) vf fs
structure Ok (p : Par) (g : Gh) (m : Store) (H : Hp) : Prop where
  fh : Same g.F H
  bf : ∀ a, g.B a ≠ none → g.F a = none
  bh : ∀ a, g.B a ≠ none → H a ≠ none
  tabs : LamX.Tabs p.T H
  tabB : ∀ q ∈ p.T, g.B q.1 = some .tab
  obl : m.length = g.io.length
  obs : ∀ (n : Nat) (fs : Ob), m[n]? = some fs → ∃ x, g.io[n]? = some x ∧ ObR p g H n x fs
theorem FldR.keep {K : PySem.W.Frag} {g g' : Gh} {H H' : Hp} {n : Nat} {f : Str} {v : V} {d : D} (l : Le g g') (hb : g'.B = g.B) (hh : ∀ a o, H a = some o → H' a = some o) (h : FldR K g H n f v d) : FldR K g' H' n f v d := by
  unfold FldR at *
  cases d with
  | lst ds =>
    obtain ⟨a, vs, e, h1, h2, h3⟩ := h
    exact ⟨a, vs, e, hh _ _ h1, by rw [hb]; exact h2, h3.mono l⟩
  | non => exact Rep.mono l h
  | bl b => exact Rep.mono l h
  | int i => exact Rep.mono l h
  | str x => exact Rep.mono l h
  | tup xs => exact Rep.mono l h
  | obj n => exact Rep.mono l h
  | scr ns => exact Rep.mono l h
  | dic ks ds => exact Rep.mono l h
theorem Paired.imp2 {α β : Type} {F G : α → β → Prop} {l : List α} {k : List β} (h : Paired F l k) (f : ∀ a b, F a b → G a b) : Paired G l k := L2.Paired.mapP h f
/-- nothing is changed; something may be new -/
theorem Ok.keep {p : Par} {g g' : Gh} {m : Store} {H H' : Hp} (o : Ok p g m H) (ff : Same g.F g'.F) (hb : g'.B = g.B) (hio : g'.io = g.io) (hh : ∀ a o, H a = some o → H' a = some o) (fh : Same g'.F H') (bf : ∀ a, g.B a ≠ none → g'.F a = none) : Ok p g' m H' := by
  have l : Le g g' := ⟨ff, [], by rw [hio]; simp⟩
  have bh : ∀ a, g.B a ≠ none → H' a ≠ none := fun a h => by
    have z := o.bh a h
    cases q : H a with
    | none => exact absurd q z
    | some u => rw [hh a u q]; simp
  refine ⟨fh, fun a h => bf a (by rw [← hb]; exact h), fun a h => bh a (by rw [← hb]; exact h), o.tabs.ext hh, fun q hq => by rw [hb]; exact o.tabB q hq, by rw [hio]; exact o.obl, fun n fs h => ?_⟩
  obtain ⟨x, e, dx, vf, h1, h2, h3, h4, h5⟩ := o.obs n fs h
  exact ⟨x, by rw [hio]; exact e, dx, vf, hh _ _ h1, hh _ _ h2, by rw [hb]; exact h3, by rw [hb]; exact h4, Paired.imp2 h5 fun q r z => ⟨z.1, z.2.keep l hb hh⟩⟩
def Gh.put (g : Gh) (a : Addr) (o : HO) : Gh := { g with F := upd g.F a o }
theorem same_upd {H : Hp} {a : Addr} {o : HO} (h : H a = none) : Same H (upd H a o) := fun b u q => by rw [upd_ne (ne_of_none q h)]; exact q
theorem Ok.fnone {p : Par} {g : Gh} {m : Store} {H : Hp} (o : Ok p g m H) {a : Addr} (h : H a = none) : g.F a = none := by
  cases q : g.F a with
  | none => rfl
  | some u => rw [o.fh a u q] at h; cases h
theorem Ok.bnone {p : Par} {g : Gh} {m : Store} {H : Hp} (o : Ok p g m H) {a : Addr} (h : H a = none) : g.B a = none := by
  cases q : g.B a with
  | none => rfl
  | some u => exact absurd h (o.bh a (by rw [q]; simp))
/-- a new object, not frozen -/
theorem Ok.raw {p : Par} {g : Gh} {m : Store} {H : Hp} (o : Ok p g m H) {a : Addr} (h : H a = none) (u : HO) : Ok p g m (upd H a u) ∧ Ext g H g (upd H a u) := by
  refine ⟨o.keep (Same.refl _) rfl rfl (same_upd h) (fun b w q => same_upd h b w (o.fh b w q)) o.bf, Le.refl g, fun b w q _ => same_upd h b w q, fun _ _ z => z, fun _ z => z, fun _ _ z => z, fun b q => ?_⟩
  cases z : H b with
  | none => exact absurd z q
  | some w => rw [same_upd h b w z]; simp
/-- what stands and is nobody's is frozen -/
theorem Ok.freeze {p : Par} {g : Gh} {m : Store} {H : Hp} (o : Ok p g m H) {a : Addr} {u : HO} (h : H a = some u) (hb : g.B a = none) (hf : g.F a = none) : Ok p (g.put a u) m H := by
  refine o.keep (same_upd hf) rfl rfl (fun _ _ z => z) (fun b w q => ?_) (fun b q => ?_)
  · show H b = some w
    have q' : upd g.F a u b = some w := q
    by_cases z : b = a
    · subst z
      rw [upd_same] at q'
      rw [h]; exact q'
    · rw [upd_ne z] at q'
      exact o.fh b w q'
  · show upd g.F a u b = none
    have z : b ≠ a := fun z => q (by rw [z]; exact hb)
    rw [upd_ne z]
    exact o.bf b q
theorem Le.put {g : Gh} {a : Addr} {u : HO} (hf : g.F a = none) : Le g (g.put a u) := ⟨same_upd hf, [], by simp [Gh.put]⟩
/-- .. as seen from ahead of its making -/
theorem Ext.freeze {g g' : Gh} {H H' : Hp} (e : Ext g H g' H') {a : Addr} {u : HO} (h : H a = none) (hf : g'.F a = none) : Ext g H (g'.put a u) H' := by
  refine ⟨e.le.trans (Le.put hf), e.hh, fun b q z => ?_, e.bb, e.bn, e.no⟩
  show upd g'.F a u b = none
  rw [upd_ne (fun y => q (by rw [y]; exact h))]
  exact e.fn b q z
/-- a new frozen object -/
theorem Ok.new {p : Par} {g : Gh} {m : Store} {H : Hp} (o : Ok p g m H) {a : Addr} (h : H a = none) (u : HO) : Ok p (g.put a u) m (upd H a u) ∧ Ext g H (g.put a u) (upd H a u) := by
  obtain ⟨o1, e1⟩ := o.raw h u
  exact ⟨o1.freeze upd_same (o.bnone h) (o.fnone h), e1.freeze h (o.fnone h)⟩
/-! ### how a value stands for a datum -/
/-- read now: a list may be somebody's own -/
def RepA (K : PySem.W.Frag) (g : Gh) (H : Hp) (v : V) (d : D) : Prop := match d with
  | .lst ds => ∃ a vs, v = .ref a ∧ H a = some (.lst vs) ∧ g.B a = none ∧ RepL K g vs ds
  | d => Rep K g v d
/-- a list is new since H0 and nobody's -/
def RepF (K : PySem.W.Frag) (H0 : Hp) (g : Gh) (H : Hp) (v : V) (d : D) : Prop := match d with
  | .lst ds => ∃ a vs, v = .ref a ∧ H0 a = none ∧ H a = some (.lst vs) ∧ g.F a = none ∧ g.B a = none ∧ RepL K g vs ds
  | d => Rep K g v d
theorem RepA.of {p : Par} {g : Gh} {m : Store} {H : Hp} (o : Ok p g m H) {v : V} {d : D} (r : Rep p.K g v d) : RepA p.K g H v d := by
  cases d with
  | lst ds =>
    cases r with
    | lst h t =>
      refine ⟨_, _, rfl, o.fh _ _ h, ?_, t⟩
      rename_i a vs
      cases q : g.B a with
      | none => rfl
      | some w =>
        have z := o.bf a (by rw [q]; simp)
        rw [z] at h; cases h
  | _ => exact r
theorem RepA.ext {K : PySem.W.Frag} {g g' : Gh} {H H' : Hp} (e : Ext g H g' H') {v : V} {d : D} (r : RepA K g H v d) : RepA K g' H' v d := by
  cases d with
  | lst ds =>
    obtain ⟨a, vs, e1, h1, h2, h3⟩ := r
    exact ⟨a, vs, e1, e.hh _ _ h1 h2, e.bn a (by rw [h1]; simp) h2, h3.mono e.le⟩
  | non => exact Rep.mono e.le r
  | bl b => exact Rep.mono e.le r
  | int i => exact Rep.mono e.le r
  | str x => exact Rep.mono e.le r
  | tup xs => exact Rep.mono e.le r
  | obj n => exact Rep.mono e.le r
  | scr ns => exact Rep.mono e.le r
  | dic ks ds => exact Rep.mono e.le r
theorem RepF.any {K : PySem.W.Frag} {g : Gh} {H0 H : Hp} {v : V} {d : D} (r : RepF K H0 g H v d) : RepA K g H v d := by
  cases d with
  | lst ds =>
    obtain ⟨a, vs, e1, _, h1, _, h2, h3⟩ := r
    exact ⟨a, vs, e1, h1, h2, h3⟩
  | _ => exact r
theorem RepF.from {K : PySem.W.Frag} {g0 g1 g : Gh} {H0 H1 H : Hp} (e : Ext g0 H0 g1 H1) {v : V} {d : D} (r : RepF K H1 g H v d) : RepF K H0 g H v d := by
  cases d with
  | lst ds =>
    obtain ⟨a, vs, e1, h0, h⟩ := r
    exact ⟨a, vs, e1, e.fresh h0, h⟩
  | _ => exact r
/-- a new thing is frozen -/
theorem RepF.frz {p : Par} {g0 g : Gh} {m : Store} {H0 H : Hp} (o : Ok p g m H) (e : Ext g0 H0 g H) {v : V} {d : D} (r : RepF p.K H0 g H v d) : ∃ g', Ok p g' m H ∧ Ext g0 H0 g' H ∧ Rep p.K g' v d := by
  cases d with
  | lst ds =>
    obtain ⟨a, vs, rfl, h0, h1, h2, h3, h4⟩ := r
    exact ⟨g.put a (.lst vs), o.freeze h1 h3 h2, e.freeze h0 h2, .lst (show upd g.F a (.lst vs) a = _ from upd_same) (h4.mono (Le.put h2))⟩
  | _ => exact ⟨g, o, e, r⟩
def RepAL (K : PySem.W.Frag) (g : Gh) (H : Hp) : List V → List D → Prop := Paired (RepA K g H)
theorem RepAL.ext {K : PySem.W.Frag} {g g' : Gh} {H H' : Hp} (e : Ext g H g' H') {vs : List V} {ds : List D} (r : RepAL K g H vs ds) : RepAL K g' H' vs ds := Paired.imp2 r fun _ _ z => z.ext e
/-! ### the frame -/
inductive Md where
  | frz | own | bor
  deriving DecidableEq
structure Fr where
  p : Par
  md : Nat → Md
  g0 : Gh
  H0 : Hp
  W : WX
def SlotR (fr : Fr) (ow : Addr → Option Nat) (g : Gh) (H : Hp) (i : Nat) (v : V) (d : D) : Prop := match fr.md i with
  | .frz => Rep fr.p.K g v d
  | .own => (match d with
    | .lst ds => ∃ a vs, v = .ref a ∧ fr.H0 a = none ∧ H a = some (.lst vs) ∧ g.F a = none ∧ g.B a = none ∧ RepL fr.p.K g vs ds ∧ ow a = some i
    | d => Rep fr.p.K g v d)
  | .bor => (match d with
    | .lst ds => ∃ a vs, v = .ref a ∧ fr.H0 a ≠ none ∧ H a = some (.lst vs) ∧ g.B a = none ∧ RepL fr.p.K g vs ds
    | d => Rep fr.p.K g v d)
structure Rl (fr : Fr) (g : Gh) (H : Hp) (rho : En) (m : Store) (s : St) : Prop where
  ok : Ok fr.p g m H
  ent : Ext fr.g0 fr.H0 g H
  len : rho.length = s.length
  val : ∃ ow : Addr → Option Nat, ∀ (i : Nat) (d : D), rho[i]? = some (some d) → ∃ v, s[i]? = some (some v) ∧ SlotR fr ow g H i v d
theorem SlotR.any {fr : Fr} {ow : Addr → Option Nat} {g : Gh} {m : Store} {H : Hp} {i : Nat} {v : V} {d : D} (o : Ok fr.p g m H) (h : SlotR fr ow g H i v d) : RepA fr.p.K g H v d := by
  unfold SlotR at h
  cases q : fr.md i with
  | frz => rw [q] at h; exact RepA.of o h
  | own =>
    rw [q] at h
    cases d with
    | lst ds =>
      obtain ⟨a, vs, e, _, h1, _, h2, h3, _⟩ := h
      exact ⟨a, vs, e, h1, h2, h3⟩
    | _ => exact RepA.of o h
  | bor =>
    rw [q] at h
    cases d with
    | lst ds =>
      obtain ⟨a, vs, e, _, h1, h2, h3⟩ := h
      exact ⟨a, vs, e, h1, h2, h3⟩
    | _ => exact RepA.of o h
theorem SlotR.ext {fr : Fr} {ow : Addr → Option Nat} {g g' : Gh} {H H' : Hp} {i : Nat} {v : V} {d : D} (e : Ext g H g' H') (h : SlotR fr ow g H i v d) : SlotR fr ow g' H' i v d := by
  unfold SlotR at *
  cases q : fr.md i with
  | frz => rw [q] at h; exact Rep.mono e.le h
  | own =>
    rw [q] at h
    cases d with
    | lst ds =>
      obtain ⟨a, vs, e0, e1, h1, h0, h2, h3, h4⟩ := h
      have z : H a ≠ none := by rw [h1]; simp
      exact ⟨a, vs, e0, e1, e.hh _ _ h1 h2, e.fn a z h0, e.bn a z h2, h3.mono e.le, h4⟩
    | _ => exact Rep.mono e.le h
  | bor =>
    rw [q] at h
    cases d with
    | lst ds =>
      obtain ⟨a, vs, e0, e1, h1, h2, h3⟩ := h
      have z : H a ≠ none := by rw [h1]; simp
      exact ⟨a, vs, e0, e1, e.hh _ _ h1 h2, e.bn a z h2, h3.mono e.le⟩
    | _ => exact Rep.mono e.le h
theorem Rl.ext {fr : Fr} {g g' : Gh} {H H' : Hp} {rho : En} {m m' : Store} {s : St} (r : Rl fr g H rho m s) (e : Ext g H g' H') (o : Ok fr.p g' m' H') : Rl fr g' H' rho m' s := by
  obtain ⟨ow, hv⟩ := r.val
  refine ⟨o, r.ent.trans e, r.len, ow, fun i d h => ?_⟩
  obtain ⟨v, h1, h2⟩ := hv i d h
  exact ⟨v, h1, h2.ext e⟩
/-! ### readings -/
abbrev VR := Hp → Gh → Hp → V → D → Prop
def vA (K : PySem.W.Frag) : VR := fun _ g H v d => RepA K g H v d
def vZ (K : PySem.W.Frag) : VR := fun _ g _ v d => Rep K g v d
def vF (K : PySem.W.Frag) : VR := fun H0 g H v d => RepF K H0 g H v d
def OkE (fr : Fr) (g : Gh) (H : Hp) (s : St) (c : Nat) (m' : Store) : Prop := ∀ g' H', Ext g H g' H' → Ok fr.p g' m' H' → fr.W (fr.p.cls c) none s H'
def TV (fr : Fr) (vr : VR) (f : En → M D) : TE := fun s H Q => ∃ rho g m, Rl fr g H rho m s ∧
  (f rho m).wp (fun d m' => ∀ v g' H', Ext g H g' H' → Ok fr.p g' m' H' → vr H g' H' v d → Q v H') (OkE fr g H s)
def TB (fr : Fr) (f : En → M Bool) : TT := fun s H Q => ∃ rho g m, Rl fr g H rho m s ∧
  (f rho m).wp (fun b m' => ∀ g' H', Ext g H g' H' → Ok fr.p g' m' H' → Q b H') (OkE fr g H s)
theorem OkE.from {fr : Fr} {g g1 : Gh} {H H1 : Hp} {s : St} {c : Nat} {m' : Store} (e : Ext g H g1 H1) (h : OkE fr g H s c m') : OkE fr g1 H1 s c m' := fun g' H' e' o => h g' H' (e.trans e') o
section
variable {X : Cx} {fr : Fr} {x : Expr} {f : En → M D}
theorem pe_weak {t t' : TE} (h : PE X x t) (hw : ∀ s H Q, t' s H Q → t s H Q) : PE X x t' := ⟨fun pins s σ H Q I q => h.run pins s σ H Q I (hw σ H Q q)⟩
theorem pt_weak {t t' : TT} (h : PT X x t) (hw : ∀ s H Q, t' s H Q → t s H Q) : PT X x t' := ⟨fun pins s σ H Q I q => h.run pins s σ H Q I (hw σ H Q q)⟩
theorem pa_weak {xs : List Expr} {t t' : TA} (h : PA X xs t) (hw : ∀ s H Q, t' s H Q → t s H Q) : PA X xs t' := ⟨fun pos pins s σ H Q I q => h.run pos pins s σ H Q I (hw σ H Q q)⟩
theorem toZ (h : PE X x (TV fr (vF fr.p.K) f)) : PE X x (TV fr (vZ fr.p.K) f) := pe_weak h fun s H Q ⟨rho, g, m, r, w⟩ => ⟨rho, g, m, r, wp_mono w (fun d m' q v g' H' e o z => by
  obtain ⟨g2, o2, e2, z2⟩ := RepF.frz o e z
  exact q v g2 H' e2 o2 z2) fun _ _ z => z⟩
theorem toA (h : PE X x (TV fr (vZ fr.p.K) f)) : PE X x (TV fr (vA fr.p.K) f) := pe_weak h fun s H Q ⟨rho, g, m, r, w⟩ => ⟨rho, g, m, r, wp_mono w (fun d m' q v g' H' e o z => q v g' H' e o (RepA.of o z)) fun _ _ z => z⟩
theorem fToA (h : PE X x (TV fr (vF fr.p.K) f)) : PE X x (TV fr (vA fr.p.K) f) := toA (toZ h)
end
end PF
namespace PF
open PySem L2
/-! ### operations on data -/
mutual
def D.eqb : D → D → Bool
  | .non, .non => true
  | .bl a, .bl b => a == b
  | .bl a, .int j => (if a then 1 else 0) == j
  | .int i, .bl b => i == (if b then 1 else 0)
  | .int i, .int j => i == j
  | .str x, .str y => x == y
  | .lst xs, .lst ys => D.eqbL xs ys
  | .tup xs, .tup ys => D.eqbL xs ys
  | _, _ => false
def D.eqbL : List D → List D → Bool
  | [], [] => true
  | x :: xs, y :: ys => D.eqb x y && D.eqbL xs ys
  | _, _ => false
end
mutual
/-- nothing but plain data, so deep -/
def D.pl : D → Bool
  | .non => true
  | .bl _ => true
  | .int _ => true
  | .str x => PyData.strOk x
  | .tup xs => D.plL xs
  | .lst xs => D.plL xs
  | .obj _ => false
  | .scr _ => false
  | .dic _ _ => false
def D.plL : List D → Bool
  | [] => true
  | x :: xs => D.pl x && D.plL xs
end
mutual
def D.dp : D → Nat
  | .tup xs => D.dpL xs + 1
  | .lst xs => D.dpL xs + 1
  | _ => 0
def D.dpL : List D → Nat
  | [] => 0
  | x :: xs => max (D.dp x) (D.dpL xs)
end
mutual
def D.py : D → PyData
  | .non => .none
  | .bl b => .bool b
  | .int i => .int i
  | .str x => .str x
  | .tup xs => .tuple (D.pyL xs)
  | .lst xs => .list (D.pyL xs)
  | .obj _ => .none
  | .scr _ => .none
  | .dic _ _ => .none
def D.pyL : List D → List PyData
  | [] => []
  | x :: xs => D.py x :: D.pyL xs
end
mutual
theorem eqv_py : ∀ (d e : D), d.pl = true → e.pl = true → PyData.eqv d.py e.py = d.eqb e
  | .non, e, _, h => by cases e <;> simp_all [D.py, D.eqb, PyData.eqv, D.pl]
  | .bl b, e, _, h => by cases e <;> simp_all [D.py, D.eqb, PyData.eqv, D.pl]
  | .int i, e, _, h => by cases e <;> simp_all [D.py, D.eqb, PyData.eqv, D.pl]
  | .str x, e, _, h => by cases e <;> simp_all [D.py, D.eqb, PyData.eqv, D.pl]
  | .tup xs, e, hd, h => by
    cases e with
    | tup ys => simp only [D.py, D.eqb, PyData.eqv]; exact eqv_pyL xs ys (by simpa [D.pl] using hd) (by simpa [D.pl] using h)
    | _ => simp_all [D.py, D.eqb, PyData.eqv, D.pl]
  | .lst xs, e, hd, h => by
    cases e with
    | lst ys => simp only [D.py, D.eqb, PyData.eqv]; exact eqv_pyL xs ys (by simpa [D.pl] using hd) (by simpa [D.pl] using h)
    | _ => simp_all [D.py, D.eqb, PyData.eqv, D.pl]
  | .obj _, _, hd, _ => by simp [D.pl] at hd
  | .scr _, _, hd, _ => by simp [D.pl] at hd
  | .dic _ _, _, hd, _ => by simp [D.pl] at hd
theorem eqv_pyL : ∀ (d e : List D), D.plL d = true → D.plL e = true → PyData.eqvAll (D.pyL d) (D.pyL e) = D.eqbL d e
  | [], [], _, _ => rfl
  | [], _ :: _, _, _ => rfl
  | _ :: _, [], _, _ => rfl
  | x :: xs, y :: ys, hd, he => by
    simp only [D.plL, Bool.and_eq_true] at hd he
    simp only [D.pyL, D.eqbL, PyData.eqvAll, eqv_py x y hd.1 he.1, eqv_pyL xs ys hd.2 he.2]
end
mutual
theorem lay_py : ∀ d : D, d.pl = true → d.py.canLay0 = true
  | .non, _ => rfl
  | .bl _, _ => rfl
  | .int _, _ => rfl
  | .str _, h => h
  | .tup xs, h => by simp only [D.py, PyData.canLay0]; exact lay_pyL xs (by simpa [D.pl] using h)
  | .lst xs, h => by simp only [D.py, PyData.canLay0]; exact lay_pyL xs (by simpa [D.pl] using h)
  | .obj _, _ => rfl
  | .scr _, _ => rfl
  | .dic _ _, _ => rfl
theorem lay_pyL : ∀ d : List D, D.plL d = true → PyData.canLayAll0 (D.pyL d) = true
  | [], _ => rfl
  | x :: xs, h => by
    simp only [D.plL, Bool.and_eq_true] at h
    simp only [D.pyL, PyData.canLayAll0, lay_py x h.1, lay_pyL xs h.2, Bool.and_self]
end
mutual
theorem dp_py : ∀ d : D, d.py.depth = d.dp
  | .non => rfl
  | .bl _ => rfl
  | .int _ => rfl
  | .str _ => rfl
  | .tup xs => by simp only [D.py, D.dp, PyData.depth]; rw [dp_pyL xs]
  | .lst xs => by simp only [D.py, D.dp, PyData.depth]; rw [dp_pyL xs]
  | .obj _ => rfl
  | .scr _ => rfl
  | .dic _ _ => rfl
theorem dp_pyL : ∀ d : List D, PyData.depthAll (D.pyL d) = D.dpL d
  | [] => rfl
  | x :: xs => by simp only [D.pyL, D.dpL, PyData.depthAll]; rw [dp_py x, dp_pyL xs]
end
mutual
theorem eqb_refl : ∀ d : D, d.pl = true → d.eqb d = true
  | .non, _ => rfl
  | .bl b, _ => by simp [D.eqb]
  | .int i, _ => by simp [D.eqb]
  | .str x, _ => by simp [D.eqb]
  | .tup xs, h => by simp only [D.eqb]; exact eqbL_refl xs (by simpa [D.pl] using h)
  | .lst xs, h => by simp only [D.eqb]; exact eqbL_refl xs (by simpa [D.pl] using h)
  | .obj _, h => by simp [D.pl] at h
  | .scr _, h => by simp [D.pl] at h
  | .dic _ _, h => by simp [D.pl] at h
theorem eqbL_refl : ∀ d : List D, D.plL d = true → D.eqbL d d = true
  | [], _ => rfl
  | x :: xs, h => by
    simp only [D.plL, Bool.and_eq_true] at h
    simp only [D.eqbL, eqb_refl x h.1, eqbL_refl xs h.2, Bool.and_self]
end
def eqOk (d e : D) : Bool := d.pl && e.pl && decide (d.dp ≤ 64) && decide (e.dp ≤ 64)
def scD : D → D → Bool
  | .non, .non => true
  | .non, .int _ => true
  | .non, .bl _ => true
  | .non, .str _ => true
  | .int _, .non => true
  | .int _, .int _ => true
  | .int _, .str _ => true
  | .bl _, .non => true
  | .bl _, .bl _ => true
  | .bl _, .str _ => true
  | .str _, .non => true
  | .str _, .int _ => true
  | .str _, .bl _ => true
  | .str _, .str _ => true
  | _, _ => false
def eqD (d e : D) : Option D := if (scD d e || eqOk d e) = true then some (.bl (d.eqb e)) else none
def neD (d e : D) : Option D := if (scD d e || eqOk d e) = true then some (.bl (!d.eqb e)) else none
def D.flat : D → Bool
  | .non => true
  | .bl _ => true
  | .int _ => true
  | .str _ => true
  | _ => false
def seqD : D → Option (List D)
  | .tup xs => some xs
  | .lst xs => some xs
  | _ => none
def strIn (i j : Str) : Bool := match i.cps.toList with
  | [c] => decide (c ∈ j.cps.toList)
  | _ => !(Builtin.Str.occurrences j i 0 j.length 1).isEmpty
def inD (neg : Bool) (d e : D) : Option D := match seqD e with
  | some xs => if (d.flat && xs.all D.flat) = true then some (.bl (if neg then !(xs.any fun y => y.eqb d) else xs.any fun y => y.eqb d)) else none
  | none => (match d, e with
    | .str i, .str j => some (.bl (if neg then !strIn i j else strIn i j))
    | _, _ => none)
def truthD : D → Option Bool
  | .non => some false
  | .bl b => some b
  | .int i => some (i != 0)
  | .str x => if x.length ≤ sizeLine then some ((x.length : Int) != 0) else none
  | .tup xs => some (!xs.isEmpty)
  | .lst xs => some (!xs.isEmpty)
  | _ => none
def mulOk (i j : Int) : Prop := ((-(2 ^ 64) < i ∧ i < 2 ^ 64) ∨ (-(2 ^ 64) < j ∧ j < 2 ^ 64)) ∨ i.natAbs.log2 + j.natAbs.log2 < 1000000
instance (i j : Int) : Decidable (mulOk i j) := by unfold mulOk; infer_instance
def addD : D → D → Option D
  | .int i, .int j => some (.int (i + j))
  | .str x, .str y => if x.length + y.length ≤ sizeLine then some (.str (x ++ y)) else none
  | .lst xs, .lst ys => if xs.length + ys.length ≤ sizeLine then some (.lst (xs ++ ys)) else none
  | .tup xs, .tup ys => if xs.length + ys.length ≤ sizeLine then some (.tup (xs ++ ys)) else none
  | _, _ => none
def subD : D → D → Option D
  | .int i, .int j => some (.int (i - j))
  | _, _ => none
def mulD : D → D → Option D
  | .int i, .int j => if mulOk i j then some (.int (i * j)) else none
  | .lst xs, .int k => if -(2 ^ 63) ≤ k ∧ k < 2 ^ 63 ∧ xs.length * k.toNat ≤ sizeLine then some (.lst (List.replicate k.toNat xs).flatten) else none
  | .tup xs, .int k => if xs ≠ [] ∧ 2 ≤ k ∧ k ≤ 1000 ∧ xs.length ≤ 1000 then some (.tup (List.replicate k.toNat xs).flatten) else none
  | .str x, .int k => if k = 0 then some (.str Str.empty) else if k = 1 then some (.str x) else none
  | _, _ => none
def divOk (j : Int) : Prop := 0 < j ∧ j.natAbs.log2 < 9000
instance (j : Int) : Decidable (divOk j) := by unfold divOk; infer_instance
def divD : D → D → Option D
  | .int i, .int j => if divOk j then some (.int (i / j)) else none
  | _, _ => none
def modD : D → D → Option D
  | .int i, .int j => if 0 < j then some (.int (i % j)) else none
  | _, _ => none
def powOk (i j : Int) : Prop := 0 ≤ j ∧ j ≤ 1000000 ∧ i.natAbs < 2 ^ 64
instance (i j : Int) : Decidable (powOk i j) := by unfold powOk; infer_instance
def powD : D → D → Option D
  | .int i, .int j => if powOk i j then some (.int (i ^ j.toNat)) else none
  | _, _ => none
def ltD : D → D → Option D
  | .int i, .int j => some (.bl (decide (i < j)))
  | _, _ => none
def leD : D → D → Option D
  | .int i, .int j => some (.bl (decide (i ≤ j)))
  | _, _ => none
def gtD : D → D → Option D
  | .int i, .int j => some (.bl (decide (j < i)))
  | _, _ => none
def geD : D → D → Option D
  | .int i, .int j => some (.bl (decide (j ≤ i)))
  | _, _ => none
def negD : D → Option D
  | .int i => some (.int (-i))
  | _ => none
def ixD : D → D → Option D
  | .tup xs, .int i => atI xs i
  | .lst xs, .int i => atI xs i
  | .scr ns, .int i => (atI ns i).map D.int
  | .str z, .int i => if z.length ≤ sizeLine then (atI z.cps.toList i).map fun c => .str ⟨#[c]⟩ else none
  | _, _ => none
def cutL {α : Type} (xs : List α) (lo hi : Option Int) : List α := (xs.drop (HT.sIx xs.length 0 lo)).take (HT.sIx xs.length xs.length hi - HT.sIx xs.length 0 lo)
def slD (d : D) (lo hi : Option Int) : Option D := match d with
  | .lst xs => some (.lst (cutL xs lo hi))
  | .tup xs => some (.tup (cutL xs lo hi))
  | .str z => if z.length ≤ sizeLine then some (.str (cutS z lo hi)) else none
  | _ => none
def lenD : D → Option D
  | .tup xs => some (.int xs.length)
  | .lst xs => some (.int xs.length)
  | .scr ns => some (.int ns.length)
  | .str x => if x.length ≤ sizeLine then some (.int x.length) else none
  | _ => none
/-! ### reading what stands for a datum -/
section
variable {K : PySem.W.Frag} {g : Gh} {H : Hp} {v : V}
theorem RepA.int {i : Int} (h : RepA K g H v (.int i)) : v = .int i := by
  have h' : Rep K g v (.int i) := h
  cases h'; rfl
theorem RepA.str {x : Str} (h : RepA K g H v (.str x)) : v = .str x := by
  have h' : Rep K g v (.str x) := h
  cases h'; rfl
theorem RepA.bl {b : Bool} (h : RepA K g H v (.bl b)) : v = .bl b := by
  have h' : Rep K g v (.bl b) := h
  cases h'; rfl
theorem RepA.non (h : RepA K g H v .non) : v = .non := by
  have h' : Rep K g v .non := h
  cases h'; rfl
theorem RepA.tup {ds : List D} (h : RepA K g H v (.tup ds)) : ∃ a vs, v = .ref a ∧ g.F a = some (.tup vs) ∧ RepL K g vs ds := by
  have h' : Rep K g v (.tup ds) := h
  cases h' with
  | tup h1 t => exact ⟨_, _, rfl, h1, t⟩
theorem RepA.scr {ns : List Int} (h : RepA K g H v (.scr ns)) : ∃ a, v = .ref a ∧ SqL K g.F a (ns.map V.int) := by
  have h' : Rep K g v (.scr ns) := h
  cases h' with
  | scr h1 => exact ⟨_, rfl, h1⟩
theorem RepA.lst {ds : List D} (h : RepA K g H v (.lst ds)) : ∃ a vs, v = .ref a ∧ H a = some (.lst vs) ∧ g.B a = none ∧ RepL K g vs ds := h
end
section
variable {p : Par} {g : Gh} {m : Store} {H : Hp} {Q : VK}
/-- what a rule's answer must give -/
abbrev Ans (p : Par) (g : Gh) (m : Store) (H : Hp) (d : D) (Q : VK) : Prop := ∀ v g' H', Ext g H g' H' → Ok p g' m H' → RepF p.K H g' H' v d → Q v H'
theorem Ans.flat (o : Ok p g m H) {v : V} {d : D} (r : Rep p.K g v d) (hd : ∀ ds, d ≠ .lst ds) (q : Ans p g m H d Q) : Q v H := q v g H (Ext.refl g H) o (by
  cases d with
  | lst ds => exact absurd rfl (hd ds)
  | _ => exact r)
theorem Ans.int (o : Ok p g m H) {i : Int} (q : Ans p g m H (.int i) Q) : Q (.int i) H := Ans.flat o (.int i) (fun _ z => by cases z) q
theorem Ans.bl (o : Ok p g m H) {b : Bool} (q : Ans p g m H (.bl b) Q) : Q (.bl b) H := Ans.flat o (.bl b) (fun _ z => by cases z) q
theorem Ans.str (o : Ok p g m H) {x : Str} (q : Ans p g m H (.str x) Q) : Q (.str x) H := Ans.flat o (.str x) (fun _ z => by cases z) q
theorem Ans.newL (o : Ok p g m H) {vs : List V} {ds : List D} (r : RepL p.K g vs ds) (q : Ans p g m H (.lst ds) Q) : ∀ a, H a = none → Q (.ref a) (upd H a (.lst vs)) := fun a ha => by
  obtain ⟨o1, e1⟩ := o.raw ha (.lst vs)
  exact q _ g _ e1 o1 ⟨a, vs, rfl, ha, upd_same, o.fnone ha, o.bnone ha, r⟩
theorem Ans.newT (o : Ok p g m H) {vs : List V} {ds : List D} (r : RepL p.K g vs ds) (q : Ans p g m H (.tup ds) Q) : ∀ a, H a = none → Q (.ref a) (upd H a (.tup vs)) := fun a ha => by
  obtain ⟨o1, e1⟩ := o.new ha (.tup vs)
  exact q _ _ _ e1 o1 (show Rep p.K _ (.ref a) (.tup ds) from .tup (show upd g.F a (.tup vs) a = _ from upd_same) (r.mono (Le.put (o.fnone ha))))
theorem Ok.sqT (o : Ok p g m H) {K : PySem.W.Frag} {a : Addr} {vs : List V} (h : g.F a = some (.tup vs)) : SqT K H a vs := SqT.of (o.fh _ _ h)
/-- a rule of two values does what sem says -/
def Im2 (r : PySem.W.Frag → R2) (sem : D → D → Option D) : Prop := ∀ (p : Par) (g : Gh) (m : Store) (H : Hp) (x y : V) (dx dy d : D) (Q : VK), Ok p g m H → RepA p.K g H x dx → RepA p.K g H y dy → sem dx dy = some d → Ans p g m H d Q → r p.K x y H Q
def ImL (r : PySem.W.Frag → List V → Hp → VK → Prop) (sem : List D → Option D) : Prop := ∀ (p : Par) (g : Gh) (m : Store) (H : Hp) (xs : List V) (dxs : List D) (d : D) (Q : VK), Ok p g m H → RepAL p.K g H xs dxs → sem dxs = some d → Ans p g m H d Q → r p.K xs H Q
end
/-! ### operators -/
abbrev rPlus (K : PySem.W.Frag) : R2 := fun x y H Q => (rI0 (fun i j => .int (i + j)) x y H Q) ∨ ((∃ i j, x = .str i ∧ y = .str j ∧ i.length + j.length ≤ sizeLine ∧ Q (.str (i ++ j)) H) ∨ (rCat x y H Q ∨ rCatA K x y H Q))
theorem o_plus {X : Cx} : OpR X (binaryOp .Add) (rPlus X.K) := op_add.or (op_add_str.or (op_cat.or op_catA))
theorem im_plus : Im2 rPlus addD := by
  intro p g m H x y dx dy d Q o rx ry e q
  unfold addD at e
  split at e
  · cases e
    rw [rx.int, ry.int]
    exact .inl ⟨_, _, rfl, rfl, q.int o⟩
  · split at e
    · cases e
      rw [rx.str, ry.str]
      rename_i h
      exact .inr (.inl ⟨_, _, rfl, rfl, h, q.str o⟩)
    · cases e
  · split at e
    · cases e
      rename_i h
      obtain ⟨a, vs, rfl, h1, h2, h3⟩ := rx.lst
      obtain ⟨b, ws, rfl, k1, k2, k3⟩ := ry.lst
      exact .inr (.inr (.inl ⟨a, b, vs, ws, rfl, rfl, h1, k1, by rw [h3.length, k3.length]; exact h, q.newL o (h3.append k3)⟩))
    · cases e
  · split at e
    · cases e
      rename_i h
      obtain ⟨a, vs, rfl, h1, h3⟩ := rx.tup
      obtain ⟨b, ws, rfl, k1, k3⟩ := ry.tup
      refine .inr (.inr (.inr ⟨a, b, vs, ws, rfl, rfl, o.sqT h1, o.sqT k1, by rw [h3.length, k3.length]; exact h, fun z => ?_, fun _ z => ?_, fun _ _ => q.newT o (h3.append k3)⟩))
      · subst z
        cases h3
        exact q.flat o (.tup k1 k3) (fun _ z => by cases z)
      · subst z
        cases k3
        exact q.flat o (.tup h1 (by rw [List.append_nil]; exact h3)) (fun _ z => by cases z)
    · cases e
  · cases e
abbrev rMinus (K : PySem.W.Frag) : R2 := rI0 (fun i j => .int (i - j))
theorem im_minus : Im2 rMinus subD := by
  intro p g m H x y dx dy d Q o rx ry e q
  unfold subD at e
  split at e
  · cases e
    rw [rx.int, ry.int]
    exact ⟨_, _, rfl, rfl, q.int o⟩
  · cases e
def rMulS : R2 := fun x y H Q => ∃ z n, x = .str z ∧ y = .int n ∧ MulOk z n ∧ Q (.str (Txt.mul z n)) H
theorem op_mulS {X : Cx} : OpR X (binaryOp .Mult) rMulS := by
  intro pins s σ H x y v u Q I rx ry h
  obtain ⟨i, j, rfl, rfl, hz, q⟩ := h
  obtain ⟨t, rfl⟩ := rx
  obtain ⟨t', rfl⟩ := ry
  exact SB.mul hz fun t' tk => ⟨.str (Txt.mul i j), H, I.tok _, ⟨_, rfl⟩, q⟩
abbrev rTimes (K : PySem.W.Frag) : R2 := fun x y H Q => (rI CMul (fun i j => .int (i * j)) x y H Q) ∨ ((rI CMulW (fun i j => .int (i * j)) x y H Q) ∨ (rRep x y H Q ∨ (rRepT K x y H Q ∨ rMulS x y H Q)))
theorem o_times {X : Cx} : OpR X (binaryOp .Mult) (rTimes X.K) := op_mul.or (op_mulW.or (op_rep.or (op_repT.or op_mulS)))
theorem RepL.rep {K : PySem.W.Frag} {g : Gh} {vs : List V} {ds : List D} (r : RepL K g vs ds) : ∀ n : Nat, RepL K g (List.replicate n vs).flatten (List.replicate n ds).flatten
  | 0 => .nil
  | n + 1 => by
    rw [List.replicate_succ, List.replicate_succ, List.flatten_cons, List.flatten_cons]
    exact r.append (RepL.rep r n)
theorem im_times : Im2 rTimes mulD := by
  intro p g m H x y dx dy d Q o rx ry e q
  unfold mulD at e
  split at e
  · split at e
    · cases e
      rename_i h
      rw [rx.int, ry.int]
      rcases h with h | h
      · exact .inl ⟨_, _, rfl, rfl, h, q.int o⟩
      · exact .inr (.inl ⟨_, _, rfl, rfl, h, q.int o⟩)
    · cases e
  · split at e
    · cases e
      rename_i h
      obtain ⟨h1, h2, h3⟩ := h
      obtain ⟨a, vs, rfl, k1, k2, k3⟩ := rx.lst
      rw [ry.int]
      exact .inr (.inr (.inl ⟨a, _, vs, rfl, rfl, k1, h1, h2, by rw [k3.length]; exact h3, q.newL o (k3.rep _)⟩))
    · cases e
  · split at e
    · cases e
      rename_i h
      obtain ⟨h1, h2, h3, h4⟩ := h
      obtain ⟨a, vs, rfl, k1, k3⟩ := rx.tup
      rw [ry.int]
      refine .inr (.inr (.inr (.inl ⟨a, _, vs, rfl, rfl, o.sqT k1, fun z => ?_, h2, h3, by rw [k3.length]; exact h4, q.newT o (k3.rep _)⟩)))
      subst z
      cases k3
      exact h1 rfl
    · cases e
  · rename_i z k
    split at e
    · cases e
      rename_i hk
      rw [rx.str, ry.int, hk]
      exact .inr (.inr (.inr (.inr ⟨_, _, rfl, rfl, ⟨by decide, fun h => absurd (by decide) h, fun h => absurd (by decide) h⟩, q.str o⟩)))
    · split at e
      · cases e
        rename_i hk
        rw [rx.str, ry.int, hk]
        exact .inr (.inr (.inr (.inr ⟨_, _, rfl, rfl, ⟨by decide, fun _ h => absurd h (by simp), fun _ h => absurd h (by simp)⟩, by
          show Q (.str (Txt.mul _ 1)) H
          rw [show ∀ z : Str, Txt.mul z 1 = z from fun z => rfl]
          exact q.str o⟩)))
      · cases e
  · cases e
abbrev rDiv (K : PySem.W.Frag) : R2 := rI CDivW (fun i j => .int (i / j))
theorem im_div : Im2 rDiv divD := by
  intro p g m H x y dx dy d Q o rx ry e q
  unfold divD at e
  split at e
  · split at e
    · cases e
      rename_i h
      rw [rx.int, ry.int]
      exact ⟨_, _, rfl, rfl, h, q.int o⟩
    · cases e
  · cases e
abbrev rMod (K : PySem.W.Frag) : R2 := rI (fun _ j => 0 < j) (fun i j => .int (i % j))
theorem im_mod : Im2 rMod modD := by
  intro p g m H x y dx dy d Q o rx ry e q
  unfold modD at e
  split at e
  · split at e
    · cases e
      rename_i h
      rw [rx.int, ry.int]
      exact ⟨_, _, rfl, rfl, h, q.int o⟩
    · cases e
  · cases e
abbrev rPow (K : PySem.W.Frag) : R2 := rI CPow (fun i j => .int (i ^ j.toNat))
theorem im_pow : Im2 rPow powD := by
  intro p g m H x y dx dy d Q o rx ry e q
  unfold powD at e
  split at e
  · split at e
    · cases e
      rename_i h
      rw [rx.int, ry.int]
      exact ⟨_, _, rfl, rfl, h, q.int o⟩
    · cases e
  · cases e
abbrev rCmpI (f : Int → Int → Bool) (K : PySem.W.Frag) : R2 := rI0 (fun i j => .bl (f i j))
theorem im_lt : Im2 (rCmpI fun i j => decide (i < j)) ltD := by
  intro p g m H x y dx dy d Q o rx ry e q
  unfold ltD at e
  split at e
  · cases e
    rw [rx.int, ry.int]
    exact ⟨_, _, rfl, rfl, q.bl o⟩
  · cases e
theorem im_le : Im2 (rCmpI fun i j => decide (i ≤ j)) leD := by
  intro p g m H x y dx dy d Q o rx ry e q
  unfold leD at e
  split at e
  · cases e
    rw [rx.int, ry.int]
    exact ⟨_, _, rfl, rfl, q.bl o⟩
  · cases e
theorem im_gt : Im2 (rCmpI fun i j => decide (j < i)) gtD := by
  intro p g m H x y dx dy d Q o rx ry e q
  unfold gtD at e
  split at e
  · cases e
    rw [rx.int, ry.int]
    exact ⟨_, _, rfl, rfl, q.bl o⟩
  · cases e
theorem im_ge : Im2 (rCmpI fun i j => decide (j ≤ i)) geD := by
  intro p g m H x y dx dy d Q o rx ry e q
  unfold geD at e
  split at e
  · cases e
    rw [rx.int, ry.int]
    exact ⟨_, _, rfl, rfl, q.bl o⟩
  · cases e
/-! == -/
mutual
theorem Rep.dp {p : Par} {g : Gh} {m : Store} {H : Hp} (o : Ok p g m H) : ∀ {v : V} {d : D}, Rep p.K g v d → d.pl = true → Dp p.K H v d.py
  | _, _, .non, _ => .non
  | _, _, .bl b, _ => .bl b
  | _, _, .int i, _ => .int i
  | _, _, .str x, _ => .str x
  | _, _, .tup h r, e => .tup (SqT.of (o.fh _ _ h)) (RepL.dp o r (by simpa [D.pl] using e))
  | _, _, .lst h r, e => .lst (SqL.of (o.fh _ _ h)) (RepL.dp o r (by simpa [D.pl] using e))
  | _, _, .obj _, e => by simp [D.pl] at e
  | _, _, .scr _, e => by simp [D.pl] at e
  | _, _, .dic _ _ _, e => by simp [D.pl] at e
theorem RepL.dp {p : Par} {g : Gh} {m : Store} {H : Hp} (o : Ok p g m H) : ∀ {vs : List V} {ds : List D}, RepL p.K g vs ds → D.plL ds = true → DpAll p.K H vs (D.pyL ds)
  | _, _, .nil, _ => .nil
  | _, _, .cons h t, e => by
    simp only [D.plL, Bool.and_eq_true] at e
    exact .cons (Rep.dp o h e.1) (RepL.dp o t e.2)
end
theorem RepA.dp {p : Par} {g : Gh} {m : Store} {H : Hp} (o : Ok p g m H) {v : V} {d : D} (r : RepA p.K g H v d) (h : d.pl = true) : Dp p.K H v d.py := by
  cases d with
  | lst ds =>
    obtain ⟨a, vs, rfl, h1, _, h3⟩ := r.lst
    exact .lst (SqL.of h1) (h3.dp o (by simpa [D.pl] using h))
  | _ => exact Rep.dp o r h
theorem eqOk_iff {d e : D} : eqOk d e = true ↔ d.pl = true ∧ e.pl = true ∧ d.dp ≤ 64 ∧ e.dp ≤ 64 := by
  simp [eqOk, and_assoc]
theorem shaped_py {d : D} (h0 : d.pl = true) (h : d.dp ≤ 64) : SeqAt.shaped d.py = true := by
  unfold SeqAt.shaped
  rw [lay_py d h0, dp_py]
  simp [h]
theorem scD_rep {K : PySem.W.Frag} {g : Gh} {H : Hp} {x y : V} {d e : D} (h : scD d e = true) (rx : RepA K g H x d) (ry : RepA K g H y e) : scal x y = true ∧ decide (x = y) = d.eqb e := by
  unfold scD at h
  split at h
  all_goals first
    | (cases h; done)
    | (first | rw [rx.non] | rw [rx.int] | rw [rx.bl] | rw [rx.str]
       first | rw [ry.non] | rw [ry.int] | rw [ry.bl] | rw [ry.str]
       refine ⟨rfl, ?_⟩
       first
         | (simp [D.eqb]; done)
         | (rw [D.eqb, Bool.eq_iff_iff]; simp; done))
abbrev rEq2 (K : PySem.W.Frag) : R2 := fun x y H Q => rEq x y H Q ∨ rEqD K x y H Q
abbrev rNe2 (K : PySem.W.Frag) : R2 := fun x y H Q => rNe x y H Q ∨ rNeD K x y H Q
theorem im_eq : Im2 rEq2 eqD := by
  intro p g m H x y dx dy d Q o rx ry e q
  unfold eqD at e
  split at e
  · rename_i h
    cases e
    rw [Bool.or_eq_true] at h
    rcases h with h | h
    · obtain ⟨h1, h2⟩ := scD_rep h rx ry
      exact .inl ⟨h1, by rw [h2]; exact q.bl o⟩
    · obtain ⟨h1, h2, h3, h4⟩ := eqOk_iff.mp h
      refine .inr ⟨dx.py, dy.py, rx.dp o h1, ry.dp o h2, shaped_py h1 h3, shaped_py h2 h4, ?_⟩
      rw [eqv_py _ _ h1 h2]
      exact q.bl o
  · cases e
theorem im_ne : Im2 rNe2 neD := by
  intro p g m H x y dx dy d Q o rx ry e q
  unfold neD at e
  split at e
  · rename_i h
    cases e
    rw [Bool.or_eq_true] at h
    rcases h with h | h
    · obtain ⟨h1, h2⟩ := scD_rep h rx ry
      exact .inl ⟨h1, by rw [h2]; exact q.bl o⟩
    · obtain ⟨h1, h2, h3, h4⟩ := eqOk_iff.mp h
      refine .inr ⟨dx.py, dy.py, rx.dp o h1, ry.dp o h2, shaped_py h1 h3, shaped_py h2 h4, ?_⟩
      rw [eqv_py _ _ h1 h2]
      exact q.bl o
  · cases e
/-! in -/
theorem Rep.flat {K : PySem.W.Frag} {g : Gh} {v : V} {d : D} (r : Rep K g v d) (h : d.flat = true) : flatV v = true := by
  cases r <;> first | rfl | simp [D.flat] at h
theorem RepA.flat {K : PySem.W.Frag} {g : Gh} {H : Hp} {v : V} {d : D} (r : RepA K g H v d) (h : d.flat = true) : Rep K g v d := by
  cases d <;> first | exact r | simp [D.flat] at h
theorem eqV_rep {K : PySem.W.Frag} {g : Gh} {v w : V} {d e : D} (r : Rep K g v d) (s : Rep K g w e) (h : d.flat = true) (k : e.flat = true) : eqV v w = d.eqb e := by
  cases r <;> first | (simp [D.flat] at h; done) | (cases s <;> first | (simp [D.flat] at k; done) | rfl)
theorem inV_rep {K : PySem.W.Frag} {g : Gh} {w : V} {e : D} (s : Rep K g w e) (k : e.flat = true) : ∀ {vs : List V} {ds : List D}, RepL K g vs ds → ds.all D.flat = true → inV w vs = (ds.any fun y => y.eqb e) ∧ vs.all flatV = true
  | _, _, .nil, _ => ⟨rfl, rfl⟩
  | _, _, .cons h t, z => by
    simp only [List.all_cons, Bool.and_eq_true] at z
    obtain ⟨e1, e2⟩ := inV_rep s k t z.2
    refine ⟨?_, by rw [List.all_cons, h.flat z.1, e2]; rfl⟩
    unfold inV at e1 ⊢
    rw [List.any_cons, List.any_cons, e1, eqV_rep h s z.1 k]
theorem im_in0 (neg : Bool) : Im2 (fun K => rIn K neg) (fun d e => match seqD e with
  | some xs => if (d.flat && xs.all D.flat) = true then some (.bl (if neg then !(xs.any fun y => y.eqb d) else xs.any fun y => y.eqb d)) else none
  | none => none) := by
  intro p g m H x y dx dy d Q o rx ry e q
  have e : (match seqD dy with
    | some xs => if (dx.flat && xs.all D.flat) = true then some (D.bl (if neg then !(xs.any fun y => y.eqb dx) else xs.any fun y => y.eqb dx)) else none
    | none => none) = some d := e
  split at e
  · rename_i xs hx
    split at e
    · rename_i h
      cases e
      simp only [Bool.and_eq_true] at h
      have rx' := rx.flat h.1
      cases dy with
      | lst ds =>
        cases hx
        obtain ⟨a, vs, rfl, h1, _, h3⟩ := ry.lst
        obtain ⟨e1, e2⟩ := inV_rep rx' h.1 h3 h.2
        refine ⟨a, vs, rfl, .inl (SqL.of h1), rx'.flat h.1, e2, ?_⟩
        rw [e1]
        exact q.bl o
      | tup ds =>
        cases hx
        obtain ⟨a, vs, rfl, h1, h3⟩ := ry.tup
        obtain ⟨e1, e2⟩ := inV_rep rx' h.1 h3 h.2
        refine ⟨a, vs, rfl, .inr (o.sqT h1), rx'.flat h.1, e2, ?_⟩
        rw [e1]
        exact q.bl o
      | _ => cases hx
    · cases e
  · cases e
abbrev rInS1 (neg : Bool) : R2 := fun x y H Q => ∃ (c : Nat) (z : Str), x = .str ⟨#[c]⟩ ∧ y = .str z ∧ Q (.bl (if neg then !decide (c ∈ z.cps.toList) else decide (c ∈ z.cps.toList))) H
abbrev rInS2 (neg : Bool) : R2 := fun x y H Q => ∃ i j, x = .str i ∧ y = .str j ∧ Q (.bl (if neg then !(!(Builtin.Str.occurrences j i 0 j.length 1).isEmpty) else !(Builtin.Str.occurrences j i 0 j.length 1).isEmpty)) H
abbrev rIn2 (neg : Bool) (K : PySem.W.Frag) : R2 := fun x y H Q => rIn K neg x y H Q ∨ (rInS1 neg x y H Q ∨ rInS2 neg x y H Q)
theorem o_in {X : Cx} : OpR X (compareOp .In) (rIn2 false X.K) := op_in_seq.or (op_in_sign.or op_in_str)
theorem o_nin {X : Cx} : OpR X (compareOp .NotIn) (rIn2 true X.K) := op_notIn_seq.or (op_notIn_sign.or op_notIn_str)
theorem im_in (neg : Bool) : Im2 (rIn2 neg) (inD neg) := by
  intro p g m H x y dx dy d Q o rx ry e q
  unfold inD at e
  cases hs : seqD dy with
  | some xs =>
    simp only [hs] at e
    exact .inl (im_in0 neg p g m H x y dx dy d Q o rx ry (by simp only [hs]; exact e) q)
  | none =>
    simp only [hs] at e
    split at e
    · rename_i i j
      cases e
      rw [rx.str, ry.str]
      refine .inr ?_
      cases hl : i.cps.toList with
      | nil =>
        have hb : strIn i j = !(Builtin.Str.occurrences j i 0 j.length 1).isEmpty := by unfold strIn; rw [hl]
        rw [hb] at q
        exact .inr ⟨i, j, rfl, rfl, q.bl o⟩
      | cons c r =>
        cases r with
        | nil =>
          have hb : strIn i j = decide (c ∈ j.cps.toList) := by unfold strIn; rw [hl]
          rw [hb] at q
          refine .inl ⟨c, j, ?_, rfl, q.bl o⟩
          obtain ⟨⟨l⟩⟩ := i
          have hl : l = [c] := hl
          rw [hl]
        | cons c2 r =>
          have hb : strIn i j = !(Builtin.Str.occurrences j i 0 j.length 1).isEmpty := by unfold strIn; rw [hl]
          rw [hb] at q
          exact .inr ⟨i, j, rfl, rfl, q.bl o⟩
    · cases e
/-! subscripts, slices, len -/
theorem atI_rep {K : PySem.W.Frag} {g : Gh} {vs : List V} {ds : List D} {i : Int} {d : D} (r : RepL K g vs ds) (h : atI ds i = some d) : ∃ v, atI vs i = some v ∧ Rep K g v d := by
  unfold atI at *
  rw [r.length]
  cases q : ixN ds.length i with
  | none => rw [q] at h; cases h
  | some j =>
    rw [q] at h
    obtain ⟨v, h1, h2⟩ := r.get (show ds[j]? = some d from h)
    exact ⟨v, h1, h2⟩
theorem atI_map {α β : Type} {f : α → β} {xs : List α} {i : Int} : atI (xs.map f) i = (atI xs i).map f := by
  unfold atI
  rw [List.length_map]
  cases ixN xs.length i with
  | none => rfl
  | some j => simp
/-- an item: as frozen as the list's items are -/
theorem im_ix : ∀ (p : Par) (g : Gh) (m : Store) (H : Hp) (x y : V) (dx dy d : D) (Q : VK), Ok p g m H → RepA p.K g H x dx → RepA p.K g H y dy → ixD dx dy = some d → (∀ v, Rep p.K g v d → Q v H) → rIx p.K x y H Q := by
  intro p g m H x y dx dy d Q o rx ry e q
  unfold ixD at e
  split at e
  · obtain ⟨a, vs, rfl, h1, h3⟩ := rx.tup
    rw [ry.int]
    obtain ⟨v, e1, e2⟩ := atI_rep h3 e
    exact .inr (.inl ⟨a, vs, _, v, rfl, rfl, o.sqT h1, e1, q v e2⟩)
  · obtain ⟨a, vs, rfl, h1, _, h3⟩ := rx.lst
    rw [ry.int]
    obtain ⟨v, e1, e2⟩ := atI_rep h3 e
    exact .inl ⟨a, vs, _, v, rfl, rfl, SqL.of h1, e1, q v e2⟩
  · rename_i ns i
    obtain ⟨a, rfl, h1⟩ := rx.scr
    rw [ry.int]
    cases z : atI ns i with
    | none => rw [z] at e; cases e
    | some n =>
      rw [z] at e
      cases e
      exact .inl ⟨a, _, _, .int n, rfl, rfl, o.fh.seq h1, by rw [atI_map, z]; rfl, q _ (.int n)⟩
  · split at e
    · rename_i z i hz
      rw [rx.str, ry.int]
      cases w : atI z.cps.toList i with
      | none => rw [w] at e; cases e
      | some c =>
        rw [w] at e
        cases e
        exact .inr (.inr ⟨z, _, c, rfl, rfl, hz, w, q _ (.str _)⟩)
    · cases e
  · cases e
theorem cut_rep {K : PySem.W.Frag} {g : Gh} {vs : List V} {ds : List D} (r : RepL K g vs ds) (lo hi : Option Int) : RepL K g (cutL vs lo hi) (cutL ds lo hi) := by
  unfold cutL
  rw [r.length]
  exact (r.drop _).take _
abbrev rSli (K : PySem.W.Frag) : V → Option Int → Option Int → Hp → VK → Prop := fun x lo hi H Q => (rSlL K x lo hi H Q ∨ rSlA K x lo hi H Q) ∨ rSlS x lo hi H Q
theorem o_sli {X : Cx} : L2.SlR X (rSli X.K) := (sl_list.or sl_tupA).or sl_str
theorem im_sli (p : Par) (g : Gh) (m : Store) (H : Hp) (x : V) (dx d : D) (lo hi : Option Int) (Q : VK) (o : Ok p g m H) (rx : RepA p.K g H x dx) (e : slD dx lo hi = some d) (q : Ans p g m H d Q) : rSli p.K x lo hi H Q := by
  unfold slD at e
  split at e
  · cases e
    obtain ⟨a, vs, rfl, h1, _, h3⟩ := rx.lst
    exact .inl (.inl ⟨a, vs, rfl, SqL.of h1, q.newL o (cut_rep h3 lo hi)⟩)
  · cases e
    obtain ⟨a, vs, rfl, h1, h3⟩ := rx.tup
    refine .inl (.inr ⟨a, vs, rfl, o.sqT h1, fun z => ?_, fun _ => q.newT o (cut_rep h3 lo hi)⟩)
    refine q.flat o (.tup h1 ?_) (fun _ z => by cases z)
    have w := cut_rep h3 lo hi
    have e1 : cutL vs lo hi = vs := by
      unfold cutL
      rw [z.1, z.2]
      simp
    rw [e1] at w
    exact w
  · split at e
    · rename_i hz
      cases e
      rw [rx.str]
      exact .inr ⟨_, rfl, hz, q.str o⟩
    · cases e
  · cases e
abbrev rLen1 (K : PySem.W.Frag) : List V → Hp → VK → Prop := fun xs H Q => (∃ p ys, xs = [.ref p] ∧ (SqL K H p ys ∨ SqT K H p ys) ∧ Q (.int ys.length) H) ∨ (∃ z, xs = [.str z] ∧ z.length ≤ sizeLine ∧ Q (.int z.length) H)
theorem o_len {X : Cx} : CallR X (.builtin "len") (rLen1 X.K) := call_len_seq.or call_len_str
def one (f : D → Option D) : List D → Option D
  | [d] => f d
  | _ => none
def two (f : D → D → Option D) : List D → Option D
  | [d, e] => f d e
  | _ => none
theorem RepAL.one {K : PySem.W.Frag} {g : Gh} {H : Hp} {xs : List V} {d : D} (r : RepAL K g H xs [d]) : ∃ v, xs = [v] ∧ RepA K g H v d := by
  cases r with
  | cons h t => cases t; exact ⟨_, rfl, h⟩
theorem RepAL.two {K : PySem.W.Frag} {g : Gh} {H : Hp} {xs : List V} {d e : D} (r : RepAL K g H xs [d, e]) : ∃ v w, xs = [v, w] ∧ RepA K g H v d ∧ RepA K g H w e := by
  cases r with
  | cons h t =>
    cases t with
    | cons h2 t2 => cases t2; exact ⟨_, _, rfl, h, h2⟩
theorem one_some {f : D → Option D} {ds : List D} {d : D} (h : one f ds = some d) : ∃ e, ds = [e] ∧ f e = some d := by
  unfold one at h
  split at h
  · exact ⟨_, rfl, h⟩
  · cases h
theorem im_len : ImL rLen1 (one lenD) := by
  intro p g m H xs dxs d Q o rx e q
  obtain ⟨dx, rfl, e1⟩ := one_some e
  obtain ⟨v, rfl, r⟩ := rx.one
  revert e1
  clear e
  intro e
  unfold lenD at e
  split at e
  · cases e
    obtain ⟨a, vs, rfl, h1, h3⟩ := r.tup
    exact .inl ⟨a, vs, rfl, .inr (o.sqT h1), by rw [h3.length]; exact q.int o⟩
  · cases e
    obtain ⟨a, vs, rfl, h1, _, h3⟩ := r.lst
    exact .inl ⟨a, vs, rfl, .inl (SqL.of h1), by rw [h3.length]; exact q.int o⟩
  · cases e
    obtain ⟨a, rfl, h1⟩ := r.scr
    exact .inl ⟨a, _, rfl, .inl (o.fh.seq h1), by rw [List.length_map]; exact q.int o⟩
  · split at e
    · rename_i h
      cases e
      rw [r.str]
      exact .inr ⟨_, rfl, h, q.int o⟩
    · cases e
  · cases e
/-! truth -/
theorem im_truth {p : Par} {g : Gh} {m : Store} {H : Hp} {x : V} {d : D} {b : Bool} (o : Ok p g m H) (r : RepA p.K g H x d) (e : truthD d = some b) : TruV p.K x H b := by
  unfold truthD at e
  split at e
  · cases e; rw [r.non]; rfl
  · cases e; rw [r.bl]; rfl
  · cases e; rw [r.int]; rfl
  · split at e
    · rename_i h
      cases e; rw [r.str]; exact ⟨h, rfl⟩
    · cases e
  · cases e
    obtain ⟨a, vs, rfl, h1, h3⟩ := r.tup
    refine .inr (.inl ⟨vs, o.sqT h1, ?_⟩)
    cases h3 <;> rfl
  · cases e
    obtain ⟨a, vs, rfl, h1, _, h3⟩ := r.lst
    refine .inl ⟨vs, SqL.of h1, ?_⟩
    cases h3 <;> rfl
  · cases e
end PF
namespace PF
open PySem L2
/-! ### expressions: what they are worth -/
section
variable {X : Cx} {fr : Fr} {a b c e : Expr} {es : List Expr} {pos : Pos} {f fa fb fc : En → M D} {fs : En → M (List D)}
def evVar (i : Nat) (rho : En) : M D := lift (rho[i]?).join
theorem join_some {o : Option (Option D)} {d : D} (h : o.join = some d) : o = some (some d) := by
  cases o with
  | none => cases h
  | some z => cases z with
    | none => cases h
    | some w => cases h; rfl
theorem e_var {i : Nat} {x : Str} (hN : X.N[i]? = some x) (hv : Vis X.env.scope x) (hd : (x == ("__debug__" : Str)) = false) (hcd : (x == ("__classdict__" : Str)) = false) : PE X (.Name x pos) (TV fr (vA fr.p.K) (evVar i)) :=
  pe_weak (pe_var hN hv hd hcd) fun s H Q ⟨rho, g, m, r, w⟩ => by
    obtain ⟨d, h1, q⟩ := wp_lift.mp w
    obtain ⟨ow, hval⟩ := r.val
    obtain ⟨v, h2, h3⟩ := hval i d (join_some h1)
    exact ⟨v, h2, q v g H (Ext.refl g H) r.ok (h3.any r.ok)⟩
theorem e_varZ {i : Nat} {x : Str} (hm : fr.md i = .frz) (hN : X.N[i]? = some x) (hv : Vis X.env.scope x) (hd : (x == ("__debug__" : Str)) = false) (hcd : (x == ("__classdict__" : Str)) = false) : PE X (.Name x pos) (TV fr (vZ fr.p.K) (evVar i)) :=
  pe_weak (pe_var hN hv hd hcd) fun s H Q ⟨rho, g, m, r, w⟩ => by
    obtain ⟨d, h1, q⟩ := wp_lift.mp w
    obtain ⟨ow, hval⟩ := r.val
    obtain ⟨v, h2, h3⟩ := hval i d (join_some h1)
    unfold SlotR at h3
    rw [hm] at h3
    exact ⟨v, h2, q v g H (Ext.refl g H) r.ok h3⟩
theorem tC_ok {v : V} {d : D} (hr : ∀ K g, Rep K g v d) (hd : ∀ ds, d ≠ .lst ds) (s : St) (H : Hp) (Q : VK) (h : TV fr (vF fr.p.K) (fun _ => ret d) s H Q) : tC v s H Q := by
  obtain ⟨rho, g, m, r, w⟩ := h
  exact Ans.flat r.ok (hr _ _) hd w
theorem e_int {i : Int} {j : Nat} : PE X (.Constant (.int i) j pos) (TV fr (vF fr.p.K) (fun _ => ret (.int i))) := pe_weak pe_int (tC_ok (fun _ _ => .int i) fun _ z => by cases z)
theorem e_bl {i : Bool} {j : Nat} : PE X (.Constant (.bool i) j pos) (TV fr (vF fr.p.K) (fun _ => ret (.bl i))) := pe_weak pe_bl (tC_ok (fun _ _ => .bl i) fun _ z => by cases z)
theorem e_str {i : Str} {j : Nat} : PE X (.Constant (.str i) j pos) (TV fr (vF fr.p.K) (fun _ => ret (.str i))) := pe_weak pe_str (tC_ok (fun _ _ => .str i) fun _ z => by cases z)
theorem e_non {j : Nat} : PE X (.Constant .none j pos) (TV fr (vF fr.p.K) (fun _ => ret .non)) := pe_weak pe_non (tC_ok (fun _ _ => .non) fun _ z => by cases z)
theorem e_gint {x : Str} {i : Int} {t : Tok} (hg : Gl X x) (hm : X.mg x = some (.int i t)) (hd : (x == ("__debug__" : Str)) = false) : PE X (.Name x pos) (TV fr (vF fr.p.K) (fun _ => ret (.int i))) := pe_weak (pe_glob (v := .int i) hg hm ⟨t, rfl⟩ hd) (tC_ok (fun _ _ => .int i) fun _ z => by cases z)
def ev2 (sem : D → D → Option D) (fa fb : En → M D) (rho : En) : M D := bnd (fa rho) fun x => bnd (fb rho) fun y => lift (sem x y)
theorem tOp_ok {r : PySem.W.Frag → R2} {sem : D → D → Option D} (im : Im2 r sem) (s : St) (H : Hp) (Q : VK) (h : TV fr (vF fr.p.K) (ev2 sem fa fb) s H Q) : tOp (r fr.p.K) (TV fr (vA fr.p.K) fa) (TV fr (vA fr.p.K) fb) s H Q := by
  obtain ⟨rho, g, m, rl, w⟩ := h
  refine ⟨rho, g, m, rl, wp_mono (wp_bnd.mp w) (fun dx m1 w1 v g1 H1 e1 o1 r1 => ?_) fun _ _ z => z⟩
  refine ⟨rho, g1, m1, rl.ext e1 o1, wp_mono (wp_bnd.mp w1) (fun dy m2 w2 u g2 H2 e2 o2 r2 => ?_) fun _ _ z => z.from e1⟩
  obtain ⟨d, hd, q⟩ := wp_lift.mp w2
  exact im fr.p g2 m2 H2 v u dx dy d Q o2 (RepA.ext e2 r1) r2 hd fun z g3 H3 e3 o3 r3 => q z g3 H3 ((e1.trans e2).trans e3) o3 (RepF.from (e1.trans e2) r3)
theorem e_bin {op : Operator} {r : PySem.W.Frag → R2} {sem : D → D → Option D} (hK : X.K = fr.p.K) (ho : OpR X (binaryOp op) (r X.K)) (im : Im2 r sem) (ha : PE X a (TV fr (vA fr.p.K) fa)) (hb : PE X b (TV fr (vA fr.p.K) fb)) :
    PE X (.BinOp a op b pos) (TV fr (vF fr.p.K) (ev2 sem fa fb)) := pe_weak (pe_op ho ha hb) (by rw [hK]; exact tOp_ok im)
theorem e_cmp {op : CmpOp} {r : PySem.W.Frag → R2} {sem : D → D → Option D} (hK : X.K = fr.p.K) (ho : OpR X (compareOp op) (r X.K)) (im : Im2 r sem) (ha : PE X a (TV fr (vA fr.p.K) fa)) (hb : PE X b (TV fr (vA fr.p.K) fb)) (hm : behindInMarks op b = false) :
    PE X (.Compare a [op] [b] pos) (TV fr (vF fr.p.K) (ev2 sem fa fb)) := pe_weak (pe_cmpR ho ha hb hm) (by rw [hK]; exact tOp_ok im)
def truthM (d : D) : M Bool := lift (truthD d)
def asB (d : D) : Option Bool := match d with
  | .bl b => some b
  | _ => none
/-- a reading that gives a bool, as a test -/
theorem tTest_ok {t : TE} {f : En → M D} (ht : ∀ s H Q, TV fr (vF fr.p.K) f s H Q → t s H Q) (s : St) (H : Hp) (Q : Bool → Hp → Prop) (h : TB fr (fun rho => bnd (f rho) fun d => lift (asB d)) s H Q) : tTest t s H Q := by
  obtain ⟨rho, g, m, rl, w⟩ := h
  refine ht s H _ ⟨rho, g, m, rl, wp_mono (wp_bnd.mp w) (fun d m1 w1 v g1 H1 e1 o1 r1 => ?_) fun _ _ z => z⟩
  obtain ⟨b, hb, q⟩ := wp_lift.mp w1
  cases d with
  | bl k =>
    cases hb
    have r' : Rep fr.p.K g1 v (.bl b) := r1
    cases r'
    exact ⟨b, rfl, q g1 H1 e1 o1⟩
  | _ => cases hb
def evT (f : En → M D) (rho : En) : M Bool := bnd (f rho) fun d => lift (asB d)
theorem t_cmp {op : CmpOp} {r : PySem.W.Frag → R2} {sem : D → D → Option D} (hK : X.K = fr.p.K) (ho : OpR X (compareOp op) (r X.K)) (im : Im2 r sem) (ha : PE X a (TV fr (vA fr.p.K) fa)) (hb : PE X b (TV fr (vA fr.p.K) fb)) (hm : behindInMarks op b = false) :
    PT X (.Compare a [op] [b] pos) (TB fr (evT (ev2 sem fa fb))) := pt_weak (pt_cmpR ho ha hb hm) (tTest_ok (by rw [hK]; exact tOp_ok im))
/-! a chain -/
def evChain (sem sem' : D → D → Option D) (fa fb fc : En → M D) (rho : En) : M D := bnd (fa rho) fun x => bnd (fb rho) fun y => bnd (lift (sem x y)) fun z => bnd (lift (asB z)) fun k => if k = true then bnd (fc rho) fun w => lift (sem' y w) else ret (.bl false)
theorem tChain_ok {r r' : PySem.W.Frag → R2} {sem sem' : D → D → Option D} (im : Im2 r sem) (im' : Im2 r' sem') (s : St) (H : Hp) (Q : VK) (h : TV fr (vF fr.p.K) (evChain sem sem' fa fb fc) s H Q) :
    tChain (r fr.p.K) (r' fr.p.K) (TV fr (vA fr.p.K) fa) (TV fr (vA fr.p.K) fb) (TV fr (vA fr.p.K) fc) s H Q := by
  obtain ⟨rho, g, m, rl, w⟩ := h
  refine ⟨rho, g, m, rl, wp_mono (wp_bnd.mp w) (fun dx m1 w1 v g1 H1 e1 o1 r1 => ?_) fun _ _ z => z⟩
  refine ⟨rho, g1, m1, rl.ext e1 o1, wp_mono (wp_bnd.mp w1) (fun dy m2 w2 u g2 H2 e2 o2 r2 => ?_) fun _ _ z => z.from e1⟩
  obtain ⟨z, hz, w3⟩ := wp_lift.mp (wp_bnd.mp w2)
  obtain ⟨k, hk, w4⟩ := wp_lift.mp (wp_bnd.mp w3)
  refine im fr.p g2 m2 H2 v u dx dy z _ o2 (RepA.ext e2 r1) r2 hz fun zv g3 H3 e3 o3 r3 => ?_
  cases z with
  | bl kk =>
    cases hk
    have r' : Rep fr.p.K g3 zv (.bl k) := r3
    cases r'
    refine ⟨k, rfl, ?_⟩
    have e13 := (e1.trans e2).trans e3
    cases k with
    | true =>
      rw [if_pos rfl] at w4 ⊢
      refine ⟨rho, g3, m2, rl.ext e13 o3, wp_mono (wp_bnd.mp w4) (fun dw m4 w5 wv g4 H4 e4 o4 r4 => ?_) fun _ _ z => z.from e13⟩
      obtain ⟨d, hd, q⟩ := wp_lift.mp w5
      exact im' fr.p g4 m4 H4 u wv dy dw d Q o4 (RepA.ext (e3.trans e4) r2) r4 hd fun z g5 H5 e5 o5 r5 => q z g5 H5 ((e13.trans e4).trans e5) o5 (RepF.from (e13.trans e4) r5)
    | false =>
      rw [if_neg Bool.false_ne_true] at w4 ⊢
      exact w4 _ g3 H3 e13 o3 (show Rep _ _ _ _ from .bl false)
  | _ => cases hk
theorem e_chain {op op' : CmpOp} {r r' : PySem.W.Frag → R2} {sem sem' : D → D → Option D} (hK : X.K = fr.p.K) (ho : OpR X (compareOp op) (r X.K)) (ho' : OpR X (compareOp op') (r' X.K)) (im : Im2 r sem) (im' : Im2 r' sem')
    (ha : PE X a (TV fr (vA fr.p.K) fa)) (hb : PE X b (TV fr (vA fr.p.K) fb)) (hc : PE X c (TV fr (vA fr.p.K) fc)) (hm : lastMarks [op, op'] [b, c] = false) :
    PE X (.Compare a [op, op'] [b, c] pos) (TV fr (vF fr.p.K) (evChain sem sem' fa fb fc)) := pe_weak (pe_chain ho ho' ha hb hc hm) (by rw [hK]; exact tChain_ok im im')
theorem t_chain {op op' : CmpOp} {r r' : PySem.W.Frag → R2} {sem sem' : D → D → Option D} (hK : X.K = fr.p.K) (ho : OpR X (compareOp op) (r X.K)) (ho' : OpR X (compareOp op') (r' X.K)) (im : Im2 r sem) (im' : Im2 r' sem')
    (ha : PE X a (TV fr (vA fr.p.K) fa)) (hb : PE X b (TV fr (vA fr.p.K) fb)) (hc : PE X c (TV fr (vA fr.p.K) fc)) (hm : lastMarks [op, op'] [b, c] = false) :
    PT X (.Compare a [op, op'] [b, c] pos) (TB fr (evT (evChain sem sem' fa fb fc))) := pt_weak (pt_chain ho ho' ha hb hc hm) (tTest_ok (by rw [hK]; exact tChain_ok im im'))
/-! - x -/
def ev1 (sem : D → Option D) (fa : En → M D) (rho : En) : M D := bnd (fa rho) fun x => lift (sem x)
theorem e_neg (ha : PE X a (TV fr (vA fr.p.K) fa)) : PE X (.UnaryOp .USub a pos) (TV fr (vF fr.p.K) (ev1 negD fa)) := pe_weak (pe_un un_neg ha) fun s H Q h => by
  obtain ⟨rho, g, m, rl, w⟩ := h
  refine ⟨rho, g, m, rl, wp_mono (wp_bnd.mp w) (fun dx m1 w1 v g1 H1 e1 o1 r1 => ?_) fun _ _ z => z⟩
  obtain ⟨d, hd, q⟩ := wp_lift.mp w1
  unfold negD at hd
  split at hd
  · cases hd
    have r1' : RepA _ _ _ _ _ := r1
    rw [r1'.int]
    exact ⟨_, rfl, q _ g1 H1 e1 o1 (show Rep _ _ _ _ from .int _)⟩
  · cases hd
/-! tests -/
theorem t_truth (hK : X.K = fr.p.K) (ha : PE X a (TV fr (vA fr.p.K) fa)) (he : ∀ whole, isTrue a X.env whole = (do let v ← whole; standAt a.pos; holding [v] (truthy v))) : PT X a (TB fr (fun rho => bnd (fa rho) truthM)) :=
  pt_weak (pt_truth ha he) fun s H Q ⟨rho, g, m, rl, w⟩ => ⟨rho, g, m, rl, wp_mono (wp_bnd.mp w) (fun dx m1 w1 v g1 H1 e1 o1 r1 => by
    obtain ⟨k, hk, q⟩ := wp_lift.mp w1
    refine ⟨k, ?_, q g1 H1 e1 o1⟩
    rw [hK]
    exact im_truth o1 r1 hk) fun _ _ z => z⟩
def tbNot (f : En → M Bool) (rho : En) : M Bool := bnd (f rho) fun b => ret (!b)
def tbAnd (f h : En → M Bool) (rho : En) : M Bool := bnd (f rho) fun b => if b = true then h rho else ret false
def tbOr (f h : En → M Bool) (rho : En) : M Bool := bnd (f rho) fun b => if b = true then ret true else h rho
variable {ta tb : En → M Bool} {rest : List Expr}
theorem t_not (ha : PT X a (TB fr ta)) : PT X (.UnaryOp .Not a pos) (TB fr (tbNot ta)) := pt_weak (pt_not ha) fun s H Q ⟨rho, g, m, rl, w⟩ => ⟨rho, g, m, rl, wp_mono (wp_bnd.mp w) (fun k m1 w1 g1 H1 e1 o1 => w1 g1 H1 e1 o1) fun _ _ z => z⟩
theorem pw_weak {t t' : TT} (h : PW X e t) (hw : ∀ s H Q, t' s H Q → t s H Q) : PW X e t' := ⟨fun wh pins s σ H Q I q => h.run wh pins s σ H Q I (hw σ H Q q)⟩
theorem t_and (ha : PT X a (TB fr ta)) (hb : PW X (.BoolOp .And (b :: rest) pos) (TB fr tb)) : PW X (.BoolOp .And (a :: b :: rest) pos) (TB fr (tbAnd ta tb)) := pw_weak (pw_and ha hb) fun s H Q ⟨rho, g, m, rl, w⟩ => ⟨rho, g, m, rl, wp_mono (wp_bnd.mp w) (fun k m1 w1 g1 H1 e1 o1 => by
  cases k with
  | true =>
    rw [if_pos rfl] at w1 ⊢
    exact ⟨rho, g1, m1, rl.ext e1 o1, wp_mono w1 (fun k2 m2 w2 g2 H2 e2 o2 => w2 g2 H2 (e1.trans e2) o2) fun _ _ z => z.from e1⟩
  | false =>
    rw [if_neg Bool.false_ne_true] at w1 ⊢
    exact w1 g1 H1 e1 o1) fun _ _ z => z⟩
theorem t_or (ha : PT X a (TB fr ta)) (hb : PW X (.BoolOp .Or (b :: rest) pos) (TB fr tb)) : PW X (.BoolOp .Or (a :: b :: rest) pos) (TB fr (tbOr ta tb)) := pw_weak (pw_or ha hb) fun s H Q ⟨rho, g, m, rl, w⟩ => ⟨rho, g, m, rl, wp_mono (wp_bnd.mp w) (fun k m1 w1 g1 H1 e1 o1 => by
  cases k with
  | true =>
    rw [if_pos rfl] at w1 ⊢
    exact w1 g1 H1 e1 o1
  | false =>
    rw [if_neg Bool.false_ne_true] at w1 ⊢
    exact ⟨rho, g1, m1, rl.ext e1 o1, wp_mono w1 (fun k2 m2 w2 g2 H2 e2 o2 => w2 g2 H2 (e1.trans e2) o2) fun _ _ z => z.from e1⟩) fun _ _ z => z⟩
/-! as values -/
def evNot (fa : En → M D) (rho : En) : M D := bnd (fa rho) fun x => bnd (truthM x) fun b => ret (.bl (!b))
theorem e_not (hK : X.K = fr.p.K) (ha : PE X a (TV fr (vA fr.p.K) fa)) : PE X (.UnaryOp .Not a pos) (TV fr (vF fr.p.K) (evNot fa)) := pe_weak (pe_notT ha) fun s H Q ⟨rho, g, m, rl, w⟩ => ⟨rho, g, m, rl, wp_mono (wp_bnd.mp w) (fun dx m1 w1 v g1 H1 e1 o1 r1 => by
  obtain ⟨k, hk, q⟩ := wp_lift.mp (wp_bnd.mp w1)
  exact ⟨k, by rw [hK]; exact im_truth o1 r1 hk, q _ g1 H1 e1 o1 (show Rep _ _ _ _ from .bl _)⟩) fun _ _ z => z⟩
/-- x and y: a bool x -/
def evAnd (fa fb : En → M D) (rho : En) : M D := bnd (fa rho) fun x => bnd (lift (asB x)) fun k => if k = true then fb rho else ret (.bl false)
def evOr (fa fb : En → M D) (rho : En) : M D := bnd (fa rho) fun x => bnd (lift (asB x)) fun k => if k = true then ret (.bl true) else fb rho
/-- how a value's kind passes from a later state to an earlier one -/
structure Kind (K : PySem.W.Frag) (vr : VR) : Prop where
  back : ∀ {g g1 g2 : Gh} {H H1 H2 : Hp} {v : V} {d : D}, Ext g H g1 H1 → vr H1 g2 H2 v d → vr H g2 H2 v d
  bl : ∀ {H0 : Hp} {g : Gh} {H : Hp} (b : Bool), vr H0 g H (.bl b) (.bl b)
  non : ∀ {H0 : Hp} {g : Gh} {H : Hp}, vr H0 g H .non .non
theorem kA (K : PySem.W.Frag) : Kind K (vA K) := ⟨fun _ h => h, fun b => (show Rep _ _ _ _ from .bl b), (show Rep _ _ _ _ from .non)⟩
theorem kZ (K : PySem.W.Frag) : Kind K (vZ K) := ⟨fun _ h => h, fun b => .bl b, .non⟩
theorem kF (K : PySem.W.Frag) : Kind K (vF K) := ⟨fun e h => RepF.from e h, fun b => (show Rep _ _ _ _ from .bl b), (show Rep _ _ _ _ from .non)⟩
theorem e_and {vr : VR} (kd : Kind fr.p.K vr) (ha : PE X a (TV fr (vA fr.p.K) fa)) (hb : PE X (.BoolOp .And (b :: rest) pos) (TV fr vr fb)) : PE X (.BoolOp .And (a :: b :: rest) pos) (TV fr vr (evAnd fa fb)) :=
  pe_weak (pe_and ha hb) fun s H Q ⟨rho, g, m, rl, w⟩ => ⟨rho, g, m, rl, wp_mono (wp_bnd.mp w) (fun dx m1 w1 v g1 H1 e1 o1 r1 => by
  obtain ⟨k, hk, w2⟩ := wp_lift.mp (wp_bnd.mp w1)
  cases dx with
  | bl kk =>
    cases hk
    have r1' : RepA _ _ _ _ _ := r1
    rw [r1'.bl]
    refine ⟨k, rfl, ?_⟩
    cases k with
    | true =>
      rw [if_pos rfl] at w2 ⊢
      exact ⟨rho, g1, m1, rl.ext e1 o1, wp_mono w2 (fun d2 m2 w3 v2 g2 H2 e2 o2 r2 => w3 v2 g2 H2 (e1.trans e2) o2 (kd.back e1 r2)) fun _ _ z => z.from e1⟩
    | false =>
      rw [if_neg Bool.false_ne_true] at w2 ⊢
      exact w2 _ g1 H1 e1 o1 (kd.bl false)
  | _ => cases hk) fun _ _ z => z⟩
theorem e_or {vr : VR} (kd : Kind fr.p.K vr) (ha : PE X a (TV fr (vA fr.p.K) fa)) (hb : PE X (.BoolOp .Or (b :: rest) pos) (TV fr vr fb)) : PE X (.BoolOp .Or (a :: b :: rest) pos) (TV fr vr (evOr fa fb)) :=
  pe_weak (pe_or ha hb) fun s H Q ⟨rho, g, m, rl, w⟩ => ⟨rho, g, m, rl, wp_mono (wp_bnd.mp w) (fun dx m1 w1 v g1 H1 e1 o1 r1 => by
  obtain ⟨k, hk, w2⟩ := wp_lift.mp (wp_bnd.mp w1)
  cases dx with
  | bl kk =>
    cases hk
    have r1' : RepA _ _ _ _ _ := r1
    rw [r1'.bl]
    refine ⟨k, rfl, ?_⟩
    cases k with
    | false =>
      rw [if_neg Bool.false_ne_true] at w2 ⊢
      exact ⟨rho, g1, m1, rl.ext e1 o1, wp_mono w2 (fun d2 m2 w3 v2 g2 H2 e2 o2 r2 => w3 v2 g2 H2 (e1.trans e2) o2 (kd.back e1 r2)) fun _ _ z => z.from e1⟩
    | true =>
      rw [if_pos rfl] at w2 ⊢
      exact w2 _ g1 H1 e1 o1 (kd.bl true)
  | _ => cases hk) fun _ _ z => z⟩
def evIf (t : En → M Bool) (fa fb : En → M D) (rho : En) : M D := bnd (t rho) fun k => if k = true then fa rho else fb rho
theorem e_if {vr : VR} (kd : Kind fr.p.K vr) (hc : PT X c (TB fr ta)) (ha : PE X a (TV fr vr fa)) (hb : PE X b (TV fr vr fb)) : PE X (.IfExp c a b pos) (TV fr vr (evIf ta fa fb)) :=
  pe_weak (pe_ifExp hc ha hb) fun s H Q ⟨rho, g, m, rl, w⟩ => ⟨rho, g, m, rl, wp_mono (wp_bnd.mp w) (fun k m1 w1 g1 H1 e1 o1 => by
  cases k with
  | true =>
    rw [if_pos rfl] at w1 ⊢
    exact ⟨rho, g1, m1, rl.ext e1 o1, wp_mono w1 (fun d2 m2 w3 v2 g2 H2 e2 o2 r2 => w3 v2 g2 H2 (e1.trans e2) o2 (kd.back e1 r2)) fun _ _ z => z.from e1⟩
  | false =>
    rw [if_neg Bool.false_ne_true] at w1 ⊢
    exact ⟨rho, g1, m1, rl.ext e1 o1, wp_mono w1 (fun d2 m2 w3 v2 g2 H2 e2 o2 r2 => w3 v2 g2 H2 (e1.trans e2) o2 (kd.back e1 r2)) fun _ _ z => z.from e1⟩) fun _ _ z => z⟩
/-! subscripts -/
theorem e_ix (hK : X.K = fr.p.K) (ha : PE X a (TV fr (vA fr.p.K) fa)) (hb : PE X b (TV fr (vA fr.p.K) fb)) (hs : PlainIx b) : PE X (.Subscript a b pos) (TV fr (vZ fr.p.K) (ev2 ixD fa fb)) := pe_weak (pe_ix ix_seq ha hb hs) fun s H Q h => by
  obtain ⟨rho, g, m, rl, w⟩ := h
  refine ⟨rho, g, m, rl, wp_mono (wp_bnd.mp w) (fun dx m1 w1 v g1 H1 e1 o1 r1 => ?_) fun _ _ z => z⟩
  refine ⟨rho, g1, m1, rl.ext e1 o1, wp_mono (wp_bnd.mp w1) (fun dy m2 w2 u g2 H2 e2 o2 r2 => ?_) fun _ _ z => z.from e1⟩
  obtain ⟨d, hd, q⟩ := wp_lift.mp w2
  rw [hK]
  exact im_ix fr.p g2 m2 H2 v u dx dy d Q o2 (RepA.ext e2 r1) r2 hd fun z r3 => q z g2 H2 (e1.trans e2) o2 r3
def asI (d : D) : Option Int := match d with
  | .int i => some i
  | _ => none
def evPart (f : Option (En → M D)) (rho : En) : M (Option Int) := match f with
  | none => ret none
  | some f => bnd (f rho) fun d => bnd (lift (asI d)) fun i => ret (some i)
def TO' (fr : Fr) (f : En → M (Option Int)) : TO := fun s H Q => ∃ rho g m, Rl fr g H rho m s ∧ (f rho m).wp (fun o m' => ∀ g' H', Ext g H g' H' → Ok fr.p g' m' H' → Q o H') (OkE fr g H s)
theorem po_weak {x : Option Expr} {t t' : TO} (h : PO X x t) (hw : ∀ s H Q, t' s H Q → t s H Q) : PO X x t' := ⟨fun pins s σ H Q I q => h.run pins s σ H Q I (hw σ H Q q)⟩
theorem p_none : PO X none (TO' fr (evPart none)) := po_weak po_none fun s H Q ⟨rho, g, m, rl, w⟩ => w g H (Ext.refl g H) rl.ok
theorem p_some (ha : PE X a (TV fr (vA fr.p.K) fa)) : PO X (some a) (TO' fr (evPart (some fa))) := po_weak (po_some ha) fun s H Q ⟨rho, g, m, rl, w⟩ => ⟨rho, g, m, rl, wp_mono (wp_bnd.mp w) (fun dx m1 w1 v g1 H1 e1 o1 r1 => by
  obtain ⟨i, hi, q⟩ := wp_lift.mp (wp_bnd.mp w1)
  cases dx with
  | int j =>
    cases hi
    have r1' : RepA _ _ _ _ _ := r1
    rw [r1'.int]
    exact ⟨i, rfl, q g1 H1 e1 o1⟩
  | _ => cases hi) fun _ _ z => z⟩
def evSl (fa : En → M D) (fl fh : En → M (Option Int)) (rho : En) : M D := bnd (fa rho) fun x => bnd (fl rho) fun lo => bnd (fh rho) fun hi => lift (slD x lo hi)
theorem e_sl {lo hi : Option Expr} {fl fh : En → M (Option Int)} {p2 : Pos} (hK : X.K = fr.p.K) (ha : PE X a (TV fr (vA fr.p.K) fa)) (hl : PO X lo (TO' fr fl)) (hh : PO X hi (TO' fr fh)) : PE X (.Subscript a (.Slice lo hi none p2) pos) (TV fr (vF fr.p.K) (evSl fa fl fh)) :=
  pe_weak (pe_slice o_sli ha hl hh) fun s H Q h => by
    obtain ⟨rho, g, m, rl, w⟩ := h
    refine ⟨rho, g, m, rl, wp_mono (wp_bnd.mp w) (fun dx m1 w1 v g1 H1 e1 o1 r1 => ?_) fun _ _ z => z⟩
    refine ⟨rho, g1, m1, rl.ext e1 o1, wp_mono (wp_bnd.mp w1) (fun lo m2 w2 g2 H2 e2 o2 => ?_) fun _ _ z => z.from e1⟩
    refine ⟨rho, g2, m2, rl.ext (e1.trans e2) o2, wp_mono (wp_bnd.mp w2) (fun hi m3 w3 g3 H3 e3 o3 => ?_) fun _ _ z => z.from (e1.trans e2)⟩
    obtain ⟨d, hd, q⟩ := wp_lift.mp w3
    have e13 := (e1.trans e2).trans e3
    rw [hK]
    exact im_sli fr.p g3 m3 H3 v dx d lo hi Q o3 (RepA.ext (e2.trans e3) r1) hd fun z g4 H4 e4 o4 r4 => q z g4 H4 (e13.trans e4) o4 (RepF.from e13 r4)
/-! argument lists -/
abbrev LR := Gh → Hp → List V → List D → Prop
def TLg (fr : Fr) (P : LR) (f : En → M (List D)) : TA := fun s H Q => ∃ rho g m, Rl fr g H rho m s ∧ (f rho m).wp (fun ds m' => ∀ vs g' H', Ext g H g' H' → Ok fr.p g' m' H' → P g' H' vs ds → Q vs H') (OkE fr g H s)
def lA (K : PySem.W.Frag) : LR := fun g H vs ds => RepAL K g H vs ds
def lZ (K : PySem.W.Frag) : LR := fun g _ vs ds => RepL K g vs ds
def evNil (_ : En) : M (List D) := ret []
def evCons (f : En → M D) (fs : En → M (List D)) (rho : En) : M (List D) := bnd (f rho) fun x => bnd (fs rho) fun xs => ret (x :: xs)
theorem a_nil {P : LR} (h0 : ∀ g H, P g H [] []) : PA X [] (TLg fr P evNil) := pa_weak pa_nil fun s H Q ⟨rho, g, m, rl, w⟩ => w [] g H (Ext.refl g H) rl.ok (h0 g H)
theorem a_cons {vr : VR} {P P' : LR} (st : ∀ {g g' : Gh} {H0 H H' : Hp} {v : V} {d : D}, Ext g H g' H' → vr H0 g H v d → vr H0 g' H' v d) (mk : ∀ {g : Gh} {H0 H : Hp} {v : V} {d : D} {vs : List V} {ds : List D}, vr H0 g H v d → P g H vs ds → P' g H (v :: vs) (d :: ds))
    (ha : PE X e (TV fr vr f)) (hr : PA X es (TLg fr P fs)) (hs : starEach (e :: es) X.env = (false, eval e X.env) :: starEach es X.env) : PA X (e :: es) (TLg fr P' (evCons f fs)) :=
  pa_weak (pa_cons ha hr hs) fun s H Q ⟨rho, g, m, rl, w⟩ => ⟨rho, g, m, rl, wp_mono (wp_bnd.mp w) (fun dx m1 w1 v g1 H1 e1 o1 r1 =>
    ⟨rho, g1, m1, rl.ext e1 o1, wp_mono (wp_bnd.mp w1) (fun ds m2 w2 vs g2 H2 e2 o2 r2 => w2 _ g2 H2 (e1.trans e2) o2 (mk (st e2 r1) r2)) fun _ _ z => z.from e1⟩) fun _ _ z => z⟩
theorem a_consA (ha : PE X e (TV fr (vA fr.p.K) f)) (hr : PA X es (TLg fr (lA fr.p.K) fs)) (hs : starEach (e :: es) X.env = (false, eval e X.env) :: starEach es X.env) : PA X (e :: es) (TLg fr (lA fr.p.K) (evCons f fs)) :=
  a_cons (vr := vA fr.p.K) (P := lA fr.p.K) (P' := lA fr.p.K) (fun e h => RepA.ext e h) (fun h t => Paired.cons h t) ha hr hs
theorem a_consZ (ha : PE X e (TV fr (vZ fr.p.K) f)) (hr : PA X es (TLg fr (lZ fr.p.K) fs)) (hs : starEach (e :: es) X.env = (false, eval e X.env) :: starEach es X.env) : PA X (e :: es) (TLg fr (lZ fr.p.K) (evCons f fs)) :=
  a_cons (vr := vZ fr.p.K) (P := lZ fr.p.K) (P' := lZ fr.p.K) (fun e h => Rep.mono e.le h) (fun h t => RepL.cons h t) ha hr hs
def tupM (ds : List D) : M D := lift (if ds.length ≤ sizeLine then some (.tup ds) else none)
def lstM (ds : List D) : M D := lift (if ds.length ≤ sizeLine then some (.lst ds) else none)
theorem e_tup {x1 : Nat} (h : PA X es (TLg fr (lZ fr.p.K) fs)) : PE X (.Tuple es x1 pos) (TV fr (vF fr.p.K) (fun rho => bnd (fs rho) tupM)) := pe_weak (pe_tup h) fun s H Q ⟨rho, g, m, rl, w⟩ => ⟨rho, g, m, rl, wp_mono (wp_bnd.mp w) (fun ds m1 w1 vs g1 H1 e1 o1 r1 => by
  obtain ⟨d, hd, q⟩ := wp_lift.mp w1
  split at hd
  · cases hd
    rename_i hz
    refine ⟨by rw [RepL.length r1]; exact hz, ?_⟩
    exact Ans.newT o1 r1 fun z g2 H2 e2 o2 r2 => q z g2 H2 (e1.trans e2) o2 (RepF.from e1 r2)
  · cases hd) fun _ _ z => z⟩
theorem e_lst (h : PA X es (TLg fr (lZ fr.p.K) fs)) : PE X (.List es pos) (TV fr (vF fr.p.K) (fun rho => bnd (fs rho) lstM)) := pe_weak (pe_lst h) fun s H Q ⟨rho, g, m, rl, w⟩ => ⟨rho, g, m, rl, wp_mono (wp_bnd.mp w) (fun ds m1 w1 vs g1 H1 e1 o1 r1 => by
  obtain ⟨d, hd, q⟩ := wp_lift.mp w1
  split at hd
  · cases hd
    rename_i hz
    refine ⟨by rw [RepL.length r1]; exact hz, ?_⟩
    exact Ans.newL o1 r1 fun z g2 H2 e2 o2 r2 => q z g2 H2 (e1.trans e2) o2 (RepF.from e1 r2)
  · cases hd) fun _ _ z => z⟩
/-! built-ins -/
def evB (sem : List D → Option D) (fs : En → M (List D)) (rho : En) : M D := bnd (fs rho) fun xs => lift (sem xs)
theorem tCB_ok {r : PySem.W.Frag → List V → Hp → VK → Prop} {sem : List D → Option D} (im : ImL r sem) (s : St) (H : Hp) (Q : VK) (h : TV fr (vF fr.p.K) (evB sem fs) s H Q) : tCB (r fr.p.K) (TLg fr (lA fr.p.K) fs) s H Q := by
  obtain ⟨rho, g, m, rl, w⟩ := h
  refine ⟨rho, g, m, rl, wp_mono (wp_bnd.mp w) (fun ds m1 w1 vs g1 H1 e1 o1 r1 => ?_) fun _ _ z => z⟩
  obtain ⟨d, hd, q⟩ := wp_lift.mp w1
  exact im fr.p g1 m1 H1 vs ds d Q o1 r1 hd fun z g2 H2 e2 o2 r2 => q z g2 H2 (e1.trans e2) o2 (RepF.from e1 r2)
theorem e_callB {x : Str} {id : String} {p : Pos} {r : PySem.W.Frag → List V → Hp → VK → Prop} {sem : List D → Option D} (hK : X.K = fr.p.K) (hc : CallR X (.builtin id) (r X.K)) (im : ImL r sem) (hg : Gl X x) (hm : X.mg x = none) (hv : bootBuiltins x = some (.builtin id))
    (ha : PA X (e :: es) (TLg fr (lA fr.p.K) fs)) (hn : x ≠ "__name__") (hdb : (x == ("__debug__" : Str)) = false) (he : starEach (e :: es) X.env = (false, eval e X.env) :: starEach es X.env) (hpl : (backTo pos (starEach es X.env)).any (·.1) = false) :
    PE X (.Call (.Name x p) (e :: es) [] pos) (TV fr (vF fr.p.K) (evB sem fs)) := pe_weak (pe_callB hc hg hm hv ha hn hdb he hpl) (by rw [hK]; exact tCB_ok im)
theorem e_callTy {x : Str} {T : String} {p : Pos} {r : PySem.W.Frag → List V → Hp → VK → Prop} {sem : List D → Option D} (hK : X.K = fr.p.K) (hc : CallR X (.type T) (r X.K)) (im : ImL r sem) (hg : Gl X x) (hm : X.mg x = none) (hv : bootBuiltins x = some (.type T))
    (ha : PA X (e :: es) (TLg fr (lA fr.p.K) fs)) (hn : x ≠ "__name__") (hdb : (x == ("__debug__" : Str)) = false) (he : starEach (e :: es) X.env = (false, eval e X.env) :: starEach es X.env) (hpl : (backTo pos (starEach es X.env)).any (·.1) = false) :
    PE X (.Call (.Name x p) (e :: es) [] pos) (TV fr (vF fr.p.K) (evB sem fs)) := pe_weak (pe_callTy hc hg hm hv ha hn hdb he hpl) (by rw [hK]; exact tCB_ok im)
end
end PF
namespace PF
open PySem L2
open PyProof.Rows hiding St
/-! ### xs[::-1], xs[-2::-1] -/
def backL {α : Type} (lo hi st : Option Int) (xs : List α) : Option (List α) := match lo, hi, st with
  | none, none, some (-1) => some xs.reverse
  | some (-2), none, some (-1) => some xs.dropLast.reverse
  | _, _, _ => none
theorem pick_back2 (items : Array Value) : slicePick items (some (-2)) none (some (-1)) = items.toList.dropLast.reverse.toArray := by
  unfold slicePick
  have e : sliceBounds (some (-2)) none (some (-1)) items.size = (((items.size - 1 : Nat) : Int) - 1, -1, -1) := by
    unfold sliceBounds
    simp
    omega
  rw [e]
  show ((sliceRange (((items.size - 1 : Nat) : Int) - 1) (-1) (-1)).filterMap (items[·]?)).toArray = _
  rw [W.krv_sliceRange, W.krv_range, List.filterMap_reverse]
  congr 2
  have h := pick_run items 0 (items.size - 1)
  have e2 : (List.range (items.size - 1)).map (0 + ·) = List.range (items.size - 1) := by
    rw [show ((0 + ·) : Nat → Nat) = id from funext fun k => Nat.zero_add k, List.map_id]
  rw [e2, List.drop_zero] at h
  rw [h, List.dropLast_eq_take, Array.length_toList]
def SlR3 (X : Cx) (r : V → Option Int → Option Int → Option Int → Hp → VK → Prop) : Prop :=
  ∀ (pins : List (Addr × Obj)) (s : Shared) (σ : L2.St) (H : Hp) (x : V) (v vl vu vk : Value) (lo hi st : Option Int) (sl : Addr) (Q : VK), Inv X pins σ H s → RelV x v → s.heap.IsSliceOf sl vl vu vk → IsPart vl lo → IsPart vu hi → IsPart vk st → r x lo hi st H Q →
    ∃ T id, typeLookup (.type T) "__getitem__" = pure (some (.builtin id)) ∧ s.TypeIs v T ∧ wpAny (model X.prog X.w) X.A (getItem v (.ref sl)) (EP X pins σ Q) X.xe s
def tSl3 (r : V → Option Int → Option Int → Option Int → Hp → VK → Prop) (te : TE) (tl th tk : TO) : TE := fun σ H Q => te σ H fun x H1 => tl σ H1 fun l H2 => th σ H2 fun u H3 => tk σ H3 fun k H4 => r x l u k H4 Q
theorem pe_slice3 {X : Cx} {e st : Expr} {te : TE} {lo hi : Option Expr} {tl th tk : TO} {p2 pos : Pos} {r : V → Option Int → Option Int → Option Int → Hp → VK → Prop} (hr : SlR3 X r) (he : PE X e te) (hl : PO X lo tl) (hu : PO X hi th) (hk : PO X (some st) tk) : PE X (.Subscript e (.Slice lo hi (some st) p2) pos) (tSl3 r te tl th tk) := by
  refine ⟨fun pins s σ H Q I h => ?_⟩
  refine Subscript_ (thn (he.run pins s σ H _ I h) fun v s1 ⟨x, H1, I1, r1, q1⟩ => ?_)
  refine wpAny_Slice (thn (hl.run pins s1 σ H1 _ I1 q1) fun vl s2 ⟨l, H2, I2, pl, q2⟩ => thn (hu.run pins s2 σ H2 _ I2 q2) fun vu s3 ⟨u, H3, I3, pu, q3⟩ => thn (hk.run pins s3 σ H3 _ I3 q3) fun vk s4 ⟨k, H4, I4, pk, q4⟩ => ?_)
  have I5 : Inv X pins σ H4 { s4 with heap := s4.heap.push { cls := .type "slice", data := .fields #[vl, vu, vk] } } := I4.kept (t' := s4.toks) fun b ob q => Heap.get?_push_of_some _ q
  obtain ⟨T, id, hT, ht, hg⟩ := hr pins { s4 with heap := s4.heap.push { cls := .type "slice", data := .fields #[vl, vu, vk] } } σ H4 x v vl vu vk l u k s4.heap.objs.size Q I5 r1 (Heap.IsSliceOf.new ..) pl pu pk q4
  show wpAny (model X.prog X.w) X.A (subscriptTail e (.Slice lo hi (some st) p2) v (.ref s4.heap.objs.size)) (EP X pins σ Q) X.xe { s4 with heap := s4.heap.push { cls := .type "slice", data := .fields #[vl, vu, vk] } }
  exact tail_any (ops := [v, .ref s4.heap.objs.size]) ht hT hg (by with_unfolding_all rfl)
def rSl3 (K : PySem.W.Frag) : V → Option Int → Option Int → Option Int → Hp → VK → Prop := fun x lo hi st H Q => ∃ a xs ys, x = .ref a ∧ SqL K H a xs ∧ backL lo hi st xs = some ys ∧ ∀ p, H p = none → Q (.ref p) (upd H p (.lst ys))
theorem sl3_list {X : Cx} : SlR3 X (rSl3 X.K) := by
  intro pins s σ H x v vl vu vk lo hi st sl Q I rx hs pl pu pk h
  obtain ⟨a, xs, ys, rfl, hx, hb, q⟩ := h
  cases rx
  obtain ⟨its, r, ht, hz⟩ := I.list hx
  have hlen := r.length
  refine ⟨"list", _, slot_list_getitem.lookup, ht.isList.typeIs, ?_⟩
  unfold backL at hb
  split at hb
  · cases hb
    refine wpAny_getItem_list_slice ht.isList hs pl pu pk (by decide) ?_ (by rw [List.size_toArray] <;> omega)
    rw [W.krv_pick]
    refine ⟨.ref s.heap.objs.size, _, I.laid (t' := s.toks) (o := .lst xs.reverse) (fun b ob q => Heap.get?_push_of_some _ q) (Nat.le_refl _) ?_, rfl, q _ (I.hok.fresh (Nat.le_refl _))⟩
    exact ⟨by rw [List.length_reverse]; exact hz, _, 0, r.reverse, Heap.get?_push_size _ rfl⟩
  · cases hb
    refine wpAny_getItem_list_slice ht.isList hs pl pu pk (by decide) ?_ (by rw [List.size_toArray] <;> omega)
    rw [pick_back2]
    refine ⟨.ref s.heap.objs.size, _, I.laid (t' := s.toks) (o := .lst xs.dropLast.reverse) (fun b ob q => Heap.get?_push_of_some _ q) (Nat.le_refl _) ?_, rfl, q _ (I.hok.fresh (Nat.le_refl _))⟩
    refine ⟨by rw [List.length_reverse, List.length_dropLast]; omega, _, 0, ?_, Heap.get?_push_size _ rfl⟩
    show Vals xs.dropLast.reverse its.dropLast.reverse
    refine Vals.reverse ?_
    rw [List.dropLast_eq_take, List.dropLast_eq_take, hlen]
    exact r.take _
  · cases hb
theorem RepL.reverse {K : PySem.W.Frag} {g : Gh} : ∀ {vs : List V} {ds : List D}, RepL K g vs ds → RepL K g vs.reverse ds.reverse
  | _, _, .nil => .nil
  | _, _, .cons h t => by
    rw [List.reverse_cons, List.reverse_cons]
    exact (RepL.reverse t).append (.cons h .nil)
section
variable {X : Cx} {fr : Fr} {a st : Expr} {pos : Pos} {fa : En → M D}
def sl3D (x : D) (lo hi st : Option Int) : Option D := match x with
  | .lst xs => (backL lo hi st xs).map D.lst
  | _ => none
def evSl3 (fa : En → M D) (fl fh fk : En → M (Option Int)) (rho : En) : M D := bnd (fa rho) fun x => bnd (fl rho) fun lo => bnd (fh rho) fun hi => bnd (fk rho) fun st => lift (sl3D x lo hi st)
theorem back_rep {K : PySem.W.Frag} {g : Gh} {lo hi st : Option Int} {vs : List V} {ds es : List D} (r : RepL K g vs ds) (h : backL lo hi st ds = some es) : ∃ us, backL lo hi st vs = some us ∧ RepL K g us es := by
  unfold backL at h
  split at h
  · cases h
    exact ⟨_, rfl, RepL.reverse r⟩
  · cases h
    refine ⟨_, rfl, RepL.reverse ?_⟩
    rw [List.dropLast_eq_take, List.dropLast_eq_take, r.length]
    exact r.take _
  · cases h
theorem e_sl3 {lo hi : Option Expr} {fl fh fk : En → M (Option Int)} {p2 : Pos} (hK : X.K = fr.p.K) (ha : PE X a (TV fr (vA fr.p.K) fa)) (hl : PO X lo (TO' fr fl)) (hh : PO X hi (TO' fr fh)) (hk : PO X (some st) (TO' fr fk)) : PE X (.Subscript a (.Slice lo hi (some st) p2) pos) (TV fr (vF fr.p.K) (evSl3 fa fl fh fk)) :=
  pe_weak (pe_slice3 sl3_list ha hl hh hk) fun s H Q h => by
    obtain ⟨rho, g, m, rl, w⟩ := h
    refine ⟨rho, g, m, rl, wp_mono (wp_bnd.mp w) (fun dx m1 w1 v g1 H1 e1 o1 r1 => ?_) fun _ _ z => z⟩
    refine ⟨rho, g1, m1, rl.ext e1 o1, wp_mono (wp_bnd.mp w1) (fun lo m2 w2 g2 H2 e2 o2 => ?_) fun _ _ z => z.from e1⟩
    refine ⟨rho, g2, m2, rl.ext (e1.trans e2) o2, wp_mono (wp_bnd.mp w2) (fun hi m3 w3 g3 H3 e3 o3 => ?_) fun _ _ z => z.from (e1.trans e2)⟩
    refine ⟨rho, g3, m3, rl.ext ((e1.trans e2).trans e3) o3, wp_mono (wp_bnd.mp w3) (fun st m4 w4 g4 H4 e4 o4 => ?_) fun _ _ z => z.from ((e1.trans e2).trans e3)⟩
    obtain ⟨d, hd, q⟩ := wp_lift.mp w4
    have e14 := ((e1.trans e2).trans e3).trans e4
    rw [hK]
    have rx := RepA.ext ((e2.trans e3).trans e4) r1
    unfold sl3D at hd
    split at hd
    · rename_i ds
      obtain ⟨b, vs, rfl, h1, _, h3⟩ := rx.lst
      cases hb : backL lo hi st ds with
      | none => rw [hb] at hd; cases hd
      | some es =>
        rw [hb] at hd
        cases hd
        obtain ⟨us, hu, ru⟩ := back_rep h3 hb
        have q' : Ans fr.p g4 m4 H4 (.lst es) Q := fun z g5 H5 e5 o5 r5 => q z g5 H5 (e14.trans e5) o5 (RepF.from e14 r5)
        exact ⟨b, vs, us, rfl, SqL.of h1, hu, q'.newL o4 ru⟩
    · cases hd
end
end PF
namespace PF
open PySem L2
/-! ### statements -/
inductive Rs where
  | nx (rho : En) (m : Store) | rt (d : D) (m : Store) | bk (rho : En) (m : Store) | ct (rho : En) (m : Store) | exc (c : Nat) (rho : En) (m : Store) | bad
abbrev SM := En → Store → Rs
def RsW (fr : Fr) (rk : VR) (Dn : Ends) (gs : Gh) : Rs → Prop
  | .nx rho m => ∀ s g H, Le gs g → Rl fr g H rho m s → Dn.nx s H
  | .bk rho m => ∀ s g H, Le gs g → Rl fr g H rho m s → Dn.bk s H
  | .ct rho m => ∀ s g H, Le gs g → Rl fr g H rho m s → Dn.ct s H
  | .rt d m => ∀ v g H, Ext fr.g0 fr.H0 g H → Ok fr.p g m H → rk fr.H0 g H v d → Dn.rt v H
  | .exc c rho m => ∀ s g H, Le gs g → Rl fr g H rho m s → fr.W (fr.p.cls c) none s H
  | .bad => False
theorem RsW.le {fr : Fr} {rk : VR} {Dn : Ends} {g g' : Gh} (l : Le g g') {r : Rs} (h : RsW fr rk Dn g r) : RsW fr rk Dn g' r := by
  cases r with
  | nx rho m => exact fun s g2 H l2 r => h s g2 H (l.trans l2) r
  | bk rho m => exact fun s g2 H l2 r => h s g2 H (l.trans l2) r
  | ct rho m => exact fun s g2 H l2 r => h s g2 H (l.trans l2) r
  | rt d m => exact h
  | exc c rho m => exact fun s g2 H l2 r => h s g2 H (l.trans l2) r
  | bad => exact h
def TSt (fr : Fr) (rk : VR) (f : SM) : TS := fun Dn s H => ∃ rho g m, Rl fr g H rho m s ∧ RsW fr rk Dn g (f rho m)
/-- an expression's value in a statement -/
def exS {α : Type} (x : M α) (rho : En) (k : α → Store → Rs) (m : Store) : Rs := match x m with
  | .ok a m' => k a m'
  | .exc c m' => .exc c rho m'
  | .bad => .bad
theorem exS_wp {α : Type} {fr : Fr} {rk : VR} {Dn : Ends} {gs : Gh} {x : M α} {rho : En} {k : α → Store → Rs} {m : Store} (h : RsW fr rk Dn gs (exS x rho k m)) :
    (x m).wp (fun a m' => RsW fr rk Dn gs (k a m')) (fun c m' => ∀ s g H, Le gs g → Rl fr g H rho m' s → fr.W (fr.p.cls c) none s H) := by
  unfold exS at h
  unfold R.wp
  cases q : x m with
  | ok a m' => rw [q] at h; exact h
  | exc c m' => rw [q] at h; exact h
  | bad => rw [q] at h; exact h
theorem excE {fr : Fr} {g : Gh} {H : Hp} {rho : En} {m : Store} {s : St} (r : Rl fr g H rho m s) {c : Nat} {m' : Store} (h : ∀ s g1 H, Le g g1 → Rl fr g1 H rho m' s → fr.W (fr.p.cls c) none s H) : OkE fr g H s c m' := fun g' H' e o => h s g' H' e.le (r.ext e o)
def seqS (f h : SM) : SM := fun rho m => match f rho m with
  | .nx rho' m' => h rho' m'
  | .rt d m' => .rt d m'
  | .bk rho' m' => .bk rho' m'
  | .ct rho' m' => .ct rho' m'
  | .exc c rho' m' => .exc c rho' m'
  | .bad => .bad
def nxS : SM := fun rho m => .nx rho m
/-! ### the frame's slots stored -/
theorem set_get {α : Type} {l : List α} {i j : Nat} {x y : α} (h : (l.set i x)[j]? = some y) : (j = i ∧ y = x ∧ i < l.length) ∨ (j ≠ i ∧ l[j]? = some y) := by
  by_cases e : j = i
  · subst e
    by_cases hl : j < l.length
    · rw [List.getElem?_set_self hl] at h
      exact .inl ⟨rfl, (Option.some.inj h).symm, hl⟩
    · rw [List.getElem?_eq_none (by simpa using hl)] at h; cases h
  · rw [List.getElem?_set_ne (Ne.symm e)] at h
    exact .inr ⟨e, h⟩
theorem Ok.mutO {p : Par} {g : Gh} {m : Store} {H : Hp} (ok : Ok p g m H) {a : Addr} {o1 : HO} (k1 : H a = some o1) (hT : (∀ x, o1 ≠ .tbl x) ∧ ∀ x, o1 ≠ .ext x) (k0 : g.F a = none) (k2 : g.B a = none) (o2 : HO) : Ok p g m (upd H a o2) := by
  have up : ∀ b o, b ≠ a → H b = some o → upd H a o2 b = some o := fun b o nb z => by rw [upd_ne nb]; exact z
  have nb : ∀ b, g.B b ≠ none → b ≠ a := fun b z y => z (by rw [y]; exact k2)
  have nf : ∀ b o, g.F b = some o → b ≠ a := fun b o z y => by rw [y, k0] at z; cases z
  have tabs : LamX.Tabs p.T (upd H a o2) := fun q hq => by
    obtain ⟨ps, p1, p2, p3⟩ := ok.tabs q hq
    have kk : ∀ b, H b ≠ some o1 → b ≠ a := fun b z y => z (by rw [y]; exact k1)
    refine ⟨ps, up _ _ (kk _ fun z => by rw [p1] at z; cases z; exact hT.1 _ rfl) p1, p2, fun pos cv hc => ?_⟩
    obtain ⟨c, e2, e3⟩ := p3 pos cv hc
    refine ⟨c, e2, up _ _ (kk _ fun z => ?_) e3⟩
    rw [e3] at z
    unfold LamX.CodeO at z
    cases z
    exact hT.2 _ rfl
  refine ⟨fun b o z => up b o (nf b o z) (ok.fh b o z), ok.bf, fun b z => by rw [upd_ne (nb b z)]; exact ok.bh b z, tabs, ok.tabB, ok.obl, fun n fs z => ?_⟩
  obtain ⟨x, e, dx, vf, q1, q2, q3, q4, q5⟩ := ok.obs n fs z
  refine ⟨x, e, dx, vf, up _ _ (nb x (by rw [q3]; simp)) q1, up _ _ (nb dx (by rw [q4]; simp)) q2, q3, q4, Paired.imp2 q5 fun q w z => ⟨z.1, ?_⟩⟩
  have z2 := z.2
  unfold FldR at z2 ⊢
  cases hw : w.2 with
  | lst ds =>
    rw [hw] at z2
    obtain ⟨b, vs', y1, y2, y3, y4⟩ := z2
    exact ⟨b, vs', y1, up _ _ (nb b (by rw [y3]; simp)) y2, y3, y4⟩
  | _ => rw [hw] at z2; exact z2
theorem Ok.mutL {p : Par} {g : Gh} {m : Store} {H : Hp} (ok : Ok p g m H) {a : Addr} {vs : List V} (k1 : H a = some (.lst vs)) (k0 : g.F a = none) (k2 : g.B a = none) (ws : List V) : Ok p g m (upd H a (.lst ws)) := ok.mutO k1 ⟨(fun _ z => by cases z), fun _ z => by cases z⟩ k0 k2 _
section
variable {fr : Fr} {g g1 : Gh} {H H1 : Hp} {rho : En} {m m1 : Store} {s : St} {i : Nat} {v : V} {d : D}
theorem SlotR.ofZ {ow : Addr → Option Nat} (hm : fr.md i = .frz) (r : Rep fr.p.K g v d) : SlotR fr ow g H i v d := by
  unfold SlotR
  rw [hm]
  exact r
theorem Rl.setZ (r : Rl fr g H rho m s) (hm : fr.md i = .frz) (h : Rep fr.p.K g v d) : Rl fr g H (rho.set i (some d)) m (s.set i (some v)) := by
  obtain ⟨ow, hv⟩ := r.val
  refine ⟨r.ok, r.ent, by rw [List.length_set, List.length_set]; exact r.len, ow, fun j e q => ?_⟩
  rcases set_get q with ⟨rfl, e1, hl⟩ | ⟨ne, q⟩
  · cases e1
    exact ⟨v, by rw [List.getElem?_set_self (by rw [← r.len]; exact hl)], SlotR.ofZ hm h⟩
  · obtain ⟨w, h1, h2⟩ := hv j e q
    exact ⟨w, by rw [List.getElem?_set_ne (Ne.symm ne)]; exact h1, h2⟩
/-- a slot is forgotten -/
theorem Rl.unset (r : Rl fr g H rho m s) : Rl fr g H (rho.set i none) m (s.set i none) := by
  obtain ⟨ow, hv⟩ := r.val
  refine ⟨r.ok, r.ent, by rw [List.length_set, List.length_set]; exact r.len, ow, fun j e q => ?_⟩
  rcases set_get q with ⟨rfl, e1, hl⟩ | ⟨ne, q⟩
  · cases e1
  · obtain ⟨w, h1, h2⟩ := hv j e q
    exact ⟨w, by rw [List.getElem?_set_ne (Ne.symm ne)]; exact h1, h2⟩
theorem SlotR.change {ow ow' : Addr → Option Nat} {j : Nat} (h : SlotR fr ow g H j v d) (hw : ∀ a, H a ≠ none → ow a = some j → ow' a = some j) : SlotR fr ow' g H j v d := by
  unfold SlotR at *
  cases q : fr.md j with
  | frz => rw [q] at h; exact h
  | own =>
    rw [q] at h
    cases d with
    | lst ds =>
      obtain ⟨a, vs, e0, e1, h1, h0, h2, h3, h4⟩ := h
      exact ⟨a, vs, e0, e1, h1, h0, h2, h3, hw a (by rw [h1]; simp) h4⟩
    | _ => exact h
  | bor => rw [q] at h; exact h
theorem Rl.setF (r : Rl fr g1 H1 rho m1 s) (e : Ext g1 H1 g H) (o : Ok fr.p g m H) (hm : fr.md i = .own) (h : RepF fr.p.K H1 g H v d) : Rl fr g H (rho.set i (some d)) m (s.set i (some v)) := by
  obtain ⟨ow, hv⟩ := r.val
  have L : (rho.set i (some d)).length = (s.set i (some v)).length := by rw [List.length_set, List.length_set]; exact r.len
  by_cases hd : ∃ ds, d = .lst ds
  · obtain ⟨ds, rfl⟩ := hd
    obtain ⟨a, vs, rfl, h0, h1, h2, h3, h4⟩ := h
    refine ⟨o, r.ent.trans e, L, fun b => if b = a then some i else ow b, fun j dd q => ?_⟩
    rcases set_get q with ⟨rfl, e1, hl⟩ | ⟨ne, q⟩
    · cases e1
      refine ⟨.ref a, by rw [List.getElem?_set_self (by rw [← r.len]; exact hl)], ?_⟩
      unfold SlotR
      rw [hm]
      exact ⟨a, vs, rfl, r.ent.fresh h0, h1, h2, h3, h4, by simp⟩
    · obtain ⟨w, k1, k2⟩ := hv j dd q
      refine ⟨w, by rw [List.getElem?_set_ne (Ne.symm ne)]; exact k1, ?_⟩
      refine (k2.change (ow' := fun b => if b = a then some i else ow b) fun b hb z => ?_).ext e
      have nb : b ≠ a := fun z => hb (by rw [z]; exact h0)
      simp only [nb, if_false]
      exact z
  · have h' : Rep fr.p.K g v d := by
      cases d with
      | lst ds => exact absurd ⟨ds, rfl⟩ hd
      | _ => exact h
    have r2 := r.ext e o
    obtain ⟨ow, hv⟩ := r2.val
    refine ⟨o, r.ent.trans e, L, ow, fun j dd q => ?_⟩
    rcases set_get q with ⟨rfl, e1, hl⟩ | ⟨ne, q⟩
    · cases e1
      refine ⟨v, by rw [List.getElem?_set_self (by rw [← r.len]; exact hl)], ?_⟩
      unfold SlotR
      rw [hm]
      cases d with
      | lst ds => exact absurd ⟨ds, rfl⟩ hd
      | _ => exact h'
    · obtain ⟨w, k1, k2⟩ := hv j dd q
      exact ⟨w, by rw [List.getElem?_set_ne (Ne.symm ne)]; exact k1, k2⟩
/-- an own list is changed in its place -/
theorem Rl.mut (r : Rl fr g H rho m s) (hm : fr.md i = .own) {ds es : List D} (hi : rho[i]? = some (some (.lst ds))) :
    ∃ a vs, s[i]? = some (some (.ref a)) ∧ H a = some (.lst vs) ∧ g.B a = none ∧ RepL fr.p.K g vs ds ∧ (∀ ws, RepL fr.p.K g ws es → Rl fr g (upd H a (.lst ws)) (rho.set i (some (.lst es))) m s) := by
  obtain ⟨ow, hv⟩ := r.val
  obtain ⟨v, h1, h2⟩ := hv i _ hi
  have h2' := h2
  unfold SlotR at h2
  rw [hm] at h2
  obtain ⟨a, vs, rfl, e1, k1, k0, k2, k3, k4⟩ := h2
  refine ⟨a, vs, h1, k1, k2, k3, fun ws he => ?_⟩
  have up : ∀ b o, b ≠ a → H b = some o → upd H a (.lst ws) b = some o := fun b o nb z => by rw [upd_ne nb]; exact z
  have ok' : Ok fr.p g m (upd H a (.lst ws)) := r.ok.mutL k1 k0 k2 ws
  have ent' : Ext fr.g0 fr.H0 g (upd H a (.lst ws)) := by
    refine ⟨r.ent.le, fun b o z n => up b o (fun y => ?_) (r.ent.hh b o z n), r.ent.fn, r.ent.bb, r.ent.bn, fun b z => ?_⟩
    · rw [y, e1] at z; cases z
    · by_cases y : b = a
      · rw [y, upd_same]; simp
      · rw [upd_ne y]; exact r.ent.no b z
  have hlen : i < rho.length := (List.getElem?_eq_some_iff.mp hi).1
  refine ⟨ok', ent', by rw [List.length_set]; exact r.len, ow, fun j dd q => ?_⟩
  rcases set_get q with ⟨rfl, e2, hl⟩ | ⟨ne, q⟩
  · cases e2
    refine ⟨.ref a, h1, ?_⟩
    unfold SlotR
    rw [hm]
    exact ⟨a, ws, rfl, e1, upd_same, k0, k2, he, k4⟩
  · obtain ⟨w, y1, y2⟩ := hv j dd q
    refine ⟨w, y1, ?_⟩
    unfold SlotR at y2 ⊢
    cases z : fr.md j with
    | frz => rw [z] at y2; exact y2
    | own =>
      rw [z] at y2
      cases dd with
      | lst es =>
        obtain ⟨b, vs', x1, x2, x3, x4, x5, x6, x7⟩ := y2
        refine ⟨b, vs', x1, x2, up _ _ (fun y => ?_) x3, x4, x5, x6, x7⟩
        rw [y, k4] at x7
        exact ne (Option.some.inj x7).symm
      | _ => exact y2
    | bor =>
      rw [z] at y2
      cases dd with
      | lst es =>
        obtain ⟨b, vs', x1, x2, x3, x4, x5⟩ := y2
        exact ⟨b, vs', x1, x2, up _ _ (fun y => x2 (by rw [y]; exact e1)) x3, x4, x5⟩
      | _ => exact y2
end
section
variable {X : Cx} {fr : Fr} {rk : VR} {a b e : Expr} {st : Stmt} {rest ss : List Stmt} {pos : Pos} {f : En → M D} {F G : SM} {t : En → M Bool}
theorem ps_weak {u u' : TS} (h : PS X st u) (hw : ∀ Dn s H, u' Dn s H → u Dn s H) : PS X st u' := ⟨fun pins s σ H Dn I q => h.run pins s σ H Dn I (hw Dn σ H q)⟩
theorem pss_weak {u u' : TS} (h : PSs X ss u) (hw : ∀ Dn s H, u' Dn s H → u Dn s H) : PSs X ss u' := ⟨fun pins s σ H Dn I q => h.run pins s σ H Dn I (hw Dn σ H q)⟩
theorem b_nil : PSs X [] (TSt fr rk nxS) := pss_weak pss_nil fun Dn s H ⟨rho, g, m, r, w⟩ => w s g H (Le.refl g) r
theorem b_cons (h1 : PS X st (TSt fr rk F)) (h2 : PSs X rest (TSt fr rk G)) : PSs X (st :: rest) (TSt fr rk (seqS F G)) := pss_weak (pss_cons h1 h2) fun Dn s H ⟨rho, g, m, r, w⟩ => by
  refine ⟨rho, g, m, r, ?_⟩
  unfold seqS at w
  cases q : F rho m with
  | nx rho' m' => rw [q] at w; exact fun s' g' H' l' r' => ⟨rho', g', m', r', w.le l'⟩
  | rt d m' => rw [q] at w; exact w
  | bk rho' m' => rw [q] at w; exact w
  | ct rho' m' => rw [q] at w; exact w
  | exc c rho' m' => rw [q] at w; exact w
  | bad => rw [q] at w; exact w
theorem s_pass : PS X (.Pass pos) (TSt fr rk nxS) := ps_weak ps_pass fun Dn s H ⟨rho, g, m, r, w⟩ => w s g H (Le.refl g) r
def bkS : SM := fun rho m => .bk rho m
def ctS : SM := fun rho m => .ct rho m
theorem s_break : PS X (.Break pos) (TSt fr rk bkS) := ps_weak ps_break fun Dn s H ⟨rho, g, m, r, w⟩ => w s g H (Le.refl g) r
theorem s_continue : PS X (.Continue pos) (TSt fr rk ctS) := ps_weak ps_continue fun Dn s H ⟨rho, g, m, r, w⟩ => w s g H (Le.refl g) r
def dropS (f : En → M D) : SM := fun rho => exS (f rho) rho fun _ m => .nx rho m
theorem s_expr (ha : PE X e (TV fr (vA fr.p.K) f)) (hs : swapsWith e none pos.line X.env = pure false) : PS X (.Expr e pos) (TSt fr rk (dropS f)) := ps_weak (ps_expr ha hs) fun Dn s H ⟨rho, g, m, r, w⟩ =>
  ⟨rho, g, m, r, wp_mono (exS_wp w) (fun d m' q v g' H' e o _ => q s g' H' e.le (r.ext e o)) fun c m' q => excE r q⟩
def setS (i : Nat) (f : En → M D) : SM := fun rho => exS (f rho) rho fun d m => .nx (rho.set i (some d)) m
theorem s_setZ {i : Nat} {x : Str} {pos' : Pos} (hm : fr.md i = .frz) (hN : X.N.Nodup) (hi : X.N[i]? = some x) (hx : Loc X.env.scope x) (ha : PE X e (TV fr (vZ fr.p.K) f)) (hs : swapsWith e (some (.Name x pos')) pos.line X.env = pure false) (hf : X.fn x = true ∨ X.env.scope.names.lookup x = some .local) :
    PS X (.Assign [.Name x pos'] e pos) (TSt fr rk (setS i f)) := ps_weak (ps_set hN hi hx ha hs hf) fun Dn s H ⟨rho, g, m, r, w⟩ =>
  ⟨rho, g, m, r, wp_mono (exS_wp w) (fun d m' q v g' H' e o z => q _ g' H' e.le ((r.ext e o).setZ hm z)) fun c m' q => excE r q⟩
theorem s_setF {i : Nat} {x : Str} {pos' : Pos} (hm : fr.md i = .own) (hN : X.N.Nodup) (hi : X.N[i]? = some x) (hx : Loc X.env.scope x) (ha : PE X e (TV fr (vF fr.p.K) f)) (hs : swapsWith e (some (.Name x pos')) pos.line X.env = pure false) (hf : X.fn x = true ∨ X.env.scope.names.lookup x = some .local) :
    PS X (.Assign [.Name x pos'] e pos) (TSt fr rk (setS i f)) := ps_weak (ps_set hN hi hx ha hs hf) fun Dn s H ⟨rho, g, m, r, w⟩ =>
  ⟨rho, g, m, r, wp_mono (exS_wp w) (fun d m' q v g' H' e o z => q _ g' H' e.le (r.setF e o hm z)) fun c m' q => excE r q⟩
/-! x += e, ints -/
def augI (sub : Bool) (x y : D) : Option D := match x, y with
  | .int i, .int j => some (.int (if sub then i - j else i + j))
  | _, _ => none
def augS (sub : Bool) (i : Nat) (f : En → M D) : SM := fun rho => exS (bnd (evVar i rho) fun x => bnd (f rho) fun y => lift (augI sub x y)) rho fun d m => .nx (rho.set i (some d)) m
theorem aug_ok {i : Nat} {sub : Bool} (hm : fr.md i = .frz) (Dn : Ends) (s : St) (H : Hp) (h : TSt fr rk (augS sub i f) Dn s H) : tAug i (TV fr (vA fr.p.K) f) (ipI (fun i j => if sub then i - j else i + j)) Dn s H := by
  obtain ⟨rho, g, m, r, w⟩ := h
  have w1 := wp_bnd.mp (exS_wp w)
  obtain ⟨x, hx, w2⟩ := wp_lift.mp w1
  obtain ⟨ow, hval⟩ := r.val
  obtain ⟨v, h2, h3⟩ := hval i x (join_some hx)
  refine ⟨v, h2, rho, g, m, r, wp_mono (wp_bnd.mp w2) (fun y m1 w3 u g1 H1 e1 o1 r1 => ?_) fun c m' q => excE r q⟩
  obtain ⟨d, hd, w4⟩ := wp_lift.mp w3
  unfold augI at hd
  split at hd
  · cases hd
    have r1' : RepA _ _ _ _ _ := r1
    have k := (h3.any r.ok).int
    subst k
    rw [r1'.int]
    exact ⟨_, _, rfl, rfl, w4 _ g1 H1 e1.le ((r.ext e1 o1).setZ hm (.int _))⟩
  · cases hd
theorem s_augA {i : Nat} {x : Str} {pos' : Pos} (hm : fr.md i = .frz) (hN : X.N.Nodup) (hi : X.N[i]? = some x) (hx : Loc X.env.scope x) (ha : PE X e (TV fr (vA fr.p.K) f)) (hf : X.fn x = true ∨ X.env.scope.names.lookup x = some .local) :
    PS X (.AugAssign (.Name x pos') .Add e pos) (TSt fr rk (augS false i f)) := ps_weak (ps_aug hN hi hx ha ip_add hf) fun Dn s H h => aug_ok (sub := false) hm Dn s H h
theorem s_augM {i : Nat} {x : Str} {pos' : Pos} (hm : fr.md i = .frz) (hN : X.N.Nodup) (hi : X.N[i]? = some x) (hx : Loc X.env.scope x) (ha : PE X e (TV fr (vA fr.p.K) f)) (hf : X.fn x = true ∨ X.env.scope.names.lookup x = some .local) :
    PS X (.AugAssign (.Name x pos') .Sub e pos) (TSt fr rk (augS true i f)) := ps_weak (ps_aug hN hi hx ha ip_sub hf) fun Dn s H h => aug_ok (sub := true) hm Dn s H h
/-! return -/
def retS (f : En → M D) : SM := fun rho => exS (f rho) rho fun d m => .rt d m
theorem s_ret (kd : Kind fr.p.K rk) (ha : PE X e (TV fr rk f)) : PS X (.Return (some e) pos) (TSt fr rk (retS f)) := ps_weak (ps_ret ha) fun Dn s H ⟨rho, g, m, r, w⟩ =>
  ⟨rho, g, m, r, wp_mono (exS_wp w) (fun d m' q v g' H' e o z => q v g' H' (r.ent.trans e) o (kd.back r.ent z)) fun c m' q => excE r q⟩
/-- an own list is handed back -/
theorem s_retOwn {i : Nat} {x : Str} {p : Pos} (hm : fr.md i = .own) (hN : X.N[i]? = some x) (hv : Vis X.env.scope x) (hd : (x == ("__debug__" : Str)) = false) (hcd : (x == ("__classdict__" : Str)) = false) :
    PS X (.Return (some (.Name x p)) pos) (TSt fr (vF fr.p.K) (retS (evVar i))) := ps_weak (ps_ret (pe_var hN hv hd hcd)) fun Dn s H ⟨rho, g, m, r, w⟩ => by
  obtain ⟨d, h1, q⟩ := wp_lift.mp (exS_wp w)
  obtain ⟨ow, hval⟩ := r.val
  obtain ⟨v, h2, h3⟩ := hval i d (join_some h1)
  refine ⟨v, h2, q v g H r.ent r.ok ?_⟩
  unfold SlotR at h3
  rw [hm] at h3
  show RepF _ _ _ _ _ _
  cases d with
  | lst ds =>
    obtain ⟨a, vs, e0, e1, k1, k0, k2, k3, _⟩ := h3
    exact ⟨a, vs, e0, e1, k1, k0, k2, k3⟩
  | _ => exact h3
/-! if -/
def ifS (t : En → M Bool) (F G : SM) : SM := fun rho => exS (t rho) rho fun b m => if b = true then F rho m else G rho m
theorem s_if {c : Expr} {p q : List Stmt} (hc : PT X c (TB fr t)) (hp : PSs X p (TSt fr rk F)) (hq : PSs X q (TSt fr rk G)) : PS X (.If c p q pos) (TSt fr rk (ifS t F G)) := ps_weak (ps_if hc hp hq) fun Dn s H ⟨rho, g, m, r, w⟩ =>
  ⟨rho, g, m, r, wp_mono (exS_wp w) (fun b m' q g' H' e o => by
    cases b with
    | true => rw [if_pos rfl] at q ⊢; exact ⟨rho, g', m', r.ext e o, q.le e.le⟩
    | false => rw [if_neg Bool.false_ne_true] at q ⊢; exact ⟨rho, g', m', r.ext e o, q.le e.le⟩) fun c m' q => excE r q⟩
/-! while: n turns at most -/
/-- behind a turn -/
def cont (k : SM) : Rs → Rs
  | .nx rho m => k rho m
  | .ct rho m => k rho m
  | .bk rho m => .nx rho m
  | .rt d m => .rt d m
  | .exc c rho m => .exc c rho m
  | .bad => .bad
def whileS (t : En → M Bool) (F : SM) : Nat → SM
  | 0 => fun _ _ => .bad
  | n + 1 => fun rho => exS (t rho) rho fun b m => if b = true then cont (whileS t F n) (F rho m) else .nx rho m
theorem s_while {c : Expr} {p : List Stmt} {n : Nat} (hpo : PassesOwn (model X.prog X.w) X.A X.env X.xe) (hc : PT X c (TB fr t)) (hp : PSs X p (TSt fr rk F)) : PS X (.While c p [] pos) (TSt fr rk (whileS t F n)) := ps_weak (ps_while hpo hc hp) fun Dn s H ⟨rho, g, m, r, w⟩ => by
  refine ⟨fun k s H => ∃ rho g m, Rl fr g H rho m s ∧ RsW fr rk Dn g (whileS t F k rho m), ⟨n, rho, g, m, r, w⟩, fun k s H => ?_⟩
  rintro ⟨rho, g, m, r, w⟩
  cases k with
  | zero => exact absurd w (fun z => z)
  | succ k =>
    refine ⟨rho, g, m, r, wp_mono (exS_wp w) (fun b m1 q g1 H1 e1 o1 => ?_) fun c m' q => excE r q⟩
    have r1 := r.ext e1 o1
    cases b with
    | false => rw [if_neg Bool.false_ne_true] at q; exact iteF (q s g1 H1 e1.le r1)
    | true =>
      rw [if_pos rfl] at q
      refine iteT ⟨fun s' H' => ∃ rho g m, Rl fr g H' rho m s' ∧ RsW fr rk Dn g (whileS t F k rho m), fun s' H' z => ⟨k, Nat.lt_succ_self k, z⟩, rho, g1, m1, r1, ?_⟩
      cases z : F rho m1 with
      | nx rho' m' => rw [z] at q; exact fun s2 g2 H2 l2 r2 => ⟨rho', g2, m', r2, q.le (e1.le.trans l2)⟩
      | ct rho' m' => rw [z] at q; exact fun s2 g2 H2 l2 r2 => ⟨rho', g2, m', r2, q.le (e1.le.trans l2)⟩
      | bk rho' m' => rw [z] at q; exact q.le e1.le
      | rt d m' => rw [z] at q; exact q
      | exc c rho' m' => rw [z] at q; exact q.le e1.le
      | bad => rw [z] at q; exact q
end
end PF
namespace PF
open PySem L2 PyProof.Rows
/-! ### enumerate and zip over lists and tuples alike: tt tells which -/
def SqX (K : PySem.W.Frag) (tt : Bool) (H : Hp) (a : Addr) (xs : List V) : Prop := if tt = true then SqT K H a xs else SqL K H a xs
def IsX (tt : Bool) (h : Heap) (a : Addr) (its : Array Value) : Prop := if tt = true then h.IsTuple a its else h.IsList a its
def ItX (tt : Bool) (h : Heap) (it a : Addr) (i : Nat) : Prop := if tt = true then h.IsTupleIter it a i else h.IsListIter it a i
def ObX (tt : Bool) (a : Addr) : Obj := if tt = true then { cls := .type "tuple_iterator", data := .fields #[.ref a, .int 0 0] } else { cls := .type "list_iterator", data := .fields #[.ref a, .int 0 0] }
theorem seqX {X : Cx} {pins : List (Addr × Obj)} {σ : L2.St} {H : Hp} {s : Shared} {a : Addr} {xs : List V} {tt : Bool} (J : Inv X pins σ H s) (h : SqX X.K tt H a xs) : ∃ its : List Value, Vals xs its ∧ IsX tt s.heap a its.toArray := by
  cases tt with
  | true =>
    obtain ⟨its, r, p, _⟩ := J.tuple (show SqT X.K H a xs from h)
    exact ⟨its, r, p⟩
  | false =>
    obtain ⟨its, r, p, _⟩ := J.list (show SqL X.K H a xs from h)
    exact ⟨its, r, p.isList⟩
theorem seqX_inj {X : Cx} {pins : List (Addr × Obj)} {σ : L2.St} {H : Hp} {s : Shared} {a : Addr} {xs ys : List V} {tt : Bool} (J : Inv X pins σ H s) (h : SqX X.K tt H a xs) (h' : SqX X.K tt H a ys) : xs = ys := by
  cases tt with
  | true => exact J.tuple_inj (show SqT X.K H a xs from h) h'
  | false => exact J.list_inj (show SqL X.K H a xs from h) h'
theorem itX_obj {tt : Bool} {h : Heap} {it a : Addr} {i : Nat} (q : ItX tt h it a i) : ∃ o, h.get? it = some o ∧ ∀ v, o.data ≠ .cell v := by
  cases tt with
  | true => obtain ⟨o, e, _, d⟩ := (show h.IsTupleIter it a i from q); exact ⟨o, e, fun v z => by rw [d] at z; cases z⟩
  | false => obtain ⟨o, e, _, d⟩ := (show h.IsListIter it a i from q); exact ⟨o, e, fun v z => by rw [d] at z; cases z⟩
theorem itX_at {tt : Bool} {h h' : Heap} {it a : Addr} {i : Nat} (q : ItX tt h it a i) (k : ∀ o, h.get? it = some o → h'.get? it = some o) : ItX tt h' it a i := by
  cases tt with
  | true => exact (show h.IsTupleIter it a i from q).at k
  | false => exact (show h.IsListIter it a i from q).at k
theorem itX_new {tt : Bool} {h : Heap} {it a : Addr} (q : h.get? it = some (ObX tt a)) : ItX tt h it a 0 := by
  cases tt with
  | true => exact ⟨_, q, rfl, rfl⟩
  | false => exact ⟨_, q, rfl, rfl⟩
theorem isX_lt {tt : Bool} {h : Heap} {a : Addr} {its : Array Value} (q : IsX tt h a its) : a < h.objs.size := by
  cases tt with
  | true => obtain ⟨o, e, _⟩ := (show h.IsTuple a its from q); exact Heap.lt_size e
  | false => obtain ⟨o, e, _⟩ := (show h.IsList a its from q); exact Heap.lt_size e
theorem drawsX {P : Program} {w : World} {A : Around} (hh : A.handled = none) (tt : Bool) (it a : Addr) (hne : a ≠ it) (its : Array Value) :
    Draws P w A it [it, a] its.size (fun i v => its[i]? = some v) (fun i h => ItX tt h it a i ∧ IsX tt h a its) := by
  cases tt with
  | true => exact Draws.tuple hh it a hne its
  | false => exact Draws.list hh it a hne its
theorem beginsX (tt : Bool) (a : Addr) (its : Array Value) : Begins (.ref a) (ObX tt a) fun h => IsX tt h a its := by
  cases tt with
  | true => exact begins_tuple a its
  | false => exact begins_list a its
theorem adA {a n : Nat} (h : a < n) (k : Nat) : @Ne Addr a (n + k) := fun (z : a = n + k) => by omega
theorem adB {n i j : Nat} (h : i ≠ j) : @Ne Addr (n + i) (n + j) := fun (z : n + i = n + j) => by omega
theorem adC {n c k : Nat} (h : @Eq Addr c (n + k)) : n ≤ c := by have z : c = n + k := h; omega
/-- enumerate -/
def IteX (K : PySem.W.Frag) (tt : Bool) (a : Addr) : It where
  go := fun i H => ∃ (xs : List V) (x : V), SqX K tt H a xs ∧ xs[i]? = some x
  yld := fun i H v H' => ∃ T x, v = .ref T ∧ H T = none ∧ H' = upd H T (.tup [.int (i : Nat), x]) ∧ ∀ xs, SqX K tt H a xs → xs[i]? = some x
  stop := fun i H => ∃ xs : List V, SqX K tt H a xs ∧ xs.length ≤ i
def EnSt (tt : Bool) (a e it : Addr) (i : Nat) (h : Heap) : Prop := (∃ old, IsEnum h e it ((i : Nat) : Int) old) ∧ ItX tt h it a i ∧ e ≠ it ∧ a ≠ it ∧ a ≠ e
/-- an iterator that has come to its end -/
theorem endX {P : Program} {w : World} {A : Around} (hh : A.handled = none) (tt : Bool) (it a : Addr) (its : Array Value) (i : Nat) (hx : its[i]? = none) :
    Draws P w A it [it, a] i (fun _ _ => True) (fun j h => j = i ∧ ItX tt h it a i ∧ IsX tt h a its) where
  live := fun _ _ st => by obtain ⟨o, e, _⟩ := itX_obj st.2.1; exact ⟨o, e⟩
  frame := fun _ _ _ st hk => ⟨st.1, itX_at st.2.1 fun o e => hk it (by simp) o e, by
    have q := st.2.2
    cases tt with
    | true => exact Heap.IsTuple.at (show Heap.IsTuple _ a its from q) fun o e => hk a (by simp) o e
    | false => exact Heap.IsList.at (show Heap.IsList _ a its from q) fun o e => hk a (by simp) o e⟩
  item := fun j s Q E hj st _ => absurd st.1 (Nat.ne_of_lt hj)
  done := fun s Q E st hE => by
    cases tt with
    | true => exact wpAny_nextOf_tuple_end hh (show Heap.IsTupleIter _ it a i from st.2.1) (show Heap.IsTuple _ a its from st.2.2) hx hE
    | false => exact wpAny_nextOf_list_end hh (show Heap.IsListIter _ it a i from st.2.1) (show Heap.IsList _ a its from st.2.2) hx hE
theorem valsAt {xs : List V} {its : List Value} (r : Vals xs its) {i : Nat} (h : xs.length ≤ i) : its.toArray[i]? = none := by
  have := r.length
  simp
  omega
theorem turnE {P : Program} {w : World} {K : PySem.W.Frag} {elts : List Expr} {kk : Nat} {tpos : Pos} (tt : Bool) (a e it : Addr) :
    Turn P w K (.Tuple elts kk tpos) (IteX K tt a) [e, it] e (EnSt tt a e it) where
  mem := List.mem_cons_self ..
  obj := fun i h st c hc => by
    obtain ⟨⟨old, he⟩, hi, _⟩ := st
    rcases List.mem_cons.mp hc with z | z
    · rw [z]
      exact ⟨_, he, fun v q => nomatch q⟩
    · rw [List.mem_singleton.mp z]
      exact itX_obj hi
  keep := fun i h h' st k => by
    obtain ⟨⟨old, he⟩, hi, n1, n2, n3⟩ := st
    exact ⟨⟨old, k e (by simp) _ he⟩, itX_at hi fun o q => k it (by simp) o q, n1, n2, n3⟩
  item := by
    intro X eP ew eK hc i pins s σ H E J hf st hg
    subst eP ew eK
    obtain ⟨⟨old, he⟩, hi, n1, n2, n3⟩ := st
    obtain ⟨xs, x, hq, hx⟩ := hg
    obtain ⟨its, rv, p⟩ := seqX J hq
    obtain ⟨u, hu, ru⟩ := rv.get hx
    have el : e < s.heap.objs.size := Heap.lt_size he
    have il : it < s.heap.objs.size := by obtain ⟨o, q, _⟩ := itX_obj hi; exact Heap.lt_size q
    have hlt : i < its.toArray.size := by
      have := (List.getElem?_eq_some_iff.mp hu).1
      simpa using this
    refine wpAny_pyNext_enum_itemD (drawsX (A := X.A.in1) (J.ok.hd hc) tt it a n2 its.toArray) he ⟨hi, p⟩ hlt n1 (by simp [n1, Ne.symm n3]) fun y h1 tk hy ho hs1 hT hsz hk => ?_
    have ey : y = u := by
      have z : its[i]? = some y := by simpa using hy
      rw [hu] at z
      exact (Option.some.inj z).symm
    subst ey
    refine ⟨_, rfl, wpAny_letOwnedTupleGo_enum (s := { s with heap := h1, toks := tk + 1 }) ho fun h2 he2 sb => ?_⟩
    have hT2 : h2.get? s.heap.objs.size = some { cls := .type "tuple", data := .seq #[.int i tk, y] } := (sb.2 _ (Nat.ne_of_gt el)).trans hT
    have nw : ObjOk X.prog X.w (upd H s.heap.objs.size (.tup [.int (i : Nat), x])) h2 s.heap.objs.size (.tup [.int (i : Nat), x]) := ⟨by show 2 ≤ sizeLine; decide, [.int i tk, y], .cons ⟨_, rfl⟩ (.cons ru .nil), ⟨_, hT2, rfl, _, rfl⟩⟩
    have far : ∀ c o, c ∉ [e, it] → s.heap.get? c = some o → h2.get? c = some o := fun c o hc q => by
      simp only [List.mem_cons, List.not_mem_nil, or_false, not_or] at hc
      exact (sb.2 c hc.1).trans (hk c o hc.1 hc.2 q)
    have J1 : Inv X pins σ (upd H s.heap.objs.size (.tup [.int (i : Nat), x])) { s with heap := h2, toks := tk + 1 } := J.turnedNew far hf (Nat.le_refl _) nw
    refine ⟨.ref s.heap.objs.size, _, J1, rfl, ⟨_, x, rfl, J.hok.fresh (Nat.le_refl _), rfl, fun ys hy2 => by rw [seqX_inj J hy2 hq]; exact hx⟩, ⟨⟨y, ?_⟩, itX_at hs1.1 fun o q => (sb.2 it (Ne.symm n1)).trans q, n1, n2, n3⟩, fun c hcm => ?_⟩
    · have e1 : ((i + 1 : Nat) : Int) = (i : Int) + 1 := by omega
      rw [e1]
      exact he2
    · have lt : c < s.heap.objs.size := by
        rcases List.mem_cons.mp hcm with z | z
        · rw [z]; exact el
        · rw [List.mem_singleton.mp z]; exact il
      rw [upd_ne (Nat.ne_of_lt lt)]
      exact (hf c hcm).1
  done := by
    intro X eP ew eK hc i pins s σ H E J hf st hg
    subst eP ew eK
    obtain ⟨⟨old, he⟩, hi, n1, n2, n3⟩ := st
    obtain ⟨xs, hq, hx⟩ := hg
    obtain ⟨its, rv, p⟩ := seqX J hq
    refine wpAny_pyNext_enum_endD (endX (A := X.A.in1) (J.ok.hd hc) tt it a its.toArray i (valsAt rv hx)) he ⟨rfl, hi, p⟩ fun h1 eb => ⟨rfl, ?_⟩
    exact J.turnedL (t' := s.toks) (ch := [e, it]) (fun c o hb q => eb c o (fun z => hb (by simp [z])) q) hf
  self := fun A i s Q E st h => by
    obtain ⟨⟨old, he⟩, _⟩ := st
    exact wpAny_pyIter_enum he h
theorem meetsE {v : Value} {o : Obj} {Hh : Heap → Prop} (B : Begins v o Hh) :
    Meets (Builtin.«enumerate.__new__» ⟨[.type "enumerate", v], []⟩) (fun _ R s => Hh s.heap ∧
      R (.ok (.ret (.ref (s.heap.push o).objs.size))) { s with heap := (s.heap.push o).push { cls := .type "enumerate", data := .fields #[.none, .bool false, .ref s.heap.objs.size, rawInt 0, .none, .none] } }) :=
  .of_wp fun prog w A R s h => by
    obtain ⟨hp, g, dd, tk, oo⟩ := s
    obtain ⟨b1, h⟩ := h
    have hsb := sub_enumerate
    have go1 : ∀ {A' : Around} {E : Value → Shared → Prop} {Q : Value → Shared → Prop}, Q (.ref hp.objs.size) ⟨hp.push o, g, dd, tk, oo⟩ → wpAny (model prog w) A' (pyIter v) Q E ⟨hp, g, dd, tk, oo⟩ := fun q => B.iter prog w _ _ ⟨hp, g, dd, tk, oo⟩ _ b1 q
    wp_walk using go1
    refine wpAny_stack_any fun st => wpAny_pure ?_
    split
    · rename_i c _ _ _ _ _
      cases (c == Value.type "enumerate")
      all_goals
        wp_walk using go1
        exact ⟨_, rfl, h⟩
    · wp_walk using go1
      exact ⟨_, rfl, h⟩
section
variable {prog : Program} {w : World} {A : Around} {E : Value → Shared → Prop} {s : Shared}
theorem enum1B {v : Value} {o : Obj} {Hh : Heap → Prop} {Q : Value → Shared → Prop} (B : Begins v o Hh) (b1 : Hh s.heap)
    (h : ∀ h', IsEnum h' (s.heap.objs.size + 1) s.heap.objs.size 0 .none → h'.get? s.heap.objs.size = some o → (∀ c u, s.heap.get? c = some u → h'.get? c = some u) → Q (.ref (s.heap.objs.size + 1)) { s with heap := h' }) :
    wpAny (model prog w) A (call (.type "enumerate") [v]) Q E s := by
  refine callType_new F.called_enumerate (by decide) (F.typeCall_enumerate_1 _) (F.newCall_enumerate_1 _) (fun ob => F.args_object_init_2 ob _) F.entry_enumerate_new (meetsE B) ⟨b1, ?_⟩
  have z1 : (s.heap.push o).objs.size = s.heap.objs.size + 1 := Heap.size_push ..
  show _ ∧ _
  rw [z1]
  have k1 := Heap.get?_push_size (s.heap.push o) (o := { cls := .type "enumerate", data := .fields #[.none, .bool false, .ref s.heap.objs.size, rawInt 0, .none, .none] }) rfl
  rw [z1] at k1
  exact ⟨⟨_, k1, rfl⟩, h _ k1 (Heap.get?_push_of_some _ (Heap.get?_push_size _ B.free)) fun c u q => Heap.get?_push_of_some _ (Heap.get?_push_of_some _ q)⟩
end
def iEnX (K : PySem.W.Frag) (ta : TA) : TI := fun σ H R => ta σ H fun vs H1 => ∃ tt a xs, vs = [.ref a] ∧ SqX K tt H1 a xs ∧ R (IteX K tt a) H1
theorem pi_enX {X : Cx} {e : Expr} {ta : TA} {p pos tpos : Pos} {elts : List Expr} {kk : Nat} (hg : Gl X "enumerate") (hm : X.mg "enumerate" = none) (ha : PA X [e] ta) (hs : starEach [e] X.env = [(false, eval e X.env)]) :
    PI X (.Tuple elts kk tpos) (.Call (.Name "enumerate" p) [e] [] pos) (iEnX X.K ta) := by
  refine ⟨fun pins s σ H R J h => ?_⟩
  refine Call_ (ld_blt J hg hm boot_enumerate (PyProof.Rows.callWith_type1 (thn (ha.run pos pins s σ H _ J h) fun us s1 ⟨vs, H1, J1, r1, q1⟩ => ?_) hs rfl))
  obtain ⟨tt, a, xs, rfl, hq, q⟩ := q1
  cases r1 with
  | cons r rr =>
    cases rr
    cases r
    obtain ⟨its, rv, pp⟩ := seqX J1 hq
    have al := isX_lt pp
    refine enum1B (beginsX tt a its.toArray) pp fun h1 he hit hk => wpAny_pyIter_enum he ?_
    have J2 : Inv X pins σ H1 { s1 with heap := h1 } := J1.kept (t' := s1.toks) hk
    refine ⟨_, [s1.heap.objs.size + 1, s1.heap.objs.size], _, _, H1, rfl, J2, turnE tt a (s1.heap.objs.size + 1) s1.heap.objs.size, ⟨⟨.none, he⟩, itX_new hit, Nat.succ_ne_self _, Nat.ne_of_lt al, adA al 1⟩, fun c hcm => ?_, q⟩
    have le : s1.heap.objs.size ≤ c := by
      rcases List.mem_cons.mp hcm with z | z
      · exact adC z
      · rw [List.mem_singleton.mp z]; exact Nat.le_refl _
    exact J1.fpOk le (J1.hok.fresh le)
/-- zip -/
def ItzX (K : PySem.W.Frag) (tt uu : Bool) (a b : Addr) : It where
  go := fun i H => ∃ (xs ys : List V) (x y : V), SqX K tt H a xs ∧ SqX K uu H b ys ∧ xs[i]? = some x ∧ ys[i]? = some y
  yld := fun i H v H' => ∃ T x y, v = .ref T ∧ H T = none ∧ H' = upd H T (.tup [x, y]) ∧ (∀ xs, SqX K tt H a xs → xs[i]? = some x) ∧ ∀ ys, SqX K uu H b ys → ys[i]? = some y
  stop := fun i H => ∃ xs ys : List V, SqX K tt H a xs ∧ SqX K uu H b ys ∧ (xs.length ≤ i ∨ ys.length ≤ i)
def ZiSt (tt uu : Bool) (a b z TI TO i1 i2 : Addr) (i : Nat) (h : Heap) : Prop := IsZip h z TI TO .none ∧ IsTupOf2 h TI (.ref i1) (.ref i2) ∧ (∃ x y, IsTupOf2 h TO x y) ∧ ItX tt h i1 a i ∧ ItX uu h i2 b i
theorem turnZ {P : Program} {w : World} {K : PySem.W.Frag} {elts : List Expr} {kk : Nat} {tpos : Pos} {a b z TI TO i1 i2 : Addr} (tt uu : Bool) (D : ZipSep2 z TI TO i1 i2 [i1, a] [i2, b]) (na : a ≠ i1) (nb : b ≠ i2) :
    Turn P w K (.Tuple elts kk tpos) (ItzX K tt uu a b) [z, TI, TO, i1, i2] z (ZiSt tt uu a b z TI TO i1 i2) where
  mem := List.mem_cons_self ..
  obj := fun i h st c hc => by
    obtain ⟨hz, hTI, ⟨x, y, hTO⟩, h1, h2⟩ := st
    have e' : c = z ∨ c = TI ∨ c = TO ∨ c = i1 ∨ c = i2 := by simpa using hc
    rcases e' with q | q | q | q | q <;> rw [q]
    · exact ⟨_, hz, fun v q => nomatch q⟩
    · exact ⟨_, hTI, fun v q => nomatch q⟩
    · exact ⟨_, hTO, fun v q => nomatch q⟩
    · exact itX_obj h1
    · exact itX_obj h2
  keep := fun i h h' st k => by
    obtain ⟨hz, hTI, ⟨x, y, hTO⟩, h1, h2⟩ := st
    exact ⟨k _ (by simp) _ hz, k _ (by simp) _ hTI, ⟨x, y, k _ (by simp) _ hTO⟩, itX_at h1 fun o q => k _ (by simp) o q, itX_at h2 fun o q => k _ (by simp) o q⟩
  item := by
    intro X eP ew eK hc i pins s σ H E J hf st hg
    subst eP ew eK
    obtain ⟨hz, hTI, ⟨x0, y0, hTO⟩, h1, h2⟩ := st
    obtain ⟨xs, ys, x, y, hqx, hqy, hx, hy⟩ := hg
    obtain ⟨its, rv, p⟩ := seqX J hqx
    obtain ⟨its2, rv2, p2⟩ := seqX J hqy
    obtain ⟨u, hu, ru⟩ := rv.get hx
    obtain ⟨u2, hu2, ru2⟩ := rv2.get hy
    have zl : z < s.heap.objs.size := Heap.lt_size hz
    have l1 : i < its.toArray.size := by simpa using (List.getElem?_eq_some_iff.mp hu).1
    have l2 : i < its2.toArray.size := by simpa using (List.getElem?_eq_some_iff.mp hu2).1
    refine wpAny_pyNext_zipD2_item D (drawsX (A := X.A.in1) (J.ok.hd hc) tt i1 a na its.toArray) (drawsX (A := X.A.in1) (J.ok.hd hc) uu i2 b nb its2.toArray) hz hTI hTO ⟨h1, p⟩ ⟨h2, p2⟩ l1 l2 fun v1 v2 h3 tk e1 e2 z3 o3 s1 s2 t3 sz hk => ?_
    have ev1 : v1 = u := by
      have q : its[i]? = some v1 := by simpa using e1
      rw [hu] at q
      exact (Option.some.inj q).symm
    have ev2 : v2 = u2 := by
      have q : its2[i]? = some v2 := by simpa using e2
      rw [hu2] at q
      exact (Option.some.inj q).symm
    subst ev1 ev2
    refine ⟨_, rfl, wpAny_letOwnedTupleGo_zip (s := { s with heap := h3, toks := tk }) z3 fun h4 z4 sb => ?_⟩
    have t4 : h4.get? s.heap.objs.size = some { cls := .type "tuple", data := .seq #[v1, v2] } := (sb.2 _ (Nat.ne_of_gt zl)).trans t3
    have nw : ObjOk X.prog X.w (upd H s.heap.objs.size (.tup [x, y])) h4 s.heap.objs.size (.tup [x, y]) := ⟨by show 2 ≤ sizeLine; decide, [v1, v2], .cons ru (.cons ru2 .nil), ⟨_, t4, rfl, _, rfl⟩⟩
    have far : ∀ c o, c ∉ [z, TI, TO, i1, i2] → s.heap.get? c = some o → h4.get? c = some o := fun c o hc q => by
      simp only [List.mem_cons, List.not_mem_nil, or_false, not_or] at hc
      exact (sb.2 c hc.1).trans (hk c o hc.1 hc.2.2.1 hc.2.2.2.1 hc.2.2.2.2 q)
    have J1 : Inv X pins σ (upd H s.heap.objs.size (.tup [x, y])) { s with heap := h4, toks := tk } := J.turnedNew far hf (Nat.le_refl _) nw
    refine ⟨.ref s.heap.objs.size, _, J1, rfl, ⟨_, x, y, rfl, J.hok.fresh (Nat.le_refl _), rfl, fun l hl => by rw [seqX_inj J hl hqx]; exact hx, fun l hl => by rw [seqX_inj J hl hqy]; exact hy⟩, ⟨z4, ?_, ⟨v1, v2, ?_⟩, ?_, ?_⟩, fun c hcm => ?_⟩
    · exact (sb.2 _ D.TIz).trans (hk _ _ D.TIz D.TITO D.TIi1 D.TIi2 hTI)
    · exact (sb.2 _ D.TOz).trans o3
    · exact itX_at s1.1 fun o q => (sb.2 _ (Ne.symm D.zi1)).trans q
    · exact itX_at s2.1 fun o q => (sb.2 _ (Ne.symm D.zi2)).trans q
    · have lt : c < s.heap.objs.size := by
        have e' : c = z ∨ c = TI ∨ c = TO ∨ c = i1 ∨ c = i2 := by simpa using hcm
        rcases e' with q | q | q | q | q <;> rw [q]
        · exact zl
        · exact Heap.lt_size hTI
        · exact Heap.lt_size hTO
        · obtain ⟨o, q, _⟩ := itX_obj h1; exact Heap.lt_size q
        · obtain ⟨o, q, _⟩ := itX_obj h2; exact Heap.lt_size q
      rw [upd_ne (Nat.ne_of_lt lt)]
      exact (hf c hcm).1
  done := by
    intro X eP ew eK hc i pins s σ H E J hf st hg
    subst eP ew eK
    obtain ⟨hz, hTI, ⟨x0, y0, hTO⟩, h1, h2⟩ := st
    obtain ⟨xs, ys, hqx, hqy, hend⟩ := hg
    obtain ⟨its, rv, p⟩ := seqX J hqx
    obtain ⟨its2, rv2, p2⟩ := seqX J hqy
    have fin : ∀ (h' : Heap) (tk : Nat), (∀ c o, c ≠ z → c ≠ TO → c ≠ i1 → c ≠ i2 → s.heap.get? c = some o → h'.get? c = some o) → Inv X pins σ H { s with heap := h', toks := tk } := fun h' tk hk => J.turnedL (t' := tk) (ch := [z, TI, TO, i1, i2]) (fun c o hb q => by
      simp only [List.mem_cons, List.not_mem_nil, or_false, not_or] at hb
      exact hk c o hb.1 hb.2.2.1 hb.2.2.2.1 hb.2.2.2.2 q) hf
    have dr1 := drawsX (P := X.prog) (w := X.w) (A := X.A.in1) (J.ok.hd hc) tt i1 a na its.toArray
    have dr2 := drawsX (P := X.prog) (w := X.w) (A := X.A.in1) (J.ok.hd hc) uu i2 b nb its2.toArray
    by_cases c1 : xs.length ≤ i
    · have en1 := endX (P := X.prog) (w := X.w) (A := X.A.in1) (J.ok.hd hc) tt i1 a its.toArray i (valsAt rv c1)
      by_cases c2 : ys.length ≤ i
      · have en2 := endX (P := X.prog) (w := X.w) (A := X.A.in1) (J.ok.hd hc) uu i2 b its2.toArray i (valsAt rv2 c2)
        exact wpAny_pyNext_zipD2_end D en1 en2 hz hTI hTO ⟨rfl, h1, p⟩ ⟨rfl, h2, p2⟩ (Nat.le_refl _) (Nat.le_refl _) (.inl rfl) fun h' tk hk => ⟨rfl, fin h' tk hk⟩
      · have l2 : i ≤ its2.toArray.size := by have := rv2.length; simp; omega
        exact wpAny_pyNext_zipD2_end D en1 dr2 hz hTI hTO ⟨rfl, h1, p⟩ ⟨h2, p2⟩ (Nat.le_refl _) l2 (.inl rfl) fun h' tk hk => ⟨rfl, fin h' tk hk⟩
    · have c2 : ys.length ≤ i := by omega
      have en2 := endX (P := X.prog) (w := X.w) (A := X.A.in1) (J.ok.hd hc) uu i2 b its2.toArray i (valsAt rv2 c2)
      have l1 : i ≤ its.toArray.size := by have := rv.length; simp; omega
      exact wpAny_pyNext_zipD2_end D dr1 en2 hz hTI hTO ⟨h1, p⟩ ⟨rfl, h2, p2⟩ l1 (Nat.le_refl _) (.inr rfl) fun h' tk hk => ⟨rfl, fin h' tk hk⟩
  self := fun A i s Q E st h => wpAny_pyIter_zip st.1 h
def iZiX (K : PySem.W.Frag) (ta : TA) : TI := fun σ H R => ta σ H fun vs H1 => ∃ tt uu a b xs ys, vs = [.ref a, .ref b] ∧ SqX K tt H1 a xs ∧ SqX K uu H1 b ys ∧ R (ItzX K tt uu a b) H1
theorem pi_ziX {X : Cx} {e e2 : Expr} {ta : TA} {p pos tpos : Pos} {elts : List Expr} {kk : Nat} (hg : Gl X "zip") (hm : X.mg "zip" = none) (ha : PA X [e, e2] ta)
    (hs : starEach [e, e2] X.env = (false, eval e X.env) :: starEach [e2] X.env) (hpl : (backTo pos (starEach [e2] X.env)).any (·.1) = false) :
    PI X (.Tuple elts kk tpos) (.Call (.Name "zip" p) [e, e2] [] pos) (iZiX X.K ta) := by
  refine ⟨fun pins s σ H R J h => ?_⟩
  refine Call_ (ld_blt J hg hm PyProof.Rows.boot_zip (PyProof.Rows.callWith_type1 (thn (ha.run pos pins s σ H _ J h) fun us s1 ⟨vs, H1, J1, r1, q1⟩ => ?_) hs hpl))
  obtain ⟨tt, uu, a, b, xs, ys, rfl, hqx, hqy, q⟩ := q1
  cases r1 with
  | cons r rr =>
    cases rr with
    | cons r' rr =>
      cases rr
      cases r
      cases r'
      obtain ⟨its, rv, pp⟩ := seqX J1 hqx
      obtain ⟨its2, rv2, pp2⟩ := seqX J1 hqy
      have al := isX_lt pp
      have bl := isX_lt pp2
      refine zip_begins2 (beginsX tt a its.toArray) (beginsX uu b its2.toArray) pp pp2 fun h1 hz hTI hTO o1 o2 _ hk => wpAny_pyIter_zip hz ?_
      have J2 : Inv X pins σ H1 { s1 with heap := h1 } := J1.kept (t' := s1.toks) hk
      refine ⟨_, [s1.heap.objs.size + 4, s1.heap.objs.size + 2, s1.heap.objs.size + 3, s1.heap.objs.size, s1.heap.objs.size + 1], _, _, H1, rfl, J2, turnZ tt uu ?_ (Nat.ne_of_lt al) (adA bl 1), ⟨hz, hTI, ⟨_, _, hTO⟩, itX_new o1, itX_new o2⟩, fun c hcm => ?_, q⟩
      · have b0 := fun j (h : 0 ≠ j) => adB (n := s1.heap.objs.size) (i := 0) (j := j) h
        have c0 := fun j (h : j ≠ 0) => adB (n := s1.heap.objs.size) (i := j) (j := 0) h
        refine ⟨adB (by decide), adB (by decide), adB (by decide), c0 2 (by decide), by simp, ?_, ?_, adB (by decide), by simp, ?_, ?_, ?_, ?_⟩ <;> rw [List.mem_cons, List.mem_singleton, not_or]
        · exact ⟨c0 4 (by decide), Ne.symm (adA al 4)⟩
        · exact ⟨c0 3 (by decide), Ne.symm (adA al 3)⟩
        · exact ⟨adB (by decide), Ne.symm (adA bl 4)⟩
        · exact ⟨adB (by decide), Ne.symm (adA bl 3)⟩
        · exact ⟨b0 1 (by decide), Ne.symm (adA bl 0)⟩
        · exact ⟨c0 1 (by decide), Ne.symm (adA al 1)⟩
      · have e' : c = s1.heap.objs.size + 4 ∨ c = s1.heap.objs.size + 2 ∨ c = s1.heap.objs.size + 3 ∨ c = s1.heap.objs.size ∨ c = s1.heap.objs.size + 1 := by simpa using hcm
        have le : s1.heap.objs.size ≤ c := by rcases e' with z | z | z | z | z <;> first | exact adC z | exact adC (k := 0) z
        exact J1.fpOk le (J1.hok.fresh le)
end PF
namespace PF
open PySem L2 PyProof.Rows
/-! ### sum, max, min of a tuple of ints -/
section
variable {prog : Program} {w : World} {A : Around} {E : Value → Shared → Prop} {s : Shared} {l : Addr} {xs : Array (Int × Tok)} {its : List Value} {ns : List Int} {Q : Value → Shared → Prop}
/-- the walk of a tuple begins -/
theorem tupIter {C : Value → Shared → Prop} (hl : s.heap.IsTuple l (intItems xs)) (h : (s.heap.push { cls := .type "tuple_iterator", data := .fields #[.ref l, .int 0 0] }).IsTupleIter s.heap.objs.size l 0 ∧ (s.heap.push { cls := .type "tuple_iterator", data := .fields #[.ref l, .int 0 0] }).IsTuple l (intItems xs) →
      (∀ b ∈ [s.heap.objs.size, l], b < (s.heap.push { cls := .type "tuple_iterator", data := .fields #[.ref l, .int 0 0] }).objs.size) → l ≠ s.heap.objs.size → C (.ref s.heap.objs.size) { s with heap := s.heap.push { cls := .type "tuple_iterator", data := .fields #[.ref l, .int 0 0] } }) :
    wpAny (model prog w) A (pyIter (.ref l)) C E s := by
  have lt : l < s.heap.objs.size := by obtain ⟨o, e, _⟩ := id hl; exact Heap.lt_size e
  refine wpAny_pyIter_tuple hl (h ⟨⟨_, Heap.get?_push_size _ rfl, rfl, rfl⟩, hl.push _⟩ (fun b hb => ?_) (Nat.ne_of_lt lt))
  rw [Heap.size_push]
  rcases List.mem_cons.mp hb with z | z
  · rw [z]; exact Nat.lt_succ_self _
  · rw [List.mem_singleton.mp z]; exact Nat.lt_succ_of_lt lt
theorem tupOld {o1 : Obj} {h' : Heap} (hk : ∀ b o, b ∉ [s.heap.objs.size] → (s.heap.push o1).get? b = some o → h'.get? b = some o) (b : Addr) (o : Obj) (e : s.heap.get? b = some o) : h'.get? b = some o := by
  refine hk b o (fun hm => ?_) (Heap.get?_push_of_some _ e)
  have z := Heap.lt_size e
  rw [List.mem_singleton.mp hm] at z
  exact absurd z (Nat.lt_irrefl _)
theorem tsum (hh : A.handled = none) (hl : s.heap.IsTuple l its.toArray) (hi : IntsAre its ns) (h : ∀ h' tk t', (∀ b o, s.heap.get? b = some o → h'.get? b = some o) → Q (.int ns.sum t') { s with heap := h', toks := tk }) :
    wpAny (model prog w) A (call (.builtin "sum") [.ref l]) Q E s := by
  obtain ⟨xs, e⟩ := hi.allInts.items
  have hn : numsOf (intItems xs).toList = ns := by rw [← e]; exact hi.numsOf
  rw [nums_intItems] at hn
  rw [e] at hl
  refine call_sum_walkG (tupIter hl fun st hfp ne => ?_)
  refine ⟨_, _, _, _, _, _, numAt xs, rfl, Walks.tuple (A := A.in1) hh _ l ne (intItems xs), st, hfp, (fun _ _ => intItems_at), fun h' tk t' hk => ?_⟩
  have z := h h' tk t' (tupOld hk)
  rw [← hn] at z
  have y : preSum (numAt xs) (intItems xs).size = (xs.toList.map (·.1)).sum := by rw [preSum_eq, List.take_of_length_le (by simp [intItems])]
  rw [y]
  exact z
theorem tmax (hh : A.handled = none) (hl : s.heap.IsTuple l its.toArray) (hi : IntsAre its ns) (hne : 0 < ns.length) (h : ∀ h' tk M t', (∀ b o, s.heap.get? b = some o → h'.get? b = some o) → M ∈ ns → (∀ a, a ∈ ns → a ≤ M) → Q (.int M t') { s with heap := h', toks := tk }) :
    wpAny (model prog w) A (call (.builtin "max") [.ref l]) Q E s := by
  obtain ⟨xs, e⟩ := hi.allInts.items
  have hn : numsOf (intItems xs).toList = ns := by rw [← e]; exact hi.numsOf
  rw [nums_intItems] at hn
  subst hn
  rw [e] at hl
  have sz : 0 < xs.size := by simpa using hne
  refine call_max_walk (tupIter hl fun st hfp ne => ?_)
  refine ⟨_, _, _, _, _, _, _, rfl, Walks.tuple (A := A.in1) hh _ l ne (intItems xs), st, hfp, by simpa [intItems] using sz, CmpOf.ints_gt (numAt xs) (fun _ _ => intItems_at), fun v h' tk hP hk => ?_⟩
  have hv : (intItems xs)[argBest (fun i j => decide (numAt xs i > numAt xs j)) (xs.size - 1)]? = some v := by simpa [intItems] using hP
  obtain ⟨t, rfl⟩ := intItems_at hv
  obtain ⟨h1, h2⟩ := argBest_gt (numAt xs) (xs.size - 1)
  refine h h' tk _ t (tupOld hk) ?_ fun a ha => ?_
  · rw [numAt_eq]
    exact PySem.getD_mem (by rw [List.length_map, Array.length_toList]; omega)
  · obtain ⟨j, hj, rfl⟩ := mem_getD ha
    rw [List.length_map, Array.length_toList] at hj
    rw [← numAt_eq]
    exact h2 j (by omega)
theorem tmin (hh : A.handled = none) (hl : s.heap.IsTuple l its.toArray) (hi : IntsAre its ns) (hne : 0 < ns.length) (h : ∀ h' tk M t', (∀ b o, s.heap.get? b = some o → h'.get? b = some o) → M ∈ ns → (∀ a, a ∈ ns → M ≤ a) → Q (.int M t') { s with heap := h', toks := tk }) :
    wpAny (model prog w) A (call (.builtin "min") [.ref l]) Q E s := by
  obtain ⟨xs, e⟩ := hi.allInts.items
  have hn : numsOf (intItems xs).toList = ns := by rw [← e]; exact hi.numsOf
  rw [nums_intItems] at hn
  subst hn
  rw [e] at hl
  have sz : 0 < xs.size := by simpa using hne
  refine call_min_walk (tupIter hl fun st hfp ne => ?_)
  refine ⟨_, _, _, _, _, _, _, rfl, Walks.tuple (A := A.in1) hh _ l ne (intItems xs), st, hfp, by simpa [intItems] using sz, CmpOf.ints_lt (numAt xs) (fun _ _ => intItems_at), fun v h' tk hP hk => ?_⟩
  have hv : (intItems xs)[argBest (fun i j => decide (numAt xs i < numAt xs j)) (xs.size - 1)]? = some v := by simpa [intItems] using hP
  obtain ⟨t, rfl⟩ := intItems_at hv
  obtain ⟨h1, h2⟩ := argBest_lt (numAt xs) (xs.size - 1)
  refine h h' tk _ t (tupOld hk) ?_ fun a ha => ?_
  · rw [numAt_eq]
    exact PySem.getD_mem (by rw [List.length_map, Array.length_toList]; omega)
  · obtain ⟨j, hj, rfl⟩ := mem_getD ha
    rw [List.length_map, Array.length_toList] at hj
    rw [← numAt_eq]
    exact h2 j (by omega)
end
def rSumT (K : PySem.W.Frag) : List V → Hp → VK → Prop := fun vs H Q => ∃ (a : Addr) (ns : List Int), vs = [V.ref a] ∧ SqT K H a (ns.map V.int) ∧ Q (.int ns.sum) H
def rMaxT (K : PySem.W.Frag) : List V → Hp → VK → Prop := fun vs H Q => ∃ (a : Addr) (ns : List Int), vs = [V.ref a] ∧ SqT K H a (ns.map V.int) ∧ 0 < ns.length ∧ ∀ m, m ∈ ns → (∀ y, y ∈ ns → y ≤ m) → Q (.int m) H
def rMinT (K : PySem.W.Frag) : List V → Hp → VK → Prop := fun vs H Q => ∃ (a : Addr) (ns : List Int), vs = [V.ref a] ∧ SqT K H a (ns.map V.int) ∧ 0 < ns.length ∧ ∀ m, m ∈ ns → (∀ y, y ∈ ns → m ≤ y) → Q (.int m) H
section
variable {X : Cx}
theorem cr_sumT (hc : X.calm = true) : CallR X (.builtin "sum") (rSumT X.K) := by
  intro pins s σ H vs us Q J r h
  obtain ⟨a, ns, rfl, hs, q⟩ := h
  obtain ⟨its, rv, hl, _⟩ := J.tuple hs
  rw [Vals.ref1 r]
  exact tsum (J.ok.hd hc) hl rv.ints fun h' tk t' hk => ⟨.int _, H, J.kept hk, ⟨_, rfl⟩, q⟩
theorem cr_maxT (hc : X.calm = true) : CallR X (.builtin "max") (rMaxT X.K) := by
  intro pins s σ H vs us Q J r h
  obtain ⟨a, ns, rfl, hs, hne, q⟩ := h
  obtain ⟨its, rv, hl, _⟩ := J.tuple hs
  rw [Vals.ref1 r]
  exact tmax (J.ok.hd hc) hl rv.ints hne fun h' tk m t' hk h1 h2 => ⟨.int _, H, J.kept hk, ⟨_, rfl⟩, q m h1 h2⟩
theorem cr_minT (hc : X.calm = true) : CallR X (.builtin "min") (rMinT X.K) := by
  intro pins s σ H vs us Q J r h
  obtain ⟨a, ns, rfl, hs, hne, q⟩ := h
  obtain ⟨its, rv, hl, _⟩ := J.tuple hs
  rw [Vals.ref1 r]
  exact tmin (J.ok.hd hc) hl rv.ints hne fun h' tk m t' hk h1 h2 => ⟨.int _, H, J.kept hk, ⟨_, rfl⟩, q m h1 h2⟩
/-! ### len(set(list of ints)) -/
def distN (ns : List Int) : List Int := PyProof.Rows.firstMet (fun i => ns.getD i 0) ns.length
def tLenSet (K : PySem.W.Frag) (ta : TE) : TE := fun σ H Q => ta σ H fun x H1 => ∃ (l : Addr) (ns : List Int), x = .ref l ∧ SqL K H1 l (ns.map V.int) ∧ ns.length ≤ 4000 ∧ (distN ns).length ≤ 4000 ∧ Q (.int ((distN ns).length : Nat)) H1
theorem pe_lenSet {a : Expr} {ta : TE} {p p2 q pos : Pos} (hg : Gl X "len") (hm : X.mg "len" = none) (hg2 : Gl X "set") (hm2 : X.mg "set" = none) (ha : PE X a ta) (hc : X.calm = true)
    (na : starEach [a] X.env = (false, eval a X.env) :: starEach [] X.env) : PE X (.Call (.Name "len" p) [.Call (.Name "set" p2) [a] [] q] [] pos) (tLenSet X.K ta) := by
  refine ⟨fun pins s σ H Q J h => ?_⟩
  refine Call_ (ld_blt J hg hm boot_len (PyProof.Rows.callWith_builtin1 (PyProof.Rows.args_cons ?_ rfl) rfl rfl))
  refine Call_ (ld_blt J hg2 hm2 boot_set ?_)
  refine PyProof.Rows.callWith_type1 (PyProof.Rows.args_cons (thn (ha.run pins s σ H _ J h) fun v s1 ⟨x, H1, J1, r1, q1⟩ => PyProof.Rows.args_nil ?_) na) na rfl
  obtain ⟨l, ns, rfl, hq, hl, hd4, q1⟩ := q1
  cases r1
  obtain ⟨its, r, pl, _⟩ := J1.list hq
  have hlen : its.toArray.size = ns.length := by rw [List.size_toArray, ← r.length, List.length_map]
  refine call_set_list (J1.ok.hd hc) pl.isList (by simpa using RZ.intsAre_vals r) (by rw [hlen]; unfold scanBound; omega) fun h' tk hS hk => PyProof.Rows.args_nil ?_
  rw [hlen] at hS
  obtain ⟨o, es, ep, t, ho, hex, hd, _, _, _, hf, hn⟩ := hS
  have J2 : Inv X pins σ H1 { s1 with heap := h', toks := tk } := J1.kept fun b o e => hk b o (Heap.lt_size e) e
  have hn : _ = (distN ns).length := hn
  exact call_len_set ho hex hd hf (by rw [hn]; omega) ⟨.int ((distN ns).length : Nat), H1, J2.tok _, ⟨_, by rw [hn]⟩, q1⟩
end
end PF
namespace PF
open PySem L2
/-! ### what is walked -/
/-- at every state of which P holds the iterator yields xs -/
def ItOn (p : Par) (P : Gh → Hp → Prop) (J : It) (xs : List D) : Prop := ∀ (i : Nat) (g : Gh) (m : Store) (H : Hp), P g H → Ok p g m H →
  (∀ d, xs[i]? = some d → J.go i H ∧ ∀ v H2, J.yld i H v H2 → ∃ g2, Ok p g2 m H2 ∧ Ext g H g2 H2 ∧ Rep p.K g2 v d) ∧ (xs.length ≤ i → J.stop i H)
def pst (g0 : Gh) (H0 : Hp) (any : Bool) (g : Gh) (H : Hp) : Gh → Hp → Prop := if any then fun g' H' => Ext g H g' H' else fun g' H' => Le g g' ∧ Ext g0 H0 g' H'
def TIt (fr : Fr) (any : Bool) (f : En → M (List D)) : TI := fun s H Rr => ∃ rho g m, Rl fr g H rho m s ∧
  (f rho m).wp (fun xs m' => ∀ J g' H', Ext g H g' H' → Ok fr.p g' m' H' → ItOn fr.p (pst fr.g0 fr.H0 any g' H') J xs → Rr J H') (OkE fr g H s)
def itemsD : D → Option (List D)
  | .tup xs => some xs
  | .lst xs => some xs
  | .scr ns => some (ns.map D.int)
  | _ => none
section
variable {p : Par} {P : Gh → Hp → Prop} {a : Addr} {vs : List V} {ds : List D}
theorem itl (hL : ∀ g m H, P g H → Ok p g m H → SqL p.K H a vs ∧ RepL p.K g vs ds ∧ ∀ ws, SqL p.K H a ws → ws = vs ∨ True) (hq : ∀ g m H, P g H → Ok p g m H → SqL p.K H a vs ∧ RepL p.K g vs ds) : ItOn p P (Itl p.K a) ds := by
  intro i g m H hp o
  obtain ⟨h1, h2⟩ := hq g m H hp o
  refine ⟨fun d hd => ?_, fun hl => ⟨vs, h1, by rw [h2.length]; exact hl⟩⟩
  obtain ⟨v, k1, k2⟩ := h2.get hd
  refine ⟨⟨vs, v, h1, k1⟩, fun w H2 y => ?_⟩
  obtain ⟨e, y⟩ := y
  subst e
  have e2 := y vs h1
  rw [k1] at e2
  cases e2
  exact ⟨g, o, Ext.refl g _, k2⟩
theorem itl' (hq : ∀ g m H, P g H → Ok p g m H → SqL p.K H a vs ∧ RepL p.K g vs ds) : ItOn p P (Itl p.K a) ds := itl (fun g m H hp o => ⟨(hq g m H hp o).1, (hq g m H hp o).2, fun _ _ => .inr trivial⟩) hq
theorem itt' (hq : ∀ g m H, P g H → Ok p g m H → SqT p.K H a vs ∧ RepL p.K g vs ds) : ItOn p P (Itt p.K a) ds := by
  intro i g m H hp o
  obtain ⟨h1, h2⟩ := hq g m H hp o
  refine ⟨fun d hd => ?_, fun hl => ⟨vs, h1, by rw [h2.length]; exact hl⟩⟩
  obtain ⟨v, k1, k2⟩ := h2.get hd
  refine ⟨⟨vs, v, h1, k1⟩, fun w H2 y => ?_⟩
  obtain ⟨e, y⟩ := y
  subst e
  have e2 := y vs h1
  rw [k1] at e2
  cases e2
  exact ⟨g, o, Ext.refl g _, k2⟩
end
theorem pst_le {g0 : Gh} {H0 : Hp} {any : Bool} {g g' : Gh} {H H' : Hp} (h : pst g0 H0 any g H g' H') : Le g g' := by
  cases any with
  | true => exact (show Ext g H g' H' from h).le
  | false => exact (show Le g g' ∧ Ext g0 H0 g' H' from h).1
theorem tup_at {g0 : Gh} {H0 : Hp} {p : Par} {any : Bool} {g : Gh} {H : Hp} {a : Addr} {vs : List V} {ds : List D} (h : g.F a = some (.tup vs)) (r : RepL p.K g vs ds) : ∀ g' m' H', pst g0 H0 any g H g' H' → Ok p g' m' H' → SqT p.K H' a vs ∧ RepL p.K g' vs ds :=
  fun g' m' H' q o => ⟨SqT.of (o.fh _ _ ((pst_le q).ff _ _ h)), r.mono (pst_le q)⟩
theorem lst_at {g0 : Gh} {H0 : Hp} {p : Par} {any : Bool} {g : Gh} {H : Hp} {a : Addr} {vs : List V} {ds : List D} (h : g.F a = some (.lst vs)) (r : RepL p.K g vs ds) : ∀ g' m' H', pst g0 H0 any g H g' H' → Ok p g' m' H' → SqL p.K H' a vs ∧ RepL p.K g' vs ds :=
  fun g' m' H' q o => ⟨SqL.of (o.fh _ _ ((pst_le q).ff _ _ h)), r.mono (pst_le q)⟩
theorem lstA_at {g0 : Gh} {H0 : Hp} {p : Par} {g : Gh} {H : Hp} {a : Addr} {vs : List V} {ds : List D} (h : H a = some (.lst vs)) (hb : g.B a = none) (r : RepL p.K g vs ds) : ∀ g' m' H', pst g0 H0 true g H g' H' → Ok p g' m' H' → SqL p.K H' a vs ∧ RepL p.K g' vs ds :=
  fun g' m' H' q o => ⟨SqL.of ((show Ext g H g' H' from q).hh _ _ h hb), r.mono (pst_le q)⟩
theorem scr_at {g0 : Gh} {H0 : Hp} {p : Par} {any : Bool} {g : Gh} {H : Hp} {a : Addr} {ns : List Int} (h : SqL p.K g.F a (ns.map V.int)) : ∀ g' m' H', pst g0 H0 any g H g' H' → Ok p g' m' H' → SqL p.K H' a (ns.map V.int) ∧ RepL p.K g' (ns.map V.int) (ns.map D.int) :=
  fun g' m' H' q o => ⟨o.fh.seq ((pst_le q).ff.seq h), RepL.of_ints ns⟩
section
variable {X : Cx} {fr : Fr} {tg a b e : Expr} {f fa fb : En → M D} {fs : En → M (List D)} {pos : Pos}
theorem PI.or {t u : TI} (h1 : PI X tg e t) (h2 : PI X tg e u) : PI X tg e (fun s H Rr => t s H Rr ∨ u s H Rr) := ⟨fun pins s σ H Rr I q => by
  rcases q with q | q
  · exact h1.run pins s σ H Rr I q
  · exact h2.run pins s σ H Rr I q⟩
theorem pi_weak {t t' : TI} (h : PI X tg e t) (hw : ∀ s H Q, t' s H Q → t s H Q) : PI X tg e t' := ⟨fun pins s σ H Q I q => h.run pins s σ H Q I (hw σ H Q q)⟩
def evSeq (f : En → M D) (rho : En) : M (List D) := bnd (f rho) fun d => lift (itemsD d)
/-- one expression, a list or a tuple: both walks are asked of its value -/
def iSeq (K : PySem.W.Frag) (t : TE) : TI := fun s H Rr => t s H fun x H1 => ∃ a, x = .ref a ∧ (((∃ xs, SqL K H1 a xs) ∧ Rr (Itl K a) H1) ∨ ((∃ xs, SqT K H1 a xs) ∧ Rr (Itt K a) H1))
theorem pi_seq {l : Expr} {tl : TE} (hl : PE X l tl) : PI X tg l (iSeq X.K tl) := by
  refine ⟨fun pins s σ H Rr I h => ?_⟩
  refine thn (hl.run pins s σ H _ I h) fun v s1 ⟨x, H1, I1, r1, q1⟩ => ?_
  obtain ⟨a, rfl, q⟩ := q1
  have e : v = Value.ref a := r1
  subst e
  rcases q with ⟨⟨xs, hq⟩, q⟩ | ⟨⟨xs, hq⟩, q⟩
  · obtain ⟨its, rv, p1, hz⟩ := I1.list hq
    refine PySem.wpAny_pyIter_list p1.isList ⟨_, [s1.heap.objs.size], _, _, H1, rfl, I1.kept (t' := s1.toks) (fun b o e => Heap.get?_push_of_some _ e), turn_list a s1.heap.objs.size, ⟨_, Heap.get?_push_size _ rfl, rfl, rfl⟩, fun b hb => ?_, q⟩
    rw [List.mem_singleton.mp hb]
    exact I1.fpOk (Nat.le_refl _) (I1.hok.fresh (Nat.le_refl _))
  · obtain ⟨its, rv, p1, hz⟩ := I1.tuple hq
    refine PySem.wpAny_pyIter_tuple (show s1.heap.IsTuple a its.toArray from p1) ⟨_, [s1.heap.objs.size], _, _, H1, rfl, I1.kept (t' := s1.toks) (fun b o e => Heap.get?_push_of_some _ e), turn_tuple a s1.heap.objs.size, ⟨_, Heap.get?_push_size _ rfl, rfl, rfl⟩, fun b hb => ?_, q⟩
    rw [List.mem_singleton.mp hb]
    exact I1.fpOk (Nat.le_refl _) (I1.hok.fresh (Nat.le_refl _))
theorem i_seqZ {any : Bool} (hK : X.K = fr.p.K) (ha : PE X a (TV fr (vZ fr.p.K) fa)) : PI X tg a (TIt fr any (evSeq fa)) := pi_weak (pi_seq ha) fun s H Rr ⟨rho, g, m, rl, w⟩ => by
  refine ⟨rho, g, m, rl, wp_mono (wp_bnd.mp w) (fun dx m1 w1 v g1 H1 e1 o1 r1 => ?_) fun _ _ z => z⟩
  obtain ⟨xs, hx, q⟩ := wp_lift.mp w1
  have r1 : Rep fr.p.K g1 v dx := r1
  rw [hK]
  cases r1 with
  | tup h t =>
    cases hx
    exact ⟨_, rfl, .inr ⟨⟨_, SqT.of (o1.fh _ _ h)⟩, q _ g1 H1 e1 o1 (itt' (tup_at h t))⟩⟩
  | lst h t =>
    cases hx
    exact ⟨_, rfl, .inl ⟨⟨_, SqL.of (o1.fh _ _ h)⟩, q _ g1 H1 e1 o1 (itl' (lst_at h t))⟩⟩
  | scr h =>
    cases hx
    exact ⟨_, rfl, .inl ⟨⟨_, o1.fh.seq h⟩, q _ g1 H1 e1 o1 (itl' (scr_at h))⟩⟩
  | _ => cases hx
theorem i_seqA (hK : X.K = fr.p.K) (ha : PE X a (TV fr (vA fr.p.K) fa)) : PI X tg a (TIt fr true (evSeq fa)) := pi_weak (pi_seq ha) fun s H Rr ⟨rho, g, m, rl, w⟩ => by
  refine ⟨rho, g, m, rl, wp_mono (wp_bnd.mp w) (fun dx m1 w1 v g1 H1 e1 o1 r1 => ?_) fun _ _ z => z⟩
  obtain ⟨xs, hx, q⟩ := wp_lift.mp w1
  have r1 : RepA fr.p.K g1 H1 v dx := r1
  rw [hK]
  cases dx with
  | tup ds =>
    cases hx
    obtain ⟨a, vs, rfl, h, t⟩ := r1.tup
    exact ⟨_, rfl, .inr ⟨⟨_, SqT.of (o1.fh _ _ h)⟩, q _ g1 H1 e1 o1 (itt' (tup_at h t))⟩⟩
  | lst ds =>
    cases hx
    obtain ⟨a, vs, rfl, h, hb, t⟩ := r1.lst
    exact ⟨_, rfl, .inl ⟨⟨_, SqL.of h⟩, q _ g1 H1 e1 o1 (itl' (lstA_at h hb t))⟩⟩
  | scr ns =>
    cases hx
    obtain ⟨a, rfl, h⟩ := r1.scr
    exact ⟨_, rfl, .inl ⟨⟨_, o1.fh.seq h⟩, q _ g1 H1 e1 o1 (itl' (scr_at h))⟩⟩
  | _ => cases hx
/-- a list that was there at the entry and is nobody's stays as it is, in any frame -/
theorem i_seqB {any : Bool} {i : Nat} {x : Str} {px : Pos} (hK : X.K = fr.p.K) (hm : fr.md i = .bor) (hN : X.N[i]? = some x) (hv : Vis X.env.scope x) (hd : (x == ("__debug__" : Str)) = false) (hcd : (x == ("__classdict__" : Str)) = false) : PI X tg (.Name x px) (TIt fr any (evSeq (evVar i))) := pi_weak (pi_seq (pe_var hN hv hd hcd)) fun s H Rr ⟨rho, g, m, rl, w⟩ => by
  obtain ⟨d, h1, w1⟩ := wp_lift.mp (wp_bnd.mp w)
  obtain ⟨xs, hx, q⟩ := wp_lift.mp w1
  obtain ⟨ow, hval⟩ := rl.val
  obtain ⟨v, h2, h3⟩ := hval i d (join_some h1)
  refine ⟨v, h2, ?_⟩
  rw [hK]
  unfold SlotR at h3
  rw [hm] at h3
  cases d with
  | lst ds =>
    cases hx
    obtain ⟨a, vs, rfl, k0, k1, k2, k3⟩ := h3
    have b0 : fr.g0.B a = none := by
      cases z : fr.g0.B a with
      | none => rfl
      | some u => exact absurd k2 (rl.ent.bb a (by rw [z]; simp))
    have o0 : fr.H0 a = some (.lst vs) := by
      cases z : fr.H0 a with
      | none => exact absurd z k0
      | some u =>
        have y := rl.ent.hh a u z b0
        rw [k1] at y
        exact y.symm
    refine ⟨a, rfl, .inl ⟨⟨_, SqL.of k1⟩, q _ g H (Ext.refl g H) rl.ok (itl' (vs := vs) fun g' m' H' hp o => ?_)⟩⟩
    cases any with
    | true => exact ⟨SqL.of ((show Ext g H g' H' from hp).hh _ _ k1 k2), k3.mono (show Ext g H g' H' from hp).le⟩
    | false => exact ⟨SqL.of ((show Le g g' ∧ Ext fr.g0 fr.H0 g' H' from hp).2.hh _ _ o0 b0), k3.mono (show Le g g' ∧ Ext fr.g0 fr.H0 g' H' from hp).1⟩
  | tup ds =>
    cases hx
    cases h3 with
    | tup h t => exact ⟨_, rfl, .inr ⟨⟨_, SqT.of (rl.ok.fh _ _ h)⟩, q _ g H (Ext.refl g H) rl.ok (itt' (tup_at h t))⟩⟩
  | scr ns =>
    cases hx
    cases h3 with
    | scr h => exact ⟨_, rfl, .inl ⟨⟨_, rl.ok.fh.seq h⟩, q _ g H (Ext.refl g H) rl.ok (itl' (scr_at h))⟩⟩
  | _ => cases hx
def rngD (lo hi : Int) : Option (List D) := if -(2 ^ 62) ≤ lo ∧ lo < 2 ^ 62 ∧ -(2 ^ 62) ≤ hi ∧ hi < 2 ^ 62 then some ((List.range (hi - lo).toNat).map fun (i : Nat) => D.int (lo + i)) else none
def rng1 : List D → Option (List D)
  | [.int j] => rngD 0 j
  | _ => none
def rng2 : List D → Option (List D)
  | [.int i, .int j] => rngD i j
  | _ => none
theorem it_rng {p : Par} {P : Gh → Hp → Prop} (lo : Int) (n : Nat) : ItOn p P (Itr lo n) ((List.range n).map fun (i : Nat) => D.int (lo + i)) := by
  intro i g m H _ o
  refine ⟨fun d hd => ?_, fun hl => by
    show n ≤ i
    simpa using hl⟩
  rw [List.getElem?_map] at hd
  cases q : (List.range n)[i]? with
  | none => rw [q] at hd; cases hd
  | some j =>
    rw [q] at hd
    cases hd
    obtain ⟨h1, h2⟩ := List.getElem?_eq_some_iff.mp q
    have h1' : i < n := by simpa using h1
    have h2' : i = j := by simpa using h2
    subst h2'
    refine ⟨h1', fun v H2 y => ?_⟩
    obtain ⟨e1, e2⟩ := y
    subst e1 e2
    exact ⟨g, o, Ext.refl g _, .int _⟩
def evI (sem : List D → Option (List D)) (fs : En → M (List D)) (rho : En) : M (List D) := bnd (fs rho) fun xs => lift (sem xs)
theorem i_rng1 {any : Bool} {p : Pos} (hg : Gl X "range") (hm : X.mg "range" = none) (ha : PA X [e] (TLg fr (lA fr.p.K) fs)) (hs : starEach [e] X.env = [(false, eval e X.env)]) : PI X tg (.Call (.Name "range" p) [e] [] pos) (TIt fr any (evI rng1 fs)) :=
  pi_weak (pi_range1 hg hm ha hs) fun s H Rr ⟨rho, g, m, rl, w⟩ => ⟨rho, g, m, rl, wp_mono (wp_bnd.mp w) (fun ds m1 w1 vs g1 H1 e1 o1 r1 => by
    obtain ⟨xs, hx, q⟩ := wp_lift.mp w1
    unfold rng1 at hx
    split at hx
    · obtain ⟨v, rfl, r⟩ := RepAL.one r1
      rw [r.int]
      unfold rngD at hx
      split at hx
      · rename_i j h
        cases hx
        refine ⟨j, rfl, h.2.2.1, h.2.2.2, q _ g1 H1 e1 o1 ?_⟩
        have z := it_rng (p := fr.p) (P := pst fr.g0 fr.H0 any g1 H1) 0 j.toNat
        simpa using z
      · cases hx
    · cases hx) fun _ _ z => z⟩
theorem i_rng2 {any : Bool} {p : Pos} (hg : Gl X "range") (hm : X.mg "range" = none) (ha : PA X [a, e] (TLg fr (lA fr.p.K) fs)) (hs : starEach [a, e] X.env = [(false, eval a X.env), (false, eval e X.env)]) (hs2 : starEach [e] X.env = [(false, eval e X.env)]) : PI X tg (.Call (.Name "range" p) [a, e] [] pos) (TIt fr any (evI rng2 fs)) :=
  pi_weak (pi_range2 hg hm ha hs hs2) fun s H Rr ⟨rho, g, m, rl, w⟩ => ⟨rho, g, m, rl, wp_mono (wp_bnd.mp w) (fun ds m1 w1 vs g1 H1 e1 o1 r1 => by
    obtain ⟨xs, hx, q⟩ := wp_lift.mp w1
    unfold rng2 at hx
    split at hx
    · obtain ⟨v, u, rfl, r, r'⟩ := RepAL.two r1
      rw [r.int, r'.int]
      unfold rngD at hx
      split at hx
      · rename_i i j h
        cases hx
        exact ⟨i, j, rfl, ⟨h.1, h.2.1, h.2.2.1, h.2.2.2⟩, q _ g1 H1 e1 o1 (it_rng i _)⟩
      · cases hx
    · cases hx) fun _ _ z => z⟩
/-! enumerate, zip -/
def enumD (xs : List D) : List D := xs.zipIdx.map fun q => .tup [.int (q.2 : Nat), q.1]
def enm1 : List D → Option (List D)
  | [d] => (seqD d).map enumD
  | _ => none
theorem enum_get {xs : List D} {i : Nat} {d : D} (h : (enumD xs)[i]? = some d) : ∃ x, xs[i]? = some x ∧ d = .tup [.int (i : Nat), x] := by
  unfold enumD at h
  rw [List.getElem?_map] at h
  cases q : xs.zipIdx[i]? with
  | none => rw [q] at h; cases h
  | some y =>
    rw [q] at h
    cases h
    rw [List.getElem?_zipIdx] at q
    cases z : xs[i]? with
    | none => rw [z] at q; cases q
    | some x =>
      rw [z] at q
      cases q
      exact ⟨x, rfl, by simp⟩
theorem it_enum {p : Par} {P : Gh → Hp → Prop} {tt : Bool} {a : Addr} {vs : List V} {ds : List D} (hq : ∀ g m H, P g H → Ok p g m H → SqX p.K tt H a vs ∧ RepL p.K g vs ds) : ItOn p P (IteX p.K tt a) (enumD ds) := by
  intro i g m H hp o
  obtain ⟨h1, h2⟩ := hq g m H hp o
  refine ⟨fun d hd => ?_, fun hl => ⟨vs, h1, by rw [h2.length]; simpa [enumD] using hl⟩⟩
  obtain ⟨x, hx, rfl⟩ := enum_get hd
  obtain ⟨v, k1, k2⟩ := h2.get hx
  refine ⟨⟨vs, v, h1, k1⟩, fun w H2 y => ?_⟩
  obtain ⟨T, u, rfl, hT, rfl, y⟩ := y
  have e2 := y vs h1
  rw [k1] at e2
  cases e2
  obtain ⟨o2, e2⟩ := o.new hT (.tup [.int (i : Nat), v])
  exact ⟨_, o2, e2, .tup (show upd g.F T _ T = _ from upd_same) (.cons (.int _) (.cons (k2.mono (Le.put (o.fnone hT))) .nil))⟩
/-- where a sequence stands, now and later -/
theorem seqA_at {p : Par} {g0 : Gh} {H0 : Hp} {g : Gh} {m : Store} {H : Hp} {v : V} {d : D} {xs : List D} (o : Ok p g m H) (r : RepA p.K g H v d) (h : seqD d = some xs) : ∃ tt a vs, v = .ref a ∧ SqX p.K tt H a vs ∧ ∀ g' m' H', pst g0 H0 true g H g' H' → Ok p g' m' H' → SqX p.K tt H' a vs ∧ RepL p.K g' vs xs := by
  cases d with
  | tup ds =>
    cases h
    obtain ⟨a, vs, rfl, h1, h2⟩ := r.tup
    exact ⟨true, a, vs, rfl, SqT.of (o.fh _ _ h1), tup_at h1 h2⟩
  | lst ds =>
    cases h
    obtain ⟨a, vs, rfl, h1, hb, h2⟩ := r.lst
    exact ⟨false, a, vs, rfl, SqL.of h1, lstA_at h1 hb h2⟩
  | _ => cases h
theorem seqZ_at {p : Par} {g0 : Gh} {H0 : Hp} {any : Bool} {g : Gh} {m : Store} {H : Hp} {v : V} {d : D} {xs : List D} (o : Ok p g m H) (r : Rep p.K g v d) (h : seqD d = some xs) : ∃ tt a vs, v = .ref a ∧ SqX p.K tt H a vs ∧ ∀ g' m' H', pst g0 H0 any g H g' H' → Ok p g' m' H' → SqX p.K tt H' a vs ∧ RepL p.K g' vs xs := by
  cases r with
  | tup h1 h2 =>
    cases h
    exact ⟨true, _, _, rfl, SqT.of (o.fh _ _ h1), tup_at h1 h2⟩
  | lst h1 h2 =>
    cases h
    exact ⟨false, _, _, rfl, SqL.of (o.fh _ _ h1), lst_at h1 h2⟩
  | _ => cases h
theorem i_enumA {p tpos : Pos} {elts : List Expr} {kk : Nat} (hK : X.K = fr.p.K) (hg : Gl X "enumerate") (hm : X.mg "enumerate" = none) (ha : PA X [e] (TLg fr (lA fr.p.K) fs)) (hs : starEach [e] X.env = [(false, eval e X.env)]) : PI X (.Tuple elts kk tpos) (.Call (.Name "enumerate" p) [e] [] pos) (TIt fr true (evI enm1 fs)) :=
  pi_weak (pi_enX hg hm ha hs) fun s H Rr ⟨rho, g, m, rl, w⟩ => ⟨rho, g, m, rl, wp_mono (wp_bnd.mp w) (fun ds m1 w1 vs g1 H1 e1 o1 r1 => by
    obtain ⟨xs, hx, q⟩ := wp_lift.mp w1
    unfold enm1 at hx
    split at hx
    · obtain ⟨v, rfl, r⟩ := RepAL.one r1
      rename_i d
      cases hd : seqD d with
      | none => rw [hd] at hx; cases hx
      | some ys =>
        rw [hd] at hx
        cases hx
        obtain ⟨tt, a, us, rfl, h, t⟩ := seqA_at (g0 := fr.g0) (H0 := fr.H0) o1 r hd
        refine ⟨tt, a, us, rfl, by rw [hK]; exact h, ?_⟩
        rw [hK]
        exact q _ g1 H1 e1 o1 (it_enum t)
    · cases hx) fun _ _ z => z⟩
theorem i_enumZ {any : Bool} {p tpos : Pos} {elts : List Expr} {kk : Nat} (hK : X.K = fr.p.K) (hg : Gl X "enumerate") (hm : X.mg "enumerate" = none) (ha : PA X [e] (TLg fr (lZ fr.p.K) fs)) (hs : starEach [e] X.env = [(false, eval e X.env)]) : PI X (.Tuple elts kk tpos) (.Call (.Name "enumerate" p) [e] [] pos) (TIt fr any (evI enm1 fs)) :=
  pi_weak (pi_enX hg hm ha hs) fun s H Rr ⟨rho, g, m, rl, w⟩ => ⟨rho, g, m, rl, wp_mono (wp_bnd.mp w) (fun ds m1 w1 vs g1 H1 e1 o1 r1 => by
    obtain ⟨xs, hx, q⟩ := wp_lift.mp w1
    unfold enm1 at hx
    split at hx
    · have r1 : RepL fr.p.K g1 vs _ := r1
      cases r1 with
      | cons r t =>
        cases t
        rename_i d v
        cases hd : seqD d with
        | none => rw [hd] at hx; cases hx
        | some ys =>
          rw [hd] at hx
          cases hx
          obtain ⟨tt, a, us, rfl, h, t⟩ := seqZ_at (g0 := fr.g0) (H0 := fr.H0) (any := any) o1 r hd
          refine ⟨tt, a, us, rfl, by rw [hK]; exact h, ?_⟩
          rw [hK]
          exact q _ g1 H1 e1 o1 (it_enum t)
    · cases hx) fun _ _ z => z⟩
def zipD (xs ys : List D) : List D := List.zipWith (fun x y => .tup [x, y]) xs ys
def zip2 : List D → Option (List D)
  | [d, e] => (seqD d).bind fun xs => (seqD e).map fun ys => zipD xs ys
  | _ => none
theorem it_zip {p : Par} {P : Gh → Hp → Prop} {tt uu : Bool} {a b : Addr} {vs us : List V} {ds es : List D} (hq : ∀ g m H, P g H → Ok p g m H → SqX p.K tt H a vs ∧ RepL p.K g vs ds) (hq2 : ∀ g m H, P g H → Ok p g m H → SqX p.K uu H b us ∧ RepL p.K g us es) : ItOn p P (ItzX p.K tt uu a b) (zipD ds es) := by
  intro i g m H hp o
  obtain ⟨h1, h2⟩ := hq g m H hp o
  obtain ⟨k1, k2⟩ := hq2 g m H hp o
  refine ⟨fun d hd => ?_, fun hl => ⟨vs, us, h1, k1, by rw [h2.length, k2.length]; simp [zipD] at hl; omega⟩⟩
  unfold zipD at hd
  rw [List.getElem?_zipWith] at hd
  cases q1 : ds[i]? with
  | none => rw [q1] at hd; simp at hd
  | some x =>
    cases q2 : es[i]? with
    | none => rw [q1, q2] at hd; simp at hd
    | some y =>
      rw [q1, q2] at hd
      cases hd
      obtain ⟨v, e1, e2⟩ := h2.get q1
      obtain ⟨u, f1, f2⟩ := k2.get q2
      refine ⟨⟨vs, us, v, u, h1, k1, e1, f1⟩, fun w H2 z => ?_⟩
      obtain ⟨T, v', u', rfl, hT, rfl, z1, z2⟩ := z
      have e3 := z1 vs h1
      rw [e1] at e3
      cases e3
      have e4 := z2 us k1
      rw [f1] at e4
      cases e4
      obtain ⟨o2, x2⟩ := o.new hT (.tup [v, u])
      exact ⟨_, o2, x2, .tup (show upd g.F T _ T = _ from upd_same) (.cons (e2.mono (Le.put (o.fnone hT))) (.cons (f2.mono (Le.put (o.fnone hT))) .nil))⟩
theorem zip2_some {ds : List D} {xs : List D} (h : zip2 ds = some xs) : ∃ d e ys zs, ds = [d, e] ∧ seqD d = some ys ∧ seqD e = some zs ∧ xs = zipD ys zs := by
  unfold zip2 at h
  split at h
  · rename_i d e
    cases q : seqD d with
    | none => rw [q] at h; cases h
    | some ys =>
      rw [q] at h
      cases z : seqD e with
      | none => rw [z] at h; cases h
      | some zs =>
        rw [z] at h
        cases h
        exact ⟨d, e, ys, zs, rfl, q, z, rfl⟩
  · cases h
theorem i_zipA {p tpos : Pos} {elts : List Expr} {kk : Nat} (hK : X.K = fr.p.K) (hg : Gl X "zip") (hm : X.mg "zip" = none) (ha : PA X [a, e] (TLg fr (lA fr.p.K) fs)) (hs : starEach [a, e] X.env = (false, eval a X.env) :: starEach [e] X.env) (hpl : (backTo pos (starEach [e] X.env)).any (·.1) = false) : PI X (.Tuple elts kk tpos) (.Call (.Name "zip" p) [a, e] [] pos) (TIt fr true (evI zip2 fs)) :=
  pi_weak (pi_ziX hg hm ha hs hpl) fun s H Rr ⟨rho, g, m, rl, w⟩ => ⟨rho, g, m, rl, wp_mono (wp_bnd.mp w) (fun ds m1 w1 vs g1 H1 e1 o1 r1 => by
    obtain ⟨xs, hx, q⟩ := wp_lift.mp w1
    obtain ⟨d, e, ys, zs, rfl, hd, he, rfl⟩ := zip2_some hx
    obtain ⟨v, u, rfl, r, r'⟩ := RepAL.two r1
    obtain ⟨tt, a, us, rfl, h, t⟩ := seqA_at (g0 := fr.g0) (H0 := fr.H0) o1 r hd
    obtain ⟨uu, b, us', rfl, h', t'⟩ := seqA_at (g0 := fr.g0) (H0 := fr.H0) o1 r' he
    refine ⟨tt, uu, a, b, us, us', rfl, by rw [hK]; exact h, by rw [hK]; exact h', ?_⟩
    rw [hK]
    exact q _ g1 H1 e1 o1 (it_zip t t')) fun _ _ z => z⟩
theorem i_zipZ {any : Bool} {p tpos : Pos} {elts : List Expr} {kk : Nat} (hK : X.K = fr.p.K) (hg : Gl X "zip") (hm : X.mg "zip" = none) (ha : PA X [a, e] (TLg fr (lZ fr.p.K) fs)) (hs : starEach [a, e] X.env = (false, eval a X.env) :: starEach [e] X.env) (hpl : (backTo pos (starEach [e] X.env)).any (·.1) = false) : PI X (.Tuple elts kk tpos) (.Call (.Name "zip" p) [a, e] [] pos) (TIt fr any (evI zip2 fs)) :=
  pi_weak (pi_ziX hg hm ha hs hpl) fun s H Rr ⟨rho, g, m, rl, w⟩ => ⟨rho, g, m, rl, wp_mono (wp_bnd.mp w) (fun ds m1 w1 vs g1 H1 e1 o1 r1 => by
    obtain ⟨xs, hx, q⟩ := wp_lift.mp w1
    obtain ⟨d, e, ys, zs, rfl, hd, he, rfl⟩ := zip2_some hx
    have r1 : RepL fr.p.K g1 vs [d, e] := r1
    cases r1 with
    | cons r t =>
      cases t with
      | cons r' t =>
        cases t
        obtain ⟨tt, a, us, rfl, h, t⟩ := seqZ_at (g0 := fr.g0) (H0 := fr.H0) (any := any) o1 r hd
        obtain ⟨uu, b, us', rfl, h', t'⟩ := seqZ_at (g0 := fr.g0) (H0 := fr.H0) (any := any) o1 r' he
        refine ⟨tt, uu, a, b, us, us', rfl, by rw [hK]; exact h, by rw [hK]; exact h', ?_⟩
        rw [hK]
        exact q _ g1 H1 e1 o1 (it_zip t t')) fun _ _ z => z⟩
end
/-! ### targets -/
inductive Tg where
  | nm (i : Nat) | tp (is : List Nat) | tn (i : Nat) (is : List Nat)
  deriving DecidableEq
def setAll : List Nat → List D → En → Option En
  | [], [], rho => some rho
  | i :: is, d :: ds, rho => setAll is ds (rho.set i (some d))
  | _, _, _ => none
def bindN (i : Nat) (is : List Nat) (d : D) (rho : En) : Option En := match d with
  | .tup [x, .tup ds] => setAll is ds (rho.set i (some x))
  | _ => none
def Tg.bind (t : Tg) (d : D) (rho : En) : Option En := match t with
  | .nm i => some (rho.set i (some d))
  | .tp is => (match d with
    | .tup ds => setAll is ds rho
    | _ => none)
  | .tn i is => bindN i is d rho
def Tg.sl : Tg → List Nat
  | .nm i => [i]
  | .tp is => is
  | .tn i is => i :: is
theorem wipe_get (s : St) : ∀ (vs : List Nat) (j : Nat), (wipe s vs)[j]? = if j ∈ vs then (s[j]?).map (fun _ => none) else s[j]?
  | [], j => by simp [wipe]
  | v :: vs, j => by
    unfold wipe
    have ih := wipe_get s vs j
    by_cases e : v = j
    · subst e
      by_cases hl : v < s.length
      · rw [List.getElem?_set_self (by rw [wipe_length]; exact hl)]
        simp [hl]
      · rw [List.getElem?_eq_none (by rw [List.length_set, wipe_length]; omega)]
        have : s[v]? = none := List.getElem?_eq_none (by omega)
        simp [this]
    · rw [List.getElem?_set_ne e, ih]
      have : (j ∈ v :: vs) ↔ j ∈ vs := by
        rw [List.mem_cons]
        exact ⟨fun z => z.resolve_left fun y => e y.symm, .inr⟩
      by_cases h : j ∈ vs
      · simp [h]
      · rw [if_neg h, if_neg (fun z => h (this.mp z))]
theorem wipe_set {s : St} {vs : List Nat} {i : Nat} {x : Option V} (h : i ∈ vs) : wipe (s.set i x) vs = wipe s vs := by
  apply List.ext_getElem?
  intro j
  rw [wipe_get, wipe_get]
  by_cases e : i = j
  · subst e
    rw [if_pos h, if_pos h]
    by_cases hl : i < s.length
    · rw [List.getElem?_set_self hl]
      simp [hl]
    · have : s.length ≤ i := by omega
      simp [this]
  · rw [List.getElem?_set_ne e]
def TgOk (fr : Fr) (G : TG) (t : Tg) : Prop := ∀ (g : Gh) (H : Hp) (rho : En) (m : Store) (s : St) (v : V) (d : D) (rho' : En) (Q : St → Hp → Prop), Rl fr g H rho m s → Rep fr.p.K g v d → t.bind d rho = some rho' →
  (∀ s', (∀ vs, (∀ i ∈ t.sl, i ∈ vs) → wipe s' vs = wipe s vs) → Rl fr g H rho' m s' → Q s' H) → G v s H Q
theorem tg_nm {fr : Fr} {i : Nat} (hm : fr.md i = .frz) : TgOk fr (gName i) (.nm i) := by
  intro g H rho m s v d rho' Q r rv e q
  cases e
  exact q _ (fun vs h => wipe_set (h i (by simp [Tg.sl]))) (r.setZ hm rv)
def gNames : List Nat → TGs
  | [] => gNil
  | i :: is => gCons (gName i) (gNames is)
theorem tg_names {fr : Fr} {g : Gh} {H : Hp} {m : Store} : ∀ {is : List Nat} {ds : List D} {vs : List V} {rho rho' : En} {s : St} {Q : St → Hp → Prop}, (∀ i ∈ is, fr.md i = .frz) → Rl fr g H rho m s → RepL fr.p.K g vs ds → setAll is ds rho = some rho' →
    (∀ s', (∀ ws, (∀ i ∈ is, i ∈ ws) → wipe s' ws = wipe s ws) → Rl fr g H rho' m s' → Q s' H) → gNames is vs s H Q
  | [], [], _, _, _, _, _, _, r, .nil, e, q => by
    cases e
    exact ⟨rfl, q _ (fun _ _ => rfl) r⟩
  | i :: is, d :: ds, _, rho, _, s, Q, hm, r, .cons h t, e, q => by
    refine ⟨_, _, rfl, tg_names (fun j hj => hm j (List.mem_cons_of_mem _ hj)) (r.setZ (hm i (List.mem_cons_self ..)) h) t e fun s' hw r' => q s' (fun ws hs => ?_) r'⟩
    rw [hw ws fun j hj => hs j (List.mem_cons_of_mem _ hj)]
    exact wipe_set (hs i (List.mem_cons_self ..))
  | [], _ :: _, _, _, _, _, _, _, _, _, e, _ => by cases e
  | _ :: _, [], _, _, _, _, _, _, _, _, e, _ => by cases e
theorem setAll_len : ∀ {is : List Nat} {ds : List D} {rho rho' : En}, setAll is ds rho = some rho' → is.length = ds.length
  | [], [], _, _, _ => rfl
  | i :: is, d :: ds, rho, rho', e => congrArg Nat.succ (setAll_len (show setAll is ds (rho.set i (some d)) = some rho' from e))
  | [], _ :: _, _, _, e => by cases e
  | _ :: _, [], _, _, e => by cases e
theorem tg_tp {fr : Fr} {is : List Nat} (hm : ∀ i ∈ is, fr.md i = .frz) : TgOk fr (gTup fr.p.K is.length (gNames is)) (.tp is) := by
  intro g H rho m s v d rho' Q r rv e q
  unfold Tg.bind at e
  cases d with
  | tup ds =>
    cases rv with
    | tup h t => exact ⟨_, _, rfl, SqT.of (r.ok.fh _ _ h), by rw [t.length]; exact (setAll_len e).symm, tg_names hm r t e q⟩
  | _ => cases e
theorem tg_tn {fr : Fr} {i : Nat} {is : List Nat} (h0 : fr.md i = .frz) (hm : ∀ i ∈ is, fr.md i = .frz) : TgOk fr (gTup fr.p.K 2 (gCons (gName i) (gCons (gTup fr.p.K is.length (gNames is)) gNil))) (.tn i is) := by
  intro g H rho m s v d rho' Q r rv e q
  have e : bindN i is d rho = some rho' := e
  unfold bindN at e
  split at e
  · cases rv with
    | tup h t =>
      cases t with
      | cons t1 t2 =>
        cases t2 with
        | cons t3 t4 =>
          cases t4
          refine ⟨_, _, rfl, SqT.of (r.ok.fh _ _ h), rfl, _, _, rfl, ?_⟩
          cases t3 with
          | tup h3 t5 =>
            refine ⟨_, _, rfl, _, _, rfl, SqT.of (r.ok.fh _ _ h3), by rw [t5.length]; exact (setAll_len e).symm, ?_⟩
            refine tg_names hm (r.setZ h0 t1) t5 e fun s' hw r' => ⟨rfl, q s' (fun ws hs => ?_) r'⟩
            rw [hw ws fun j hj => hs j (List.mem_cons_of_mem _ hj)]
            exact wipe_set (hs i (List.mem_cons_self ..))
  · cases e
/-! ### for -/
def forS (t : Tg) (F : SM) : List D → SM
  | [] => fun rho m => .nx rho m
  | d :: ds => fun rho m => match t.bind d rho with
    | none => .bad
    | some rho' => cont (forS t F ds) (F rho' m)
def forT (fi : En → M (List D)) (t : Tg) (F : SM) : SM := fun rho => exS (fi rho) rho fun xs m => forS t F xs rho m
section
variable {X : Cx} {fr : Fr} {rk : VR} {tg iter : Expr} {body : List Stmt} {pos : Pos} {fi : En → M (List D)} {G : TG} {t : Tg} {F : SM}
theorem s_for (hp : PassesOwn (model X.prog X.w) X.A X.env X.xe) (hc : X.calm = true) (hi : PI X tg iter (TIt fr false fi)) (hg : PG X tg G) (hG : TgOk fr G t) (hb : PSs X body (TSt fr rk F)) (hs : ∀ x, foldedSetIterable iter X.env x = pure x) :
    PS X (.For tg iter body [] pos) (TSt fr rk (forT fi t F)) := ps_weak (ps_for hp hc hi hg hb hs) fun Dn s H ⟨rho, g, m, r, w⟩ => by
  refine ⟨rho, g, m, r, wp_mono (exS_wp w) (fun xs m1 q J g1 H1 e1 o1 it => ?_) fun c m' q => excE r q⟩
  refine ⟨fun i k s H => i ≤ xs.length ∧ k = xs.length - i ∧ ∃ rho g m, Le g1 g ∧ Rl fr g H rho m s ∧ RsW fr rk Dn g (forS t F (xs.drop i) rho m), ⟨xs.length, Nat.zero_le _, rfl, rho, g1, m1, Le.refl g1, r.ext e1 o1, q.le e1.le⟩, fun i k s H => ?_⟩
  rintro ⟨hi, hk, rho, g, m, l, r, w⟩
  have itn := it i g m H (show pst fr.g0 fr.H0 false g1 H1 g H from ⟨l, r.ent⟩) r.ok
  by_cases hlt : i < xs.length
  · refine .inr ?_
    have hd : xs.drop i = xs[i] :: xs.drop (i + 1) := List.drop_eq_getElem_cons hlt
    rw [hd] at w
    obtain ⟨go, yl⟩ := itn.1 xs[i] (List.getElem?_eq_getElem hlt)
    refine ⟨go, fun s' H' => i + 1 ≤ xs.length ∧ ∃ rho g m, Le g1 g ∧ Rl fr g H' rho m s' ∧ RsW fr rk Dn g (forS t F (xs.drop (i + 1)) rho m), fun s' H' ⟨h1, z⟩ => ⟨xs.length - (i + 1), by omega, h1, rfl, z⟩, fun v H' y => ?_⟩
    obtain ⟨g2, o2, e2, rv⟩ := yl v H' y
    have w' : RsW fr rk Dn g (match t.bind xs[i] rho with
      | none => .bad
      | some rho' => cont (forS t F (xs.drop (i + 1))) (F rho' m)) := w
    cases hb' : t.bind xs[i] rho with
    | none => rw [hb'] at w'; exact absurd w' (fun z => z)
    | some rho' =>
      rw [hb'] at w'
      have w' : RsW fr rk Dn g (cont (forS t F (xs.drop (i + 1))) (F rho' m)) := w'
      refine hG g2 H' rho m s v xs[i] rho' _ (r.ext e2 o2) rv hb' fun s' _ r' => ⟨rho', g2, m, r', ?_⟩
      cases z : F rho' m with
      | nx r2 m2 => rw [z] at w'; exact fun s3 g3 H3 l3 r3 => ⟨hlt, r2, g3, m2, l.trans (e2.le.trans l3), r3, w'.le (e2.le.trans l3)⟩
      | ct r2 m2 => rw [z] at w'; exact fun s3 g3 H3 l3 r3 => ⟨hlt, r2, g3, m2, l.trans (e2.le.trans l3), r3, w'.le (e2.le.trans l3)⟩
      | bk r2 m2 => rw [z] at w'; exact w'.le e2.le
      | rt d m2 => rw [z] at w'; exact w'
      | exc c r2 m2 => rw [z] at w'; exact w'.le e2.le
      | bad => rw [z] at w'; exact w'
  · have e : i = xs.length := by omega
    subst e
    rw [List.drop_length] at w
    exact .inl ⟨itn.2 (Nat.le_refl _), w s g H (Le.refl g) r⟩
end
end PF
namespace PF
open PySem L2
/-! ### comprehensions -/
def noX {α : Type} (x : M α) : M α := fun m => match x m with
  | .ok a m' => .ok a m'
  | .exc _ _ => .bad
  | .bad => .bad
theorem wp_noX {α : Type} {x : M α} {m : Store} {P : α → Store → Prop} {E : Nat → Store → Prop} (h : (noX x m).wp P E) : (x m).wp P (fun _ _ => False) := by
  unfold noX R.wp at *
  cases q : x m with
  | ok a m' => rw [q] at h; exact h
  | exc c m' => rw [q] at h; exact h
  | bad => rw [q] at h; exact h
/-- what the items give: the target bound, the test, the element -/
def compL (t : Tg) (c : En → M Bool) (f : En → M D) (rho : En) : List D → M (List D)
  | [] => ret []
  | d :: ds => match t.bind d rho with
    | none => fun _ => .bad
    | some rho' => bnd (noX (c rho')) fun b => if b = true then bnd (noX (f rho')) fun y => bnd (compL t c f rho ds) fun ys => ret (y :: ys) else compL t c f rho ds
def wipeE (rho : En) : List Nat → En
  | [] => rho
  | v :: vs => (wipeE rho vs).set v none
theorem Rl.wipe {fr : Fr} {g : Gh} {H : Hp} {rho : En} {m : Store} {s : St} (r : Rl fr g H rho m s) : ∀ vs : List Nat, Rl fr g H (wipeE rho vs) m (L2.wipe s vs)
  | [] => r
  | v :: vs => (Rl.wipe r vs).unset
def evComp (fi : En → M (List D)) (t : Tg) (c : En → M Bool) (f : En → M D) (vs : List Nat) (rho : En) : M D :=
  bnd (fi rho) fun xs => bnd (lift (if xs.length ≤ sizeLine then some () else none)) fun _ => bnd (compL t c f (wipeE rho vs) xs) fun ys => ret (.lst ys)
abbrev Fr.still (fr : Fr) : Fr := { fr with W := fun _ _ _ _ => False }
theorem Rl.still {fr : Fr} {g : Gh} {H : Hp} {rho : En} {m : Store} {s : St} (r : Rl fr g H rho m s) : Rl fr.still g H rho m s := ⟨r.ok, r.ent, r.len, r.val⟩
theorem Rl.unstill {fr : Fr} {g : Gh} {H : Hp} {rho : En} {m : Store} {s : St} (r : Rl fr.still g H rho m s) : Rl fr g H rho m s := ⟨r.ok, r.ent, r.len, r.val⟩
theorem Ext.later {g g' : Gh} {H H' : Hp} (e : Ext g H g' H') {a : Addr} (h : H a = none) (u : HO) : Ext g H g' (upd H' a u) := by
  refine ⟨e.le, fun b o z n => ?_, e.fn, e.bb, e.bn, fun b z => ?_⟩
  · rw [upd_ne (fun y => by rw [y, h] at z; cases z)]
    exact e.hh b o z n
  · by_cases y : b = a
    · rw [y, upd_same]; simp
    · rw [upd_ne y]; exact e.no b z
section
variable {X : Cx} {fr : Fr} {wi : TI} {G : TG} {t : Tg} {c : En → M Bool} {f : En → M D} {fi : En → M (List D)} {vs : List Nat}
theorem comp_ok (hG : TgOk fr.still G t) (hsl : ∀ i ∈ t.sl, i ∈ vs) (s : St) (H : Hp) (Q : VK) (h : TV fr (vF fr.p.K) (evComp fi t c f vs) s H Q) :
    tLc (TIt fr true fi) G (TB fr.still c) (TV fr.still (vZ fr.p.K) f) vs s H Q := by
  obtain ⟨rho, g, m, rl, w⟩ := h
  refine ⟨rho, g, m, rl, wp_mono (wp_bnd.mp w) (fun xs m1 w1 J g1 H1 e1 o1 it => ?_) fun _ _ z => z⟩
  obtain ⟨_, hz, w2⟩ := wp_lift.mp (wp_bnd.mp w1)
  have hz : xs.length ≤ sizeLine := by
    split at hz
    · assumption
    · cases hz
  have w3 := wp_bnd.mp w2
  intro Da hDa
  have hDH : H Da = none := e1.fresh hDa
  let Fin : List D → R (List D) → Prop := fun done r => r.wp (fun ys m' => Ans fr.p g m' H (.lst (done ++ ys)) Q) (OkE fr g H s)
  refine ⟨fun i k H' => i ≤ xs.length ∧ k = xs.length - i ∧ ∃ g' m' done acc, Ext g1 H1 g' H' ∧ Ok fr.p g' m' H' ∧ H' Da = some (.lst acc) ∧ g'.F Da = none ∧ g'.B Da = none ∧ RepL fr.p.K g' acc done ∧ done.length ≤ i ∧ Fin done (compL t c f (wipeE rho vs) (xs.drop i) m'), ⟨xs.length, Nat.zero_le _, rfl, ?_⟩, fun i k H' => ?_⟩
  · obtain ⟨o2, e2⟩ := o1.raw hDa (.lst [])
    exact ⟨g1, m1, [], [], e2, o2, upd_same, o1.fnone hDa, o1.bnone hDa, .nil, Nat.le_refl 0, by
      show (compL t c f (wipeE rho vs) xs m1).wp _ _
      exact wp_mono w3 (fun ys m' z => z) fun _ _ z => z⟩
  · rintro ⟨hi, hk, g', m', done, acc, e2, o2, hD, hF, hB, ra, hdl, fin⟩
    have itn := it i g' m' H' (show pst fr.g0 fr.H0 true g1 H1 g' H' from e2) o2
    by_cases hlt : i < xs.length
    · refine .inr ?_
      have hd : xs.drop i = xs[i] :: xs.drop (i + 1) := List.drop_eq_getElem_cons hlt
      rw [hd] at fin
      obtain ⟨go, yl⟩ := itn.1 xs[i] (List.getElem?_eq_getElem hlt)
      refine ⟨go, fun H2 => i + 1 ≤ xs.length ∧ ∃ g' m' done acc, Ext g1 H1 g' H2 ∧ Ok fr.p g' m' H2 ∧ H2 Da = some (.lst acc) ∧ g'.F Da = none ∧ g'.B Da = none ∧ RepL fr.p.K g' acc done ∧ done.length ≤ i + 1 ∧ Fin done (compL t c f (wipeE rho vs) (xs.drop (i + 1)) m'),
        fun H2 ⟨h1, z⟩ => ⟨xs.length - (i + 1), by omega, h1, rfl, z⟩, fun x H2 y => ?_⟩
      obtain ⟨g2, o3, e3, rx⟩ := yl x H2 y
      have fin' : Fin done ((match t.bind xs[i] (wipeE rho vs) with
        | none => fun _ => R.bad
        | some rho' => bnd (noX (c rho')) fun b => if b = true then bnd (noX (f rho')) fun y => bnd (compL t c f (wipeE rho vs) (xs.drop (i + 1))) fun ys => ret (y :: ys) else compL t c f (wipeE rho vs) (xs.drop (i + 1))) m') := fin
      cases hb : t.bind xs[i] (wipeE rho vs) with
      | none => rw [hb] at fin'; exact absurd fin' (fun z => z)
      | some rho' =>
        rw [hb] at fin'
        have fin2 : ((bnd (noX (c rho')) fun b => if b = true then bnd (noX (f rho')) fun y => bnd (compL t c f (wipeE rho vs) (xs.drop (i + 1))) fun ys => ret (y :: ys) else compL t c f (wipeE rho vs) (xs.drop (i + 1))) m').wp (fun ys m' => Ans fr.p g m' H (.lst (done ++ ys)) Q) (OkE fr g H s) := fin'
        have e13 := e2.trans e3
        have rw0 := ((rl.ext (e1.trans e13) o3).wipe vs).still
        have hDa2 : ∀ {g4 : Gh} {H4 : Hp}, Ext g2 H2 g4 H4 → H4 Da = some (.lst acc) ∧ g4.F Da = none ∧ g4.B Da = none := fun {g4 H4} e4 => by
          have z := e3.trans e4
          have n : H' Da ≠ none := by rw [hD]; simp
          exact ⟨z.hh _ _ hD hB, z.fn _ n hF, z.bn _ n hB⟩
        refine hG g2 H2 (wipeE rho vs) m' (L2.wipe s vs) x xs[i] rho' _ rw0 rx hb fun s' hw r' => ⟨?_, rho', g2, m', r', wp_mono (wp_noX (wp_bnd.mp fin2)) (fun b m4 w4 g4 H4 e4 o4 => ?_) fun _ _ z => z.elim⟩
        · rw [hw vs hsl]
          apply List.ext_getElem?
          intro j
          rw [wipe_get, wipe_get]
          split
          · cases s[j]? <;> simp
          · rfl
        cases b with
        | true =>
          rw [if_pos rfl] at w4 ⊢
          refine ⟨rho', g4, m4, r'.ext e4 o4, wp_mono (wp_noX (wp_bnd.mp w4)) (fun y m5 w5 v g5 H5 e5 o5 r5 => ?_) fun _ _ z => z.elim⟩
          have e45 := e4.trans e5
          obtain ⟨k1, k2, k3⟩ := hDa2 e45
          refine ⟨acc, k1, ?_, hlt, g5, m5, done ++ [y], acc ++ [v], (e13.trans e45).later hDa _, o5.mutL k1 k2 k3 _, upd_same, k2, k3, (ra.mono (e3.trans e45).le).append (.cons r5 .nil), by rw [List.length_append]; simp; omega, ?_⟩
          · have := ra.length
            omega
          · refine wp_mono (wp_bnd.mp w5) (fun ys m6 w6 => ?_) fun _ _ z => z
            rw [List.append_assoc]
            exact w6
        | false =>
          rw [if_neg Bool.false_ne_true] at w4 ⊢
          obtain ⟨k1, k2, k3⟩ := hDa2 e4
          exact ⟨hlt, g4, m4, done, acc, e13.trans e4, o4, k1, k2, k3, ra.mono (e3.trans e4).le, by omega, w4⟩
    · have e : i = xs.length := by omega
      subst e
      rw [List.drop_length] at fin
      have fin : Ans fr.p g m' H (.lst (done ++ [])) Q := fin
      rw [List.append_nil] at fin
      exact .inl ⟨itn.2 (Nat.le_refl _), fin _ g' H' (e1.trans e2) o2 ⟨Da, acc, rfl, hDH, hD, hF, hB, ra⟩⟩
theorem pts_weak {X : Cx} {ifs : List Expr} {t t' : TT} (h : PTs X ifs t) (hw : ∀ s H Q, t' s H Q → t s H Q) : PTs X ifs t' := ⟨fun pins s σ H Q I q => h.run pins s σ H Q I (hw σ H Q q)⟩
def yesB (_ : En) : M Bool := ret true
theorem ts_nil {X : Cx} : PTs X [] (TB fr yesB) := pts_weak pts_nil fun s H Q ⟨rho, g, m, r, w⟩ => w g H (Ext.refl g H) r.ok
end
section
variable {X : Cx} {fr : Fr} {rk : VR} {elt tg iter : Expr} {ifs : List Expr} {scope : Scope} {own : List (Str × Nat)} {pos : Pos} {G : TG} {t : Tg} {c : En → M Bool} {f : En → M D} {fi : En → M (List D)}
theorem e_comp (hc : X.calm = true) (hN : X.N.Nodup) (hi : PI X tg iter (TIt fr true fi)) (ok : BlkOk X.N X.env.scope scope own) (hG : TgOk fr.still G t) (hsl : ∀ i ∈ t.sl, i ∈ own.map (·.2))
    (hg : ∀ (s : Shared) (H : Hp) (C : Addr) (cl : List (Str × Addr)) (fp : List Addr), PG (X.blk s H scope (compEnvC scope cl C X.env) fp) tg G) (ht : ∀ (s : Shared) (H : Hp) (C : Addr) (cl : List (Str × Addr)) (fp : List Addr), PTs (X.blk s H scope (compEnvC scope cl C X.env) fp) ifs (TB fr.still c))
    (he : ∀ (s : Shared) (H : Hp) (C : Addr) (cl : List (Str × Addr)) (fp : List Addr), PE (X.blk s H scope (compEnvC scope cl C X.env) fp) elt (TV fr.still (vZ fr.p.K) f)) (hs : ∀ x, foldedSetIterable iter X.env x = pure x) :
    PE X (.ListComp elt [⟨tg, iter, ifs, 0⟩] scope pos) (TV fr (vF fr.p.K) (evComp fi t c f (own.map (·.2)))) := pe_weak (pe_lc hc hN hi ok hg ht he hs) (comp_ok hG hsl)
theorem s_setLcZ {i : Nat} {y : Str} {py spos : Pos} (hm : fr.md i = .frz) (hc : X.calm = true) (hN : X.N.Nodup) (hy : X.N[i]? = some y) (hyl : X.env.scope.names.lookup y = some .local)
    (hsw : swapsWith (.ListComp elt [⟨tg, iter, ifs, 0⟩] scope pos) (some (.Name y py)) spos.line X.env = pure true) (hi : PI X tg iter (TIt fr true fi)) (ok : BlkOk X.N X.env.scope scope own) (hG : TgOk fr.still G t) (hsl : ∀ i ∈ t.sl, i ∈ own.map (·.2))
    (hg : ∀ (s : Shared) (H : Hp) (C : Addr) (cl : List (Str × Addr)) (fp : List Addr), PG (X.blk s H scope (compEnvC scope cl C X.env) fp) tg G) (ht : ∀ (s : Shared) (H : Hp) (C : Addr) (cl : List (Str × Addr)) (fp : List Addr), PTs (X.blk s H scope (compEnvC scope cl C X.env) fp) ifs (TB fr.still c))
    (he : ∀ (s : Shared) (H : Hp) (C : Addr) (cl : List (Str × Addr)) (fp : List Addr), PE (X.blk s H scope (compEnvC scope cl C X.env) fp) elt (TV fr.still (vZ fr.p.K) f)) (hs : ∀ x, foldedSetIterable iter X.env x = pure x) :
    PS X (.Assign [.Name y py] (.ListComp elt [⟨tg, iter, ifs, 0⟩] scope pos) spos) (TSt fr rk (setS i (evComp fi t c f (own.map (·.2))))) := ps_weak (ps_setLc hc hN hy hyl hsw hi ok hg ht he hs) fun Dn s H ⟨rho, g, m, r, w⟩ =>
  comp_ok hG hsl s H _ ⟨rho, g, m, r, wp_mono (exS_wp w) (fun d m' q v g' H' e o z => by
    obtain ⟨g2, o2, e2, z2⟩ := RepF.frz o e z
    exact q _ g2 H' e2.le ((r.ext e2 o2).setZ hm z2)) fun c m' q => excE r q⟩
theorem s_setLcF {i : Nat} {y : Str} {py spos : Pos} (hm : fr.md i = .own) (hc : X.calm = true) (hN : X.N.Nodup) (hy : X.N[i]? = some y) (hyl : X.env.scope.names.lookup y = some .local)
    (hsw : swapsWith (.ListComp elt [⟨tg, iter, ifs, 0⟩] scope pos) (some (.Name y py)) spos.line X.env = pure true) (hi : PI X tg iter (TIt fr true fi)) (ok : BlkOk X.N X.env.scope scope own) (hG : TgOk fr.still G t) (hsl : ∀ i ∈ t.sl, i ∈ own.map (·.2))
    (hg : ∀ (s : Shared) (H : Hp) (C : Addr) (cl : List (Str × Addr)) (fp : List Addr), PG (X.blk s H scope (compEnvC scope cl C X.env) fp) tg G) (ht : ∀ (s : Shared) (H : Hp) (C : Addr) (cl : List (Str × Addr)) (fp : List Addr), PTs (X.blk s H scope (compEnvC scope cl C X.env) fp) ifs (TB fr.still c))
    (he : ∀ (s : Shared) (H : Hp) (C : Addr) (cl : List (Str × Addr)) (fp : List Addr), PE (X.blk s H scope (compEnvC scope cl C X.env) fp) elt (TV fr.still (vZ fr.p.K) f)) (hs : ∀ x, foldedSetIterable iter X.env x = pure x) :
    PS X (.Assign [.Name y py] (.ListComp elt [⟨tg, iter, ifs, 0⟩] scope pos) spos) (TSt fr rk (setS i (evComp fi t c f (own.map (·.2))))) := ps_weak (ps_setLc hc hN hy hyl hsw hi ok hg ht he hs) fun Dn s H ⟨rho, g, m, r, w⟩ =>
  comp_ok hG hsl s H _ ⟨rho, g, m, r, wp_mono (exS_wp w) (fun d m' q v g' H' e o z => q _ g' H' e.le (r.setF e o hm z)) fun c m' q => excE r q⟩
end
end PF
namespace PF
open PySem L2
/-! ### an own list changed -/
def lstAt (i : Nat) (rho : En) : M (List D) := lift (match rho[i]? with
  | some (some (.lst ds)) => some ds
  | _ => none)
theorem lstAt_some {i : Nat} {rho : En} {ds : List D} (h : (match rho[i]? with
  | some (some (.lst ds)) => some ds
  | _ => none) = some ds) : rho[i]? = some (some (.lst ds)) := by
  split at h
  · cases h; assumption
  · cases h
section
variable {X : Cx} {fr : Fr} {rk : VR} {a b e : Expr} {pos apos cpos p : Pos} {f fi : En → M D} {fs : En → M (List D)} {i : Nat} {x : Str}
def appS (i : Nat) (f : En → M D) : SM := fun rho => exS (bnd (lstAt i rho) fun ds => bnd (f rho) fun d => lift (if ds.length < sizeLine then some (.lst (ds ++ [d])) else none)) rho fun d m => .nx (rho.set i (some d)) m
theorem Rl.own {fr : Fr} {g : Gh} {H : Hp} {rho : En} {m : Store} {s : St} (r : Rl fr g H rho m s) (hm : fr.md i = .own) {ds : List D} (hi : rho[i]? = some (some (.lst ds))) : ∃ a vs, s[i]? = some (some (.ref a)) ∧ H a = some (.lst vs) ∧ g.B a = none := by
  obtain ⟨a, vs, h1, h2, h3, _⟩ := r.mut (es := ds) hm hi
  exact ⟨a, vs, h1, h2, h3⟩
theorem s_append (hm : fr.md i = .own) (hN : X.N[i]? = some x) (hv : Vis X.env.scope x) (hd : (x == ("__debug__" : Str)) = false) (hcd : (x == ("__classdict__" : Str)) = false) (ha : PE X e (TV fr (vZ fr.p.K) f))
    (hse : starEach [e] X.env = (false, eval e X.env) :: starEach [] X.env)
    (hbase : attributeBase (.Name x p) "append" X.env (eval (.Name x p) X.env) = eval (.Name x p) X.env)
    (hfew : ((backTo cpos (starEach [e] X.env)).all (fun x => !x.1) && (backToKw cpos (keywordEach [] X.env)).all (fun x => x.1.isSome) && decide ([e].length + ([] : List Keyword).length + (if ([] : List Keyword).isEmpty then 0 else 1) < 30)) = true)
    (hline : (apos.endLine == cpos.line) = true) (hpl : (backTo cpos (starEach [] X.env)).any (·.1) = false) (hsw : swapsWith (.Call (.Attribute (.Name x p) "append" apos) [e] [] cpos) none pos.line X.env = pure false) :
    PS X (.Expr (.Call (.Attribute (.Name x p) "append" apos) [e] [] cpos) pos) (TSt fr rk (appS i f)) :=
  ps_weak (ps_expr (pe_bm PySem.F.plainAttrs_list PySem.F.slot_list_append PySem.F.type_list_append mt_append (pe_var hN hv hd hcd) (a_consZ ha (a_nil (P := lZ fr.p.K) fun _ _ => RepL.nil) hse) hbase hfew hline hse hpl) hsw) fun Dn s H ⟨rho, g, m, r, w⟩ => by
    obtain ⟨ds, hds, w1⟩ := wp_lift.mp (wp_bnd.mp (exS_wp w))
    have hi := lstAt_some hds
    obtain ⟨a, vs, h1, h2, h3⟩ := r.own hm hi
    refine ⟨.ref a, h1, .inl ⟨rfl, vs, SqL.of h2⟩, rho, g, m, r, ?_⟩
    show (bnd (f rho) _ m).wp _ _
    refine wp_bnd.mpr (wp_mono (wp_bnd.mp w1) (fun d m1 w2 => ?_) fun c m' q => excE r q)
    obtain ⟨dd, hdd, q⟩ := wp_lift.mp w2
    show ∀ vs g' H', _
    intro us g1 H1 e1 o1 ru
    have ru : RepL fr.p.K g1 us [d] := ru
    cases ru with
    | cons rv t =>
      cases t
      split at hdd
      · cases hdd
        rename_i hz
        have r1 := r.ext e1 o1
        obtain ⟨a', vs', k1, k2, k3, k4, k5⟩ := r1.mut (es := ds ++ [d]) hm hi
        rw [h1] at k1
        cases k1
        exact ⟨a, vs', _, rfl, rfl, k2, by rw [k4.length]; exact hz, q s g1 _ e1.le (k5 _ (k4.append (.cons rv .nil)))⟩
      · cases hdd
def extS (i : Nat) (f : En → M D) : SM := fun rho => exS (bnd (lstAt i rho) fun ds => bnd (f rho) fun d => lift (match d with
  | .lst es => if ds.length + es.length ≤ sizeLine then some (.lst (ds ++ es)) else none
  | .tup es => if ds.length + es.length ≤ sizeLine then some (.lst (ds ++ es)) else none
  | _ => none)) rho fun d m => .nx (rho.set i (some d)) m
theorem list_extend_tup (l : Addr) (items : Array Value) (n : Nat) (b : Addr) (items2 : Array Value) (n2 : Nat) (dd : Option Addr) (sl : Array (Option Value)) (hs0 : ¬(!items.isEmpty && Builtin.List.listTooLong (items.size + items2.size)) = true) (hs1 : items.size ≤ sizeLine) (hs2 : items.size + items2.size ≤ sizeLine + 1) :
    Meets (Builtin.«list.extend» ⟨[.ref l, .ref b], []⟩) (fun _ R s => s.heap.get? l = some { cls := .type "list", dict := none, data := .seq items n, slots := #[] } ∧ s.heap.get? b = some { cls := .type "tuple", dict := dd, data := .seq items2 n2, slots := sl } ∧ R (.ok (.ret Value.none)) { s with heap := s.heap.update l (Obj.mapSeq fun x => x ++ items2), toks := s.toks }) :=
  .of_wp fun prog w A R s h => by
    obtain ⟨hp, gg, d, tk, os⟩ := s
    obtain ⟨hl, hb, h⟩ := h
    have f1 := AutoSeq1.idx_int
    have f2 := AutoSeq1.sub_tuple_tuple
    have f3 := AutoSeq1.sub_list_list
    have f4 := AutoSeq1.sub_tuple_list
    have f5 := AutoSeq1.sub_list_tuple
    have hz' : (items ++ items2).size ≤ sizeLine + 1 := by rw [Array.size_append]; exact hs2
    wp_walk using (wpAny_updateSeq hl rfl (hz := hs1) (_hz' := hz')), wpAny_loadPart' hl, wpAny_loadPart' hb
    exact ⟨_, rfl, h⟩
def rExt2 (K : PySem.W.Frag) : V → List V → Hp → VK → Prop := fun x vs H Q => rExtend x vs H Q ∨ ∃ l b xs zs, x = .ref l ∧ vs = [.ref b] ∧ H l = some (.lst xs) ∧ SqT K H b zs ∧ xs.length + zs.length ≤ sizeLine ∧ Q .non (upd H l (.lst (xs ++ zs)))
theorem mt_ext2 {X : Cx} : MtM X "list.extend" (rExt2 X.K) := by
  intro pins s σ H x vs v us Q I rx rv h
  rcases h with h | ⟨l, b, xs, zs, rfl, rfl, hH, hB, hz, q⟩
  · exact mt_extend pins s σ H x vs v us Q I rx rv h
  · cases rx
    obtain ⟨u, rfl, ru⟩ := rv.one
    cases ru
    obtain ⟨z, its, n, r, hl, e⟩ := I.lstM hH
    obtain ⟨its2, r2, ht, hl2⟩ := I.tuple hB
    obtain ⟨⟨cls, dd, data, sl⟩, ho, hc, n2, hd⟩ := id ht
    simp only at hc hd
    subst hc hd
    have len2 := r2.length
    have hsz : its.toArray.size + its2.toArray.size ≤ sizeLine := by rw [List.size_toArray, List.size_toArray]; omega
    have hlong : ¬ (!its.toArray.isEmpty && Builtin.List.listTooLong (its.toArray.size + its2.toArray.size)) = true := by
      rw [notLongL hsz, Bool.and_false]
      exact Bool.false_ne_true
    refine call_meets F.slot_list_extend ⟨_, e, rfl⟩ F.entry_list_extend (F.args_list_extend_2 _ _)
      (list_extend_tup l its.toArray n b its2.toArray n2 dd sl hlong (by rw [List.size_toArray]; omega) (by omega)) ⟨e, ho, ?_⟩
    refine ⟨.non, _, I.lset (its' := its ++ its2) hH e (by simp) (r.append r2) ?_, rfl, q⟩
    rw [List.length_append]
    omega
theorem s_extend (hm : fr.md i = .own) (hN : X.N[i]? = some x) (hv : Vis X.env.scope x) (hd : (x == ("__debug__" : Str)) = false) (hcd : (x == ("__classdict__" : Str)) = false) (ha : PE X e (TV fr (vA fr.p.K) f))
    (hse : starEach [e] X.env = (false, eval e X.env) :: starEach [] X.env)
    (hbase : attributeBase (.Name x p) "extend" X.env (eval (.Name x p) X.env) = eval (.Name x p) X.env)
    (hfew : ((backTo cpos (starEach [e] X.env)).all (fun x => !x.1) && (backToKw cpos (keywordEach [] X.env)).all (fun x => x.1.isSome) && decide ([e].length + ([] : List Keyword).length + (if ([] : List Keyword).isEmpty then 0 else 1) < 30)) = true)
    (hline : (apos.endLine == cpos.line) = true) (hpl : (backTo cpos (starEach [] X.env)).any (·.1) = false) (hsw : swapsWith (.Call (.Attribute (.Name x p) "extend" apos) [e] [] cpos) none pos.line X.env = pure false) :
    PS X (.Expr (.Call (.Attribute (.Name x p) "extend" apos) [e] [] cpos) pos) (TSt fr rk (extS i f)) :=
  ps_weak (ps_expr (pe_bm PySem.F.plainAttrs_list PySem.F.slot_list_extend PySem.F.type_list_extend mt_ext2 (pe_var hN hv hd hcd) (a_consA ha (a_nil (P := lA fr.p.K) fun _ _ => Paired.nil) hse) hbase hfew hline hse hpl) hsw) fun Dn s H ⟨rho, g, m, r, w⟩ => by
    obtain ⟨ds, hds, w1⟩ := wp_lift.mp (wp_bnd.mp (exS_wp w))
    have hi := lstAt_some hds
    obtain ⟨a, vs, h1, h2, h3⟩ := r.own hm hi
    refine ⟨.ref a, h1, .inl ⟨rfl, vs, SqL.of h2⟩, rho, g, m, r, ?_⟩
    show (bnd (f rho) _ m).wp _ _
    refine wp_bnd.mpr (wp_mono (wp_bnd.mp w1) (fun d m1 w2 => ?_) fun c m' q => excE r q)
    obtain ⟨dd, hdd, q⟩ := wp_lift.mp w2
    show ∀ vs g' H', _
    intro us g1 H1 e1 o1 ru
    obtain ⟨v, rfl, rv⟩ := RepAL.one ru
    split at hdd
    · rename_i es
      split at hdd
      · cases hdd
        rename_i hz
        have r1 := r.ext e1 o1
        obtain ⟨b, us, rfl, l1, l2, l3⟩ := rv.lst
        obtain ⟨a', vs', k1, k2, k3, k4, k5⟩ := r1.mut (es := ds ++ es) hm hi
        rw [h1] at k1
        cases k1
        exact .inl ⟨a, b, vs', us, rfl, rfl, k2, l1, by rw [k4.length, l3.length]; exact hz, q s g1 _ e1.le (k5 _ (k4.append l3))⟩
      · cases hdd
    · rename_i es
      split at hdd
      · cases hdd
        rename_i hz
        have r1 := r.ext e1 o1
        obtain ⟨b, us, rfl, l1, l3⟩ := rv.tup
        obtain ⟨a', vs', k1, k2, k3, k4, k5⟩ := r1.mut (es := ds ++ es) hm hi
        rw [h1] at k1
        cases k1
        exact .inr ⟨a, b, vs', us, rfl, rfl, k2, o1.sqT l1, by rw [k4.length, l3.length]; exact hz, q s g1 _ e1.le (k5 _ (k4.append l3))⟩
      · cases hdd
    · cases hdd
/-! x[k] = e; x[k] += e -/
def putL (ds : List D) (k : D) (d : D) : Option D := match k with
  | .int j => (match ixN ds.length j with
    | some n => some (.lst (ds.set n d))
    | none => none)
  | _ => none
theorem putL_some {ds : List D} {k d dd : D} (h : putL ds k d = some dd) : ∃ j n, k = .int j ∧ ixN ds.length j = some n ∧ dd = .lst (ds.set n d) := by
  unfold putL at h
  split at h
  · split at h
    · cases h
      exact ⟨_, _, rfl, by assumption, rfl⟩
    · cases h
  · cases h
def putS (i : Nat) (fi f : En → M D) : SM := fun rho => exS (bnd (f rho) fun d => bnd (lstAt i rho) fun ds => bnd (fi rho) fun k => lift (putL ds k d)) rho fun d m => .nx (rho.set i (some d)) m
theorem s_put (hm : fr.md i = .own) (hN : X.N[i]? = some x) (hv : Vis X.env.scope x) (hd : (x == ("__debug__" : Str)) = false) (hcd : (x == ("__classdict__" : Str)) = false) (ha : PE X e (TV fr (vZ fr.p.K) f)) (hb : PE X b (TV fr (vA fr.p.K) fi))
    (hset : ∀ v, assign (.Subscript (.Name x p) b apos) X.env v = (do
      let ov ← holding [v] (eval (.Name x p) X.env)
      let iv ← holding [v, ov] (eval b X.env)
      standAt apos
      holding [v, ov, iv] (setItem ov iv v)
      release [v, ov, iv] []))
    (hs : swapsWithSole [.Subscript (.Name x p) b apos] e pos.line X.env = pure false) (hw : swappedStores [.Subscript (.Name x p) b apos] e X.env = pure none) (h1 : (assignEach [.Subscript (.Name x p) b apos] X.env).map (·.2) = [assign (.Subscript (.Name x p) b apos) X.env]) :
    PS X (.Assign [.Subscript (.Name x p) b apos] e pos) (TSt fr rk (putS i fi f)) :=
  ps_weak (ps_asg ha (pg_sub (pe_var hN hv hd hcd) hb set_list hset) hs hw h1) fun Dn s H ⟨rho, g, m, r, w⟩ => by
    refine ⟨rho, g, m, r, wp_mono (wp_bnd.mp (exS_wp w)) (fun d m1 w1 v g1 H1 e1 o1 rv => ?_) fun c m' q => excE r q⟩
    obtain ⟨ds, hds, w2⟩ := wp_lift.mp (wp_bnd.mp w1)
    have hi := lstAt_some hds
    have r1 := r.ext e1 o1
    obtain ⟨a, vs, k1, k2, k3⟩ := r1.own hm hi
    refine ⟨.ref a, k1, rho, g1, m1, r1, wp_mono (wp_bnd.mp w2) (fun k m2 w3 kv g2 H2 e2 o2 rk2 => ?_) fun c m' q => excE r1 (fun s g3 H l r3 => q s g3 H (e1.le.trans l) r3)⟩
    obtain ⟨dd, hdd, q⟩ := wp_lift.mp w3
    obtain ⟨j, n, rfl, hj, rfl⟩ := putL_some hdd
    have rk2 : RepA _ _ _ _ _ := rk2
    rw [rk2.int]
    have r2 := r1.ext e2 o2
    obtain ⟨a', vs', l1, l2, l3, l4, l5⟩ := r2.mut (es := ds.set n d) hm hi
    rw [k1] at l1
    cases l1
    exact ⟨a, vs', j, n, rfl, rfl, l2, by rw [l4.length]; exact hj, q s g2 _ (e1.le.trans e2.le) (l5 _ (l4.set (Rep.mono e2.le rv) n))⟩
theorem get_list : PGet X (fun o i H Q => ∃ p xs k v, o = .ref p ∧ i = .int k ∧ SqL X.K H p xs ∧ atI xs k = some v ∧ Q v H) := by
  intro pins s σ H o i ov iv Q I ro ri h
  obtain ⟨p, xs, k, z, rfl, rfl, hq, he, q⟩ := h
  have e1 : ov = Value.ref p := ro
  subst e1
  obtain ⟨t, rfl⟩ := ri
  obtain ⟨its, r, pl, hz⟩ := I.list hq
  obtain ⟨j, h1, h2, h3, h4, h5⟩ := atI_get he
  obtain ⟨w, ew, rw'⟩ := r.get h2
  have hl := r.length
  have hn := line63
  by_cases h0 : 0 ≤ k
  · have hj : k.toNat = j := by
      have z1 : seqIndex? k xs.length = some k.toNat := PySem.StrLaws.seqIndex_nonneg h0 h5
      rw [z1] at h1
      exact Option.some.inj h1
    exact wpAny_getItem_list pl.isList h0 (by omega) (x := w) (by rw [hj]; simpa using ew) ⟨z, H, I, rw', q⟩
  · have hj : (k + (its.toArray.size : Int)).toNat = j := by
      have z2 : ixN xs.length k = some j := by
        unfold atI at he
        unfold ixN at he ⊢
        rw [if_neg h0, if_pos (by omega)] at he ⊢
        have z3 := (ixN_seq (n := xs.length) (i := k) (j := (k + xs.length).toNat) (by unfold ixN; rw [if_neg h0, if_pos (by omega)])).1
        rw [z3] at h1
        exact h1
      unfold ixN at z2
      rw [if_neg h0, if_pos (by omega)] at z2
      rw [List.size_toArray, ← hl]
      exact Option.some.inj z2
    exact wpAny_getItem_list_neg pl.isList (by omega) (by rw [List.size_toArray]; omega) (by omega) (x := w) (by rw [hj]; simpa using ew) ⟨z, H, I, rw', q⟩
def augPutS (sub : Bool) (i : Nat) (fi f : En → M D) : SM := fun rho => exS (bnd (lstAt i rho) fun ds => bnd (fi rho) fun k => bnd (lift (ixD (.lst ds) k)) fun old => bnd (f rho) fun y => bnd (lift (augI sub old y)) fun d => lift (putL ds k d)) rho fun d m => .nx (rho.set i (some d)) m
theorem augPut_ok {sub : Bool} (hK : X.K = fr.p.K) (hm : fr.md i = .own) (Dn : Ends) (s : St) (H : Hp) (h : TSt fr rk (augPutS sub i fi f) Dn s H) :
    tAugS (tVar i) (TV fr (vA fr.p.K) fi) (TV fr (vA fr.p.K) f) (fun o i H Q => ∃ p xs k v, o = .ref p ∧ i = .int k ∧ SqL X.K H p xs ∧ atI xs k = some v ∧ Q v H) (ipI (fun i j => if sub then i - j else i + j)) rSetL Dn s H := by
  obtain ⟨rho, g, m, r, w⟩ := h
  obtain ⟨ds, hds, w1⟩ := wp_lift.mp (wp_bnd.mp (exS_wp w))
  have hi := lstAt_some hds
  obtain ⟨a, vs, h1, h2, h3⟩ := r.own hm hi
  refine ⟨.ref a, h1, rho, g, m, r, wp_mono (wp_bnd.mp w1) (fun k m1 w2 kv g1 H1 e1 o1 rk1 => ?_) fun c m' q => excE r q⟩
  obtain ⟨old, hold, w3⟩ := wp_lift.mp (wp_bnd.mp w2)
  have r1 := r.ext e1 o1
  obtain ⟨a1, vs1, k1, k2, k3, k4, _⟩ := r1.mut (es := ds) hm hi
  rw [h1] at k1
  cases k1
  have rk1 : RepA _ _ _ _ _ := rk1
  cases k with
  | int j =>
    have hold : atI ds j = some old := hold
    rw [rk1.int]
    obtain ⟨ov, q1, q2⟩ := atI_rep k4 hold
    refine ⟨a, vs1, j, ov, rfl, rfl, SqL.of k2, q1, rho, g1, m1, r1, wp_mono (wp_bnd.mp w3) (fun y m2 w4 yv g2 H2 e2 o2 ry => ?_) fun c m' q => excE r1 (fun s g3 H l r3 => q s g3 H (e1.le.trans l) r3)⟩
    obtain ⟨d, hd, w5⟩ := wp_lift.mp (wp_bnd.mp w4)
    obtain ⟨dd, hdd, q⟩ := wp_lift.mp w5
    obtain ⟨j', n, ej, hj, rfl⟩ := putL_some hdd
    cases ej
    have ry : RepA _ _ _ _ _ := ry
    unfold augI at hd
    split at hd
    · cases hd
      have q2' := Rep.mono e2.le q2
      cases q2'
      rw [ry.int]
      have r2 := r1.ext e2 o2
      obtain ⟨a2, vs2, l1, l2, l3, l4, l5⟩ := r2.mut (es := ds.set n _) hm hi
      rw [h1] at l1
      cases l1
      exact ⟨_, _, rfl, rfl, a, vs2, j, n, rfl, rfl, l2, by rw [l4.length]; exact hj, q s g2 _ (e1.le.trans e2.le) (l5 _ (l4.set (.int _) n))⟩
    · cases hd
  | _ => cases hold
theorem s_augPutA {tpos : Pos} (hK : X.K = fr.p.K) (hm : fr.md i = .own) (hN : X.N[i]? = some x) (hv : Vis X.env.scope x) (hd : (x == ("__debug__" : Str)) = false) (hcd : (x == ("__classdict__" : Str)) = false) (ha : PE X e (TV fr (vA fr.p.K) f)) (hb : PE X b (TV fr (vA fr.p.K) fi))
    (has : ∀ ov iv new, augStore b ov iv new = (do holding [new, ov, iv] (setItem ov iv new); release [new, ov, iv] []; pure .next)) :
    PS X (.AugAssign (.Subscript (.Name x p) b tpos) .Add e pos) (TSt fr rk (augPutS false i fi f)) := ps_weak (ps_augS (pe_var hN hv hd hcd) hb get_list ha ip_add set_list has) fun Dn s H h => augPut_ok (sub := false) hK hm Dn s H h
theorem s_augPutM {tpos : Pos} (hK : X.K = fr.p.K) (hm : fr.md i = .own) (hN : X.N[i]? = some x) (hv : Vis X.env.scope x) (hd : (x == ("__debug__" : Str)) = false) (hcd : (x == ("__classdict__" : Str)) = false) (ha : PE X e (TV fr (vA fr.p.K) f)) (hb : PE X b (TV fr (vA fr.p.K) fi))
    (has : ∀ ov iv new, augStore b ov iv new = (do holding [new, ov, iv] (setItem ov iv new); release [new, ov, iv] []; pure .next)) :
    PS X (.AugAssign (.Subscript (.Name x p) b tpos) .Sub e pos) (TSt fr rk (augPutS true i fi f)) := ps_weak (ps_augS (pe_var hN hv hd hcd) hb get_list ha ip_sub set_list has) fun Dn s H h => augPut_ok (sub := true) hK hm Dn s H h
/-! several names -/
def unpS (t : Tg) (f : En → M D) : SM := fun rho => exS (f rho) rho fun d m => match t.bind d rho with
  | some rho' => .nx rho' m
  | none => .bad
theorem s_unpack {tg : Expr} {t : Tg} {G : TG} (hG : TgOk fr G t) (hg : PG X tg G) (ha : PE X e (TV fr (vZ fr.p.K) f)) (hs : swapsWithSole [tg] e pos.line X.env = pure false) (hw : swappedStores [tg] e X.env = pure none) (h1 : (assignEach [tg] X.env).map (·.2) = [assign tg X.env]) :
    PS X (.Assign [tg] e pos) (TSt fr rk (unpS t f)) := ps_weak (ps_asg ha hg hs hw h1) fun Dn s H ⟨rho, g, m, r, w⟩ => by
  refine ⟨rho, g, m, r, wp_mono (exS_wp w) (fun d m1 w1 v g1 H1 e1 o1 rv => ?_) fun c m' q => excE r q⟩
  cases hb : t.bind d rho with
  | none => rw [hb] at w1; exact absurd w1 (fun z => z)
  | some rho' =>
    rw [hb] at w1
    exact hG g1 H1 rho m1 s v d rho' _ (r.ext e1 o1) rv hb fun s' _ r' => w1 s' g1 H1 e1.le r'
def parS (i j : Nat) (f h : En → M D) : SM := fun rho => exS (bnd (f rho) fun x => bnd (h rho) fun y => ret (x, y)) rho fun q m => .nx ((rho.set i (some q.1)).set j (some q.2)) m
theorem s_par {j : Nat} {y : Str} {f h : En → M D} {px py pt pt2 : Pos} {kt k2 : Nat} (hc : X.calm = true) (hmi : fr.md i = .frz) (hmj : fr.md j = .frz) (hN : X.N.Nodup) (hi : X.N[i]? = some x) (hj : X.N[j]? = some y) (hij : i ≠ j)
    (hx : X.env.scope.names.lookup x = some .local) (hy : X.env.scope.names.lookup y = some .local) (ha : PE X a (TV fr (vZ fr.p.K) f)) (hb : PE X b (TV fr (vZ fr.p.K) h)) (hse : starEach [a, b] X.env = (false, eval a X.env) :: starEach [b] X.env) (hse2 : starEach [b] X.env = (false, eval b X.env) :: starEach [] X.env)
    (hw : swappedStores [.Tuple [.Name x px, .Name y py] kt pt] (.Tuple [a, b] k2 pt2) X.env = pure (some [x, y])) (hs : swapsWithSole [.Tuple [.Name x px, .Name y py] kt pt] (.Tuple [a, b] k2 pt2) pos.line X.env = pure false) :
    PS X (.Assign [.Tuple [.Name x px, .Name y py] kt pt] (.Tuple [a, b] k2 pt2) pos) (TSt fr rk (parS i j f h)) :=
  ps_weak (ps_par hc hN hi hj hij hx hy (a_consZ ha (a_consZ hb (a_nil (P := lZ fr.p.K) fun _ _ => RepL.nil) hse2) hse) hw hs) fun Dn s H ⟨rho, g, m, r, w⟩ => by
    refine ⟨rho, g, m, r, ?_⟩
    show (bnd (f rho) _ m).wp _ _
    refine wp_bnd.mpr (wp_mono (wp_bnd.mp (exS_wp w)) (fun d1 m1 w1 => ?_) fun c m' q => excE r q)
    refine wp_bnd.mpr ?_
    show (bnd (h rho) _ m1).wp _ _
    refine wp_bnd.mpr (wp_mono (wp_bnd.mp w1) (fun d2 m2 w2 => ?_) fun c m' q => excE r q)
    show ∀ vs g' H', _
    intro us g1 H1 e1 o1 ru
    have ru : RepL fr.p.K g1 us [d1, d2] := ru
    cases ru with
    | cons rv t =>
      cases t with
      | cons rv2 t =>
        cases t
        exact ⟨_, _, rfl, w2 _ g1 H1 e1.le (((r.ext e1 o1).setZ hmi rv).setZ hmj rv2)⟩
/-! raise, try -/
def raiseS (c : Nat) : SM := fun rho m => .exc c rho m
theorem s_raise {c : Nat} {C : Addr} {msg : Str} {jj : Nat} {p2 p3 : Pos} {bmB : List Value} {B newId initId : String} (hc : X.calm = true) (tk : Takes X fr.W) (F : ExcBaseFacts B newId initId bmB) (q : PySem.W.excIn X.K C bmB newId = true) (gC : X.mg x = some (.ref C)) (kC : PySem.W.keepIn X.K (.ref C) = true) (rs : Raises X (.ref C)) (hg : Gl X x) (hdb : (x == ("__debug__" : Str)) = false)
    (hcl : fr.p.cls c = .ref C) : PS X (.Raise (some (.Call (.Name x p) [.Constant (.str msg) jj p2] [] p3)) none pos) (TSt fr rk (raiseS c)) := ps_weak (ps_raise hc tk (pmk_own F q gC kC rs hg hdb)) fun Dn s H ⟨rho, g, m, r, w⟩ => by
  have w := w s g H (Le.refl g) r
  rw [hcl] at w
  exact w
abbrev Fr.wish (fr : Fr) (W : WX) : Fr := { fr with W := W }
theorem Rl.wish {fr : Fr} {g : Gh} {H : Hp} {rho : En} {m : Store} {s : St} (r : Rl fr g H rho m s) (W : WX) : Rl (fr.wish W) g H rho m s := ⟨r.ok, r.ent, r.len, r.val⟩
theorem Rl.unwish {fr : Fr} {g : Gh} {H : Hp} {rho : En} {m : Store} {s : St} {W : WX} (r : Rl (fr.wish W) g H rho m s) : Rl fr g H rho m s := ⟨r.ok, r.ent, r.len, r.val⟩
/-- the clauses: the class that each names, its suite -/
def catchS (exm : Nat → Nat → Bool) : List (Nat × SM) → Nat → SM
  | [], c => fun rho m => .exc c rho m
  | (h, G) :: r, c => if exm c h = true then G else catchS exm r c
def tryS (exm : Nat → Nat → Bool) (F : SM) (hs : List (Nat × SM)) : SM := fun rho m => match F rho m with
  | .exc c r2 m2 => catchS exm hs c r2 m2
  | .nx r2 m2 => .nx r2 m2
  | .rt d m2 => .rt d m2
  | .bk r2 m2 => .bk r2 m2
  | .ct r2 m2 => .ct r2 m2
  | .bad => .bad
theorem RsW.unstill {fr : Fr} {rk : VR} {Dn : Ends} {g : Gh} {r : Rs} (h : ∀ c rho m, r ≠ .exc c rho m) (w : RsW fr rk Dn g r) : RsW fr.still rk Dn g r := by
  cases r with
  | nx rho m => exact fun s g2 H l2 r => w s g2 H l2 r.unstill
  | bk rho m => exact fun s g2 H l2 r => w s g2 H l2 r.unstill
  | ct rho m => exact fun s g2 H l2 r => w s g2 H l2 r.unstill
  | rt d m => exact w
  | exc c rho m => exact absurd rfl (h c rho m)
  | bad => exact w
/-- a suite that raises is not followed -/
def stillS (G : SM) : SM := fun rho m => match G rho m with
  | .exc _ _ _ => .bad
  | .nx r2 m2 => .nx r2 m2
  | .rt d m2 => .rt d m2
  | .bk r2 m2 => .bk r2 m2
  | .ct r2 m2 => .ct r2 m2
  | .bad => .bad
theorem still_ok {G : SM} {Dn : Ends} {g : Gh} {rho : En} {m : Store} (w : RsW fr rk Dn g (stillS G rho m)) : RsW fr.still rk Dn g (G rho m) := by
  unfold stillS at w
  cases q : G rho m with
  | exc c r2 m2 => rw [q] at w; exact absurd w (fun z => z)
  | nx r2 m2 => rw [q] at w; exact RsW.unstill (fun _ _ _ z => by cases z) w
  | rt d m2 => rw [q] at w; exact w
  | bk r2 m2 => rw [q] at w; exact RsW.unstill (fun _ _ _ z => by cases z) w
  | ct r2 m2 => rw [q] at w; exact RsW.unstill (fun _ _ _ z => by cases z) w
  | bad => rw [q] at w; exact w
abbrev hdT (fr : Fr) (rk : VR) (l : List (Nat × SM)) : List (Value × (Addr → Value → Option Addr → TS)) := l.map fun q => (fr.p.cls q.1, fun _ _ _ => TSt fr.still rk q.2)
theorem many_ok {exm : Nat → Nat → Bool} (hex : ∀ c h, (∃ b, PySem.W.exmOne fr.p.K (fr.p.cls c) (fr.p.cls h) = some b) → PySem.W.exmOne fr.p.K (fr.p.cls c) (fr.p.cls h) = some (exm c h)) {Dn : Ends} {g : Gh} {H : Hp} {rho : En} {m : Store} {s : St} {c : Nat} (r : Rl fr g H rho m s) :
    ∀ {l : List (Nat × SM)}, (∀ q ∈ l, ∃ b, PySem.W.exmOne fr.p.K (fr.p.cls c) (fr.p.cls q.1) = some b) → RsW fr rk Dn g (catchS exm (l.map fun q => (q.1, stillS q.2)) c rho m) → wMany fr.p.K fr.W Dn (hdT fr rk l) (fr.p.cls c) none s H
  | [], _, w => w s g H (Le.refl g) r
  | (h, G) :: l, hb, w => by
    have hx := hex c h (hb (h, G) (List.mem_cons_self ..))
    refine ⟨exm c h, hx, fun e a _ => ?_, fun e => ?_⟩
    · have w' : RsW fr rk Dn g ((if exm c h = true then stillS G else catchS exm (l.map fun q => (q.1, stillS q.2)) c) rho m) := w
      rw [if_pos e] at w'
      exact ⟨rho, g, m, r.still, still_ok w'⟩
    · have w' : RsW fr rk Dn g ((if exm c h = true then stillS G else catchS exm (l.map fun q => (q.1, stillS q.2)) c) rho m) := w
      rw [if_neg (by rw [e]; exact Bool.false_ne_true)] at w'
      exact many_ok hex r (fun q hq => hb q (List.mem_cons_of_mem _ hq)) w'
theorem s_try {exm : Nat → Nat → Bool} {body : List Stmt} {h0 : ExceptHandler} {hds : List ExceptHandler} {F : SM} {l : List (Nat × SM)} (hK : X.K = fr.p.K) (hs : X.stack = X.env :: X.outer) (hf : X.env.frame = some X.env.locals) (tk : Takes X fr.W)
    (hex : ∀ c h, (∃ b, PySem.W.exmOne fr.p.K (fr.p.cls c) (fr.p.cls h) = some b) → PySem.W.exmOne fr.p.K (fr.p.cls c) (fr.p.cls h) = some (exm c h)) (hall : ∀ c, ∀ q ∈ l, ∃ b, PySem.W.exmOne fr.p.K (fr.p.cls c) (fr.p.cls q.1) = some b)
    (hb : ∀ (W : WX) (pn : List (Addr × Obj)) (xe : Value → Shared → Prop), Takes (X.tr pn xe) W → PassesOwn (model X.prog X.w) X.A X.env xe → PSs (X.tr pn xe) body (TSt (fr.wish W) rk F))
    (hh : HdsOk X (h0 :: hds) (hdT fr rk l)) : PS X (.Try body (h0 :: hds) [] [] pos) (TSt fr rk (tryS exm F (l.map fun q => (q.1, stillS q.2)))) :=
  ps_weak (ps_try_many (tb := fun W => TSt (fr.wish W) rk F) hs hf tk hb hh) fun Dn s H ⟨rho, g, m, r, w⟩ => by
    refine ⟨rho, g, m, r.wish _, ?_⟩
    unfold tryS at w
    cases q : F rho m with
    | exc c r2 m2 =>
      rw [q] at w
      intro s' g' H' l' r'
      rw [hK]
      exact many_ok hex r'.unwish (hall c) (w.le l')
    | nx r2 m2 => rw [q] at w; exact fun s' g' H' l' r' => w s' g' H' l' r'.unwish
    | rt d m2 => rw [q] at w; exact w
    | bk r2 m2 => rw [q] at w; exact fun s' g' H' l' r' => w s' g' H' l' r'.unwish
    | ct r2 m2 => rw [q] at w; exact fun s' g' H' l' r' => w s' g' H' l' r'.unwish
    | bad => rw [q] at w; exact w
end
end PF
namespace PF
open PySem L2
/-! ### built-ins -/
section
variable {α : Type}
def insS (le : α → α → Bool) (a : α) : List α → List α
  | [] => [a]
  | b :: r => if le a b = true then a :: b :: r else b :: insS le a r
def isort (le : α → α → Bool) : List α → List α
  | [] => []
  | a :: r => insS le a (isort le r)
theorem insS_perm (le : α → α → Bool) (a : α) : ∀ l : List α, (insS le a l).Perm (a :: l)
  | [] => List.Perm.refl _
  | b :: r => by
    show (if le a b = true then a :: b :: r else b :: insS le a r).Perm _
    split
    · exact List.Perm.refl _
    · exact ((insS_perm le a r).cons b).trans (List.Perm.swap a b r)
theorem isort_perm : ∀ (l : List α) (le : α → α → Bool), (isort le l).Perm l
  | [], _ => List.Perm.refl _
  | a :: r, le => (insS_perm le a (isort le r)).trans ((isort_perm r le).cons a)
theorem pairwise_insS {le : α → α → Bool} (tr : ∀ a b c : α, le a b = true → le b c = true → le a c = true) (tot : ∀ a b : α, (le a b || le b a) = true) (a : α) : ∀ {l : List α}, l.Pairwise (fun a b => le a b = true) → (insS le a l).Pairwise fun a b => le a b = true
  | [], _ => List.pairwise_singleton _ _
  | b :: r, h => by
    rw [List.pairwise_cons] at h
    show (if le a b = true then a :: b :: r else b :: insS le a r).Pairwise _
    split
    · rename_i hab
      exact List.pairwise_cons.mpr ⟨fun c hc => by
        rcases List.mem_cons.mp hc with e | e
        · rw [e]; exact hab
        · exact tr a b c hab (h.1 c e), List.pairwise_cons.mpr h⟩
    · rename_i hab
      have hba : le b a = true := by
        have z := tot a b
        rw [Bool.or_eq_true] at z
        exact z.resolve_left hab
      refine List.pairwise_cons.mpr ⟨fun c hc => ?_, pairwise_insS tr tot a h.2⟩
      rcases List.mem_cons.mp ((insS_perm le a r).mem_iff.mp hc) with e | e
      · rw [e]; exact hba
      · exact h.1 c e
theorem pairwise_isort {le : α → α → Bool} (tr : ∀ a b c : α, le a b = true → le b c = true → le a c = true) (tot : ∀ a b : α, (le a b || le b a) = true) : ∀ l : List α, (isort le l).Pairwise fun a b => le a b = true
  | [] => List.Pairwise.nil
  | a :: r => pairwise_insS tr tot a (pairwise_isort tr tot r)
end
def asInts : List D → Option (List Int)
  | [] => some []
  | .int i :: r => (asInts r).map (i :: ·)
  | _ => none
theorem asInts_some : ∀ {ds : List D} {ns : List Int}, asInts ds = some ns → ds = ns.map D.int
  | [], _, h => by cases h; rfl
  | .int i :: r, ns, h => by
    have h' : (asInts r).map (i :: ·) = some ns := h
    cases q : asInts r with
    | none => rw [q] at h'; cases h'
    | some k =>
      rw [q] at h'
      cases h'
      rw [asInts_some q]
      rfl
  | .non :: _, _, h => by cases h
  | .bl _ :: _, _, h => by cases h
  | .str _ :: _, _, h => by cases h
  | .tup _ :: _, _, h => by cases h
  | .lst _ :: _, _, h => by cases h
  | .obj _ :: _, _, h => by cases h
  | .scr _ :: _, _, h => by cases h
  | .dic _ _ :: _, _, h => by cases h
theorem asInts_map : ∀ ns : List Int, asInts (ns.map D.int) = some ns
  | [] => rfl
  | n :: ns => by
    show (asInts (ns.map D.int)).map (n :: ·) = _
    rw [asInts_map ns]
    rfl
def lstInts : D → Option (List Int)
  | .lst ds => asInts ds
  | _ => none
theorem lstInts_rep {p : Par} {g : Gh} {H : Hp} {v : V} {d : D} {ns : List Int} (r : RepA p.K g H v d) (h : lstInts d = some ns) : ∃ a, v = .ref a ∧ SqL p.K H a (ns.map V.int) := by
  cases d with
  | lst ds =>
    obtain ⟨a, vs, rfl, h1, _, h3⟩ := r.lst
    rw [asInts_some h] at h3
    exact ⟨a, rfl, by rw [← h3.ints]; exact SqL.of h1⟩
  | _ => cases h
def seqInts : D → Option (List Int)
  | .lst ds => asInts ds
  | .tup ds => asInts ds
  | _ => none
theorem seqInts_rep {p : Par} {g : Gh} {m : Store} {H : Hp} {v : V} {d : D} {ns : List Int} (o : Ok p g m H) (r : RepA p.K g H v d) (h : seqInts d = some ns) : ∃ a, v = .ref a ∧ (SqL p.K H a (ns.map V.int) ∨ SqT p.K H a (ns.map V.int)) := by
  cases d with
  | lst ds =>
    obtain ⟨a, vs, rfl, h1, _, h3⟩ := r.lst
    rw [asInts_some h] at h3
    exact ⟨a, rfl, .inl (by rw [← h3.ints]; exact SqL.of h1)⟩
  | tup ds =>
    obtain ⟨a, vs, rfl, h1, h3⟩ := r.tup
    rw [asInts_some h] at h3
    exact ⟨a, rfl, .inr (by rw [← h3.ints]; exact o.sqT h1)⟩
  | _ => cases h
def sumD (d : D) : Option D := (seqInts d).map fun ns => .int ns.sum
abbrev rSum2 (K : PySem.W.Frag) : List V → Hp → VK → Prop := fun xs H Q => rSum K xs H Q ∨ rSumT K xs H Q
theorem o_sum {X : Cx} (hc : X.calm = true) : CallR X (.builtin "sum") (rSum2 X.K) := (cr_sum hc).or (cr_sumT hc)
theorem im_sum : ImL rSum2 (one sumD) := by
  intro p g m H xs dxs d Q o rx e q
  obtain ⟨dx, rfl, e1⟩ := one_some e
  obtain ⟨v, rfl, r⟩ := rx.one
  clear e
  have e := e1
  clear e1
  unfold sumD at e
  cases z : seqInts dx with
  | none => rw [z] at e; cases e
  | some ns =>
    rw [z] at e
    cases e
    obtain ⟨a, rfl, h⟩ := seqInts_rep o r z
    rcases h with h | h
    · exact .inl ⟨a, ns, rfl, h, q.int o⟩
    · exact .inr ⟨a, ns, rfl, h, q.int o⟩
def maxL : List Int → Int
  | [] => 0
  | [a] => a
  | a :: b :: r => max a (maxL (b :: r))
def minL : List Int → Int
  | [] => 0
  | [a] => a
  | a :: b :: r => min a (minL (b :: r))
theorem maxL_eq : ∀ {ns : List Int} {m : Int}, m ∈ ns → (∀ y ∈ ns, y ≤ m) → m = maxL ns
  | [], _, h, _ => by cases h
  | [a], m, h, _ => by
    rw [List.mem_singleton] at h
    exact h
  | a :: b :: r, m, h, k => by
    have hb : (∀ y ∈ b :: r, y ≤ maxL (b :: r)) ∧ maxL (b :: r) ∈ b :: r := maxL_is (b :: r) (by simp)
    show m = max a (maxL (b :: r))
    have h1 := k a (List.mem_cons_self ..)
    have h2 := k _ (List.mem_cons_of_mem _ hb.2)
    rcases List.mem_cons.mp h with e | e
    · omega
    · have := hb.1 m e
      omega
where
  maxL_is : ∀ (ns : List Int), ns ≠ [] → (∀ y ∈ ns, y ≤ maxL ns) ∧ maxL ns ∈ ns
  | [], h => absurd rfl h
  | [a], _ => ⟨fun y hy => by rw [List.mem_singleton.mp hy]; exact Int.le_refl _, by simp [maxL]⟩
  | a :: b :: r, _ => by
    have ih := maxL_is (b :: r) (by simp)
    refine ⟨fun y hy => ?_, ?_⟩
    · show y ≤ max a (maxL (b :: r))
      rcases List.mem_cons.mp hy with e | e
      · omega
      · have := ih.1 y e; omega
    · show max a (maxL (b :: r)) ∈ a :: b :: r
      by_cases h : a ≤ maxL (b :: r)
      · rw [Int.max_eq_right h]; exact List.mem_cons_of_mem _ ih.2
      · rw [Int.max_eq_left (by omega)]; exact List.mem_cons_self ..
theorem minL_eq : ∀ {ns : List Int} {m : Int}, m ∈ ns → (∀ y ∈ ns, m ≤ y) → m = minL ns
  | [], _, h, _ => by cases h
  | [a], m, h, _ => by
    rw [List.mem_singleton] at h
    exact h
  | a :: b :: r, m, h, k => by
    have hb : (∀ y ∈ b :: r, minL (b :: r) ≤ y) ∧ minL (b :: r) ∈ b :: r := minL_is (b :: r) (by simp)
    show m = min a (minL (b :: r))
    have h1 := k a (List.mem_cons_self ..)
    have h2 := k _ (List.mem_cons_of_mem _ hb.2)
    rcases List.mem_cons.mp h with e | e
    · omega
    · have := hb.1 m e
      omega
where
  minL_is : ∀ (ns : List Int), ns ≠ [] → (∀ y ∈ ns, minL ns ≤ y) ∧ minL ns ∈ ns
  | [], h => absurd rfl h
  | [a], _ => ⟨fun y hy => by rw [List.mem_singleton.mp hy]; exact Int.le_refl _, by simp [minL]⟩
  | a :: b :: r, _ => by
    have ih := minL_is (b :: r) (by simp)
    refine ⟨fun y hy => ?_, ?_⟩
    · show min a (minL (b :: r)) ≤ y
      rcases List.mem_cons.mp hy with e | e
      · omega
      · have := ih.1 y e; omega
    · show min a (minL (b :: r)) ∈ a :: b :: r
      by_cases h : a ≤ minL (b :: r)
      · rw [Int.min_eq_left h]; exact List.mem_cons_self ..
      · rw [Int.min_eq_right (by omega)]; exact List.mem_cons_of_mem _ ih.2
def mmD (f : List Int → Int) (d : D) : Option D := match seqInts d with
  | some (n :: ns) => some (.int (f (n :: ns)))
  | _ => none
def mm2D (mx : Bool) : D → D → Option D
  | .int i, .int j => some (.int (if mx then (if j > i then j else i) else (if j < i then j else i)))
  | _, _ => none
def mm (mx : Bool) : List D → Option D
  | [d] => mmD (if mx then maxL else minL) d
  | [d, e] => mm2D mx d e
  | _ => none
abbrev rMM (mx : Bool) (K : PySem.W.Frag) : List V → Hp → VK → Prop := fun xs H Q => ((if mx then rMax K else rMin K) xs H Q ∨ (if mx then rMaxT K else rMinT K) xs H Q) ∨ ∃ i j, xs = [.int i, .int j] ∧ Q (.int (if mx then (if j > i then j else i) else (if j < i then j else i))) H
theorem im_mm (mx : Bool) : ImL (rMM mx) (mm mx) := by
  intro p g m H xs dxs d Q o rx e q
  unfold mm at e
  split at e
  · obtain ⟨v, rfl, r⟩ := rx.one
    unfold mmD at e
    split at e
    · rename_i n ns hn
      cases e
      obtain ⟨a, rfl, h⟩ := seqInts_rep o r hn
      refine .inl ?_
      rcases h with h | h
      · refine .inl ?_
        cases mx with
        | true => exact ⟨a, _, rfl, h, by simp, fun m h1 h2 => by
            rw [maxL_eq h1 h2]
            exact q.int o⟩
        | false => exact ⟨a, _, rfl, h, by simp, fun m h1 h2 => by
            rw [minL_eq h1 h2]
            exact q.int o⟩
      · refine .inr ?_
        cases mx with
        | true => exact ⟨a, _, rfl, h, by simp, fun m h1 h2 => by
            rw [maxL_eq h1 h2]
            exact q.int o⟩
        | false => exact ⟨a, _, rfl, h, by simp, fun m h1 h2 => by
            rw [minL_eq h1 h2]
            exact q.int o⟩
    · cases e
  · obtain ⟨v, u, rfl, r, r'⟩ := rx.two
    unfold mm2D at e
    split at e
    · cases e
      rw [r.int, r'.int]
      exact .inr ⟨_, _, rfl, q.int o⟩
    · cases e
  · cases e
theorem o_max {X : Cx} (hc : X.calm = true) : CallR X (.builtin "max") (rMM true X.K) := ((cr_max hc).or (cr_maxT hc)).or (call_max2 hc)
theorem o_min {X : Cx} (hc : X.calm = true) : CallR X (.builtin "min") (rMM false X.K) := ((cr_min hc).or (cr_minT hc)).or (call_min2 hc)
def listD (d : D) : Option D := (itemsD d).map .lst
abbrev rList (K : PySem.W.Frag) : List V → Hp → VK → Prop := fun xs H Q => ∃ p ys, xs = [.ref p] ∧ (SqL K H p ys ∨ SqT K H p ys) ∧ ∀ l, H l = none → Q (.ref l) (upd H l (.lst ys))
theorem im_list : ImL rList (one listD) := by
  intro p g m H xs dxs d Q o rx e q
  obtain ⟨dx, rfl, e1⟩ := one_some e
  obtain ⟨v, rfl, r⟩ := rx.one
  clear e
  have e := e1
  clear e1
  unfold listD at e
  cases dx with
  | tup ds =>
    cases e
    obtain ⟨a, vs, rfl, h1, h3⟩ := r.tup
    exact ⟨a, vs, rfl, .inr (o.sqT h1), q.newL o h3⟩
  | lst ds =>
    cases e
    obtain ⟨a, vs, rfl, h1, _, h3⟩ := r.lst
    exact ⟨a, vs, rfl, .inl (SqL.of h1), q.newL o h3⟩
  | scr ns =>
    cases e
    obtain ⟨a, rfl, h1⟩ := r.scr
    exact ⟨a, _, rfl, .inl (o.fh.seq h1), q.newL o (RepL.of_ints ns)⟩
  | _ => cases e
def tupleD (d : D) : Option D := match d with
  | .tup xs => some (.tup xs)
  | .lst xs => some (.tup xs)
  | _ => none
abbrev rTuple (K : PySem.W.Frag) : List V → Hp → VK → Prop := fun xs H Q => ∃ p ys, xs = [.ref p] ∧ ((SqL K H p ys ∧ ∀ l, H l = none → Q (.ref l) (upd H l (.tup ys))) ∨ (SqT K H p ys ∧ Q (.ref p) H))
theorem im_tuple : ImL rTuple (one tupleD) := by
  intro p g m H xs dxs d Q o rx e q
  obtain ⟨dx, rfl, e1⟩ := one_some e
  obtain ⟨v, rfl, r⟩ := rx.one
  clear e
  have e := e1
  clear e1
  unfold tupleD at e
  cases dx with
  | tup ds =>
    cases e
    obtain ⟨a, vs, rfl, h1, h3⟩ := r.tup
    exact ⟨a, vs, rfl, .inr ⟨o.sqT h1, q.flat o (.tup h1 h3) fun _ z => by cases z⟩⟩
  | lst ds =>
    cases e
    obtain ⟨a, vs, rfl, h1, _, h3⟩ := r.lst
    exact ⟨a, vs, rfl, .inl ⟨SqL.of h1, q.newT o h3⟩⟩
  | _ => cases e
def int1D (d : D) : Option D := match d with
  | .int i => some (.int i)
  | .bl k => some (.int (if k then 1 else 0))
  | .str x => if x.length ≤ 640 then (PySem.intText? x).map D.int else none
  | _ => none
abbrev rInt1 (K : PySem.W.Frag) : List V → Hp → VK → Prop := fun xs H Q => ((∃ i, xs = [.int i] ∧ Q (.int i) H) ∨ ∃ k, xs = [.bl k] ∧ Q (.int (if k then 1 else 0)) H) ∨ ∃ a n, xs = [.str a] ∧ PySem.intText? a = some n ∧ a.length ≤ 640 ∧ Q (.int n) H
theorem o_int1 {X : Cx} : CallR X (.type "int") (rInt1 X.K) := call_int1.or call_int_str
theorem im_int1 : ImL rInt1 (one int1D) := by
  intro p g m H xs dxs d Q o rx e q
  obtain ⟨dx, rfl, e1⟩ := one_some e
  obtain ⟨v, rfl, r⟩ := rx.one
  clear e
  have e := e1
  clear e1
  unfold int1D at e
  cases dx with
  | int i => cases e; rw [r.int]; exact .inl (.inl ⟨i, rfl, q.int o⟩)
  | bl k => cases e; rw [r.bl]; exact .inl (.inr ⟨k, rfl, q.int o⟩)
  | str x =>
    have e : (if x.length ≤ 640 then (PySem.intText? x).map D.int else none) = some d := e
    split at e
    · rename_i hl
      cases hn : PySem.intText? x with
      | none => rw [hn] at e; cases e
      | some n =>
        rw [hn] at e
        cases e
        rw [r.str]
        exact .inr ⟨x, n, rfl, hn, hl, q.int o⟩
    · cases e
  | _ => cases e
def str1D (d : D) : Option D := match d with
  | .int i => if i.natAbs.log2 < 1920 then some (.str (toString i)) else none
  | _ => none
abbrev rStr1 (K : PySem.W.Frag) : List V → Hp → VK → Prop := fun xs H Q => ∃ i, xs = [.int i] ∧ i.natAbs.log2 < 1920 ∧ Q (.str (toString i)) H
theorem im_str1 : ImL rStr1 (one str1D) := by
  intro p g m H xs dxs d Q o rx e q
  obtain ⟨dx, rfl, e1⟩ := one_some e
  obtain ⟨v, rfl, r⟩ := rx.one
  clear e
  have e := e1
  clear e1
  unfold str1D at e
  cases dx with
  | int i =>
    have e : (if i.natAbs.log2 < 1920 then some (D.str (toString i)) else none) = some d := e
    split at e
    · cases e; rw [r.int]; exact ⟨i, rfl, by assumption, q.str o⟩
    · cases e
  | _ => cases e
/-! sorted -/
def pairOf (d : D) : Option (Int × Int) := match d with
  | .tup [.int i, .int j] => some (i, j)
  | _ => none
theorem pairOf_some {d : D} {p : Int × Int} (h : pairOf d = some p) : d = .tup [.int p.1, .int p.2] := by
  unfold pairOf at h
  split at h
  · cases h; rfl
  · cases h
def asPairs : List D → Option (List (Int × Int))
  | [] => some []
  | d :: r => (pairOf d).bind fun p => (asPairs r).map (p :: ·)
theorem asPairs_cons {d : D} {r : List D} {ps : List (Int × Int)} (h : asPairs (d :: r) = some ps) : ∃ i j qs, d = .tup [.int i, .int j] ∧ asPairs r = some qs ∧ ps = (i, j) :: qs := by
  have h : ((pairOf d).bind fun p => (asPairs r).map (p :: ·)) = some ps := h
  cases z : pairOf d with
  | none => rw [z] at h; cases h
  | some p =>
    rw [z] at h
    have h : (asPairs r).map (p :: ·) = some ps := h
    cases q : asPairs r with
    | none => rw [q] at h; cases h
    | some qs =>
      rw [q] at h
      cases h
      exact ⟨p.1, p.2, qs, pairOf_some z, rfl, rfl⟩
def lexLe (p q : Int × Int) : Bool := !(SrtO.lexB q p)
def sortP (ps : List (Int × Int)) : List (Int × Int) := isort lexLe ps
def pairD (p : Int × Int) : D := .tup [.int p.1, .int p.2]
def sortI (ns : List Int) : List Int := isort (fun a b => decide (a ≤ b)) ns
def sortedD (d : D) : Option D := match d with
  | .lst ds => (match asInts ds with
    | some ns => some (.lst ((sortI ns).map D.int))
    | none => (asPairs ds).map fun ps => .lst ((sortP ps).map pairD))
  | _ => none
abbrev rSorted2 (K : PySem.W.Frag) : List V → Hp → VK → Prop := fun xs H Q => rSortedPO K xs H Q ∨ rSortedI K xs H Q
theorem o_sorted {X : Cx} : CallR X (.builtin "sorted") (rSorted2 X.K) := cr_sortedPO.or cr_sortedI
def keyV (H : Hp) : V → Int × Int
  | .ref t => (match H t with
    | some (.tup [.int i, .int j]) => (i, j)
    | _ => (0, 0))
  | _ => (0, 0)
theorem pairs_rep {p : Par} {g : Gh} {m : Store} {H : Hp} (o : Ok p g m H) : ∀ {ds : List D} {vs : List V} {ps : List (Int × Int)}, asPairs ds = some ps → RepL p.K g vs ds → vs.map (keyV H) = ps ∧ ∀ v ∈ vs, ∃ t, v = .ref t ∧ H t = some (.tup [.int (keyV H v).1, .int (keyV H v).2]) ∧ Rep p.K g v (pairD (keyV H v))
  | [], _, _, h, .nil => by cases h; exact ⟨rfl, fun v hv => by cases hv⟩
  | d :: ds, _, _, h, .cons r t => by
    obtain ⟨i, j, qs, rfl, h2, rfl⟩ := asPairs_cons h
    obtain ⟨e1, e2⟩ := pairs_rep o h2 t
    cases r with
    | tup hf rl =>
      cases rl with
      | cons r1 r2 =>
        cases r2 with
        | cons r3 r4 =>
          cases r4
          cases r1
          cases r3
          rename_i a
          have hk : keyV H (.ref a) = (i, j) := by
            show (match H a with
              | some (HO.tup [V.int i, V.int j]) => (i, j)
              | _ => (0, 0)) = _
            rw [o.fh _ _ hf]
          refine ⟨by rw [List.map_cons, hk, e1], fun v hv => ?_⟩
          rcases List.mem_cons.mp hv with z | z
          · rw [z, hk]
            exact ⟨a, rfl, o.fh _ _ hf, .tup hf (.cons (.int i) (.cons (.int j) .nil))⟩
          · exact e2 v z
theorem RepL.of_map {K : PySem.W.Frag} {g : Gh} {f : V → D} : ∀ {vs : List V}, (∀ v ∈ vs, Rep K g v (f v)) → RepL K g vs (vs.map f)
  | [], _ => .nil
  | v :: vs, h => .cons (h v (List.mem_cons_self ..)) (RepL.of_map fun w hw => h w (List.mem_cons_of_mem _ hw))
theorem im_sorted : ImL rSorted2 (one sortedD) := by
  intro p g m H xs dxs d Q o rx e q
  obtain ⟨dx, rfl, e1⟩ := one_some e
  obtain ⟨v, rfl, r⟩ := rx.one
  clear e
  unfold sortedD at e1
  split at e1
  · rename_i ds
    obtain ⟨a, vs, rfl, h1, _, h3⟩ := r.lst
    split at e1
    · rename_i ns hn
      cases e1
      rw [asInts_some hn] at h3
      refine .inr ⟨a, ns, rfl, by rw [← h3.ints]; exact SqL.of h1, fun ns' l hp hs hl => ?_⟩
      have ee : ns' = sortI ns := List.Perm.eq_of_pairwise (le := fun a b => a ≤ b) (fun a b _ _ x y => by omega) hs ((pairwise_isort (fun a b c x y => by rw [decide_eq_true_eq] at *; omega) (fun a b => by simp only [Bool.or_eq_true, decide_eq_true_eq]; omega) ns).imp fun h => by rw [decide_eq_true_eq] at h; exact h) (hp.trans (isort_perm _ _).symm)
      rw [ee]
      exact q.newL o (RepL.of_ints _) l hl
    · cases z : asPairs ds with
      | none => rw [z] at e1; cases e1
      | some ps =>
        rw [z] at e1
        cases e1
        obtain ⟨k1, k2⟩ := pairs_rep o z h3
        refine .inl ⟨a, vs, keyV H, rfl, SqL.of h1, fun x hx => ?_, fun ys l hs hb hl => ?_⟩
        · obtain ⟨t, e, ht, _⟩ := k2 x hx
          exact ⟨t, e, ht⟩
        · have hm : ∀ y ∈ ys, Rep p.K g y (pairD (keyV H y)) := fun y hy => by
            obtain ⟨t, _, _, hr⟩ := k2 y (hb.perm.mem_iff.mp hy)
            exact hr
          have ee : ys.map (keyV H) = sortP ps := List.Perm.eq_of_pairwise (le := fun a b => lexLe a b = true) (fun a b _ _ x y => by
            unfold lexLe at x y
            rw [Bool.not_eq_true'] at x y
            have x := SrtO.lexB_no.mp x
            have y := SrtO.lexB_no.mp y
            exact Prod.ext (by omega) (by omega)) (by
            rw [List.pairwise_map]
            exact hs.imp fun h => by unfold lexLe; rw [Bool.not_eq_true']; exact h) (pairwise_isort (fun a b c x y => by
              unfold lexLe at *
              rw [Bool.not_eq_true'] at *
              have x := SrtO.lexB_no.mp x
              have y := SrtO.lexB_no.mp y
              exact SrtO.lexB_no.mpr (by omega)) (fun a b => by
              unfold lexLe
              rw [Bool.or_eq_true, Bool.not_eq_true', Bool.not_eq_true']
              by_cases x : SrtO.lexB b a = false
              · exact .inl x
              · rw [Bool.not_eq_false] at x
                have x := SrtO.lexB_iff.mp x
                exact .inr (SrtO.lexB_no.mpr (by omega))) ps) ((hb.perm.map (keyV H)).trans (by rw [k1]; exact (isort_perm _ _).symm))
          have rr := RepL.of_map (f := fun v => pairD (keyV H v)) hm
          have e3 : ys.map (fun v => pairD (keyV H v)) = (sortP ps).map pairD := by
            rw [← ee, List.map_map]
            rfl
          rw [e3] at rr
          exact q.newL o rr l hl
  · cases e1
/-! isinstance -/
inductive Ty where
  | int | bool | str | tuple | list | none
  deriving DecidableEq
def Ty.nm : Ty → String
  | .int => "int" | .bool => "bool" | .str => "str" | .tuple => "tuple" | .list => "list" | .none => "NoneType"
def tyD : D → Option Ty
  | .non => some .none
  | .bl _ => some .bool
  | .int _ => some .int
  | .str _ => some .str
  | .tup _ => some .tuple
  | .lst _ => some .list
  | _ => Option.none
def Ty.isi : Ty → Ty → Bool
  | .int, .int => true
  | .bool, .int => true
  | .bool, .bool => true
  | .str, .str => true
  | .tuple, .tuple => true
  | .list, .list => true
  | .none, .none => true
  | _, _ => false
theorem isi_kit : ∀ a b : Ty, b.nm ≠ "NoneType" → kitB a.nm b.nm = some (a.isi b) := by
  intro a b h
  cases a <;> cases b <;> first | (exact absurd rfl h) | decide +kernel
theorem tyD_rep {p : Par} {g : Gh} {m : Store} {H : Hp} {v : V} {d : D} {t : Ty} (o : Ok p g m H) (r : RepA p.K g H v d) (h : tyD d = some t) : TyX p.K H v (.type t.nm) := by
  cases d with
  | non => cases h; rw [r.non]; exact .base .non
  | bl b => cases h; rw [r.bl]; exact .base (.bl b)
  | int i => cases h; rw [r.int]; exact .base (.int i)
  | str x => cases h; rw [r.str]; exact .base (.str x)
  | tup ds =>
    cases h
    obtain ⟨a, vs, rfl, h1, _⟩ := r.tup
    exact .base (.tup (o.fh _ _ h1))
  | lst ds =>
    cases h
    obtain ⟨a, vs, rfl, h1, _⟩ := r.lst
    exact .base (.lst h1)
  | _ => cases h
section
variable {X : Cx} {fr : Fr} {a b e : Expr} {es : List Expr} {pos : Pos} {f fa fb : En → M D} {fs : En → M (List D)}
def isiD (t : Ty) (d : D) : Option D := (tyD d).map fun a => .bl (a.isi t)
theorem e_isi {t : Ty} {x y : Str} {p p2 : Pos} (hK : X.K = fr.p.K) (ht : t.nm ≠ "NoneType") (hg : Gl X x) (hm : X.mg x = none) (hv : bootBuiltins x = some (.builtin "isinstance")) (hn : x ≠ "__name__") (hdb : (x == ("__debug__" : Str)) = false)
    (hg2 : Gl X y) (hm2 : X.mg y = none) (hv2 : bootBuiltins y = some (.type t.nm)) (hn2 : y ≠ "__name__") (hdb2 : (y == ("__debug__" : Str)) = false) (ha : PE X a (TV fr (vA fr.p.K) fa))
    (he : starEach [a, .Name y p2] X.env = (false, eval a X.env) :: starEach [.Name y p2] X.env) :
    PE X (.Call (.Name x p) [a, .Name y p2] [] pos) (TV fr (vF fr.p.K) (ev1 (isiD t) fa)) :=
  pe_weak (pe_callB call_isi hg hm hv (pa_cons ha (pa_cons (pe_bltn (v := .ty t.nm) hg2 hm2 hv2 rfl hn2 hdb2) pa_nil) he) hn hdb he) fun s H Q ⟨rho, g, m, rl, w⟩ => by
    refine ⟨rho, g, m, rl, wp_mono (wp_bnd.mp w) (fun dx m1 w1 v g1 H1 e1 o1 r1 => ?_) fun _ _ z => z⟩
    obtain ⟨d, hd, q⟩ := wp_lift.mp w1
    unfold isiD at hd
    cases z : tyD dx with
    | none => rw [z] at hd; cases hd
    | some k =>
      rw [z] at hd
      cases hd
      refine ⟨v, .ty t.nm, .type k.nm, .type t.nm, k.isi t, rfl, .ty _, ?_, kit_ty (isi_kit k t ht), q _ g1 H1 e1 o1 (show Rep _ _ _ _ from .bl _)⟩
      rw [hK]
      exact tyD_rep o1 r1 z
def lrngD (d : D) : Option D := match d with
  | .int n => if 0 ≤ n ∧ n ≤ 16777216 then some (.lst ((List.range n.toNat).map fun (i : Nat) => .int (i : Int))) else none
  | _ => none
theorem e_lrng {p p2 pos2 : Pos} (hc : X.calm = true) (hg : Gl X "list") (hm : X.mg "list" = none) (hg2 : Gl X "range") (hm2 : X.mg "range" = none) (ha : PE X a (TV fr (vA fr.p.K) fa)) (he : starEach [a] X.env = (false, eval a X.env) :: starEach [] X.env) :
    PE X (.Call (.Name "list" p) [.Call (.Name "range" p2) [a] [] pos2] [] pos) (TV fr (vF fr.p.K) (ev1 lrngD fa)) := pe_weak (pe_listRg hc hg hm (prg_1 hg2 hm2 ha he)) fun s H Q ⟨rho, g, m, rl, w⟩ => by
  refine ⟨rho, g, m, rl, wp_mono (wp_bnd.mp w) (fun dx m1 w1 v g1 H1 e1 o1 r1 => ?_) fun _ _ z => z⟩
  obtain ⟨d, hd, q⟩ := wp_lift.mp w1
  unfold lrngD at hd
  split at hd
  · split at hd
    · rename_i n hn
      cases hd
      have r1 : RepA _ _ _ _ _ := r1
      refine ⟨n, r1.int, ?_⟩
      · refine ⟨RgOk.of_le (Int.le_refl 0) hn.2 (by omega) hn.1, ?_⟩
        have z : RepL fr.p.K g1 (rgV 0 n) ((List.range n.toNat).map fun (i : Nat) => D.int (i : Int)) := by
          have e1 := RepL.of_ints (K := fr.p.K) (g := g1) ((List.range n.toNat).map fun (i : Nat) => (i : Int))
          rw [List.map_map, List.map_map] at e1
          unfold rgV
          simpa [Function.comp_def] using e1
        exact Ans.newL o1 z fun z g2 H2 e2 o2 r2 => q z g2 H2 (e1.trans e2) o2 (RepF.from e1 r2)
    · cases hd
  · cases hd
end
/-! ### calls of the text's own defs -/
def RepM (K : PySem.W.Frag) (g : Gh) (H : Hp) : List Md → List V → List D → Prop
  | [], [], [] => True
  | md :: ms, v :: vs, d :: ds => (match md with
    | .frz => Rep K g v d
    | _ => RepA K g H v d) ∧ RepM K g H ms vs ds
  | _, _, _ => False
def lM (K : PySem.W.Frag) (ms : List Md) : LR := fun g H vs ds => RepM K g H ms vs ds
def spD (p : Par) (ms : List Md) (vr : VR) (rn : List D → M D) : Sp := fun vs H Q E => ∃ ds g m, Ok p g m H ∧ RepM p.K g H ms vs ds ∧
  (rn ds m).wp (fun d m' => ∀ v g' H', Ext g H g' H' → Ok p g' m' H' → vr H g' H' v d → Q v H') (fun c m' => ∀ g' H', Ext g H g' H' → Ok p g' m' H' → E (p.cls c) none H')
theorem RepM.length {K : PySem.W.Frag} {g : Gh} {H : Hp} : ∀ {ms : List Md} {vs : List V} {ds : List D}, RepM K g H ms vs ds → vs.length = ms.length ∧ ds.length = ms.length
  | [], [], [], _ => ⟨rfl, rfl⟩
  | _ :: ms, _ :: vs, _ :: ds, h => ⟨congrArg Nat.succ (RepM.length h.2).1, congrArg Nat.succ (RepM.length h.2).2⟩
  | [], [], _ :: _, h => h.elim
  | [], _ :: _, _, h => h.elim
  | _ :: _, [], _, h => h.elim
  | _ :: _, _ :: _, [], h => h.elim
section
variable {X : Cx} {fr : Fr} {a b e : Expr} {es : List Expr} {pos p : Pos} {f : En → M D} {fs : En → M (List D)} {x : Str} {k : Nat} {fn : Addr} {fd : FuncData} {ps : List Str} {ms : List Md} {vr : VR} {rn : List D → M D}
theorem a_nilM : PA X [] (TLg fr (lM fr.p.K []) evNil) := a_nil fun _ _ => trivial
theorem a_consMZ (ha : PE X e (TV fr (vZ fr.p.K) f)) (hr : PA X es (TLg fr (lM fr.p.K ms) fs)) (hs : starEach (e :: es) X.env = (false, eval e X.env) :: starEach es X.env) : PA X (e :: es) (TLg fr (lM fr.p.K (.frz :: ms)) (evCons f fs)) :=
  a_cons (vr := vZ fr.p.K) (P := lM fr.p.K ms) (P' := lM fr.p.K (.frz :: ms)) (fun e h => Rep.mono e.le h) (fun h t => ⟨h, t⟩) ha hr hs
theorem a_consMA (ha : PE X e (TV fr (vA fr.p.K) f)) (hr : PA X es (TLg fr (lM fr.p.K ms) fs)) (hs : starEach (e :: es) X.env = (false, eval e X.env) :: starEach es X.env) : PA X (e :: es) (TLg fr (lM fr.p.K (.bor :: ms)) (evCons f fs)) :=
  a_cons (vr := vA fr.p.K) (P := lM fr.p.K ms) (P' := lM fr.p.K (.bor :: ms)) (fun e h => RepA.ext e h) (fun h t => ⟨h, t⟩) ha hr hs
def evCall (rn : List D → M D) (fs : En → M (List D)) (rho : En) : M D := bnd (fs rho) rn
theorem e_call (kd : Kind fr.p.K vr) (F : FnOk X.prog X.w X.K X.mg X.base (L2.CX X.prog X.w) k fn fd ps (spD fr.p ms vr rn)) (hr : Room k X.A) (hg : Gl X x) (hm : X.mg x = some (.ref fn)) (hk : PySem.W.keepIn X.K (.ref fn) = true) (hb : Binds X.K fd ps []) (tk : Takes X fr.W)
    (ha : PA X (e :: es) (TLg fr (lM fr.p.K ms) fs)) (hdb : (x == ("__debug__" : Str)) = false) (he : starEach (e :: es) X.env = (false, eval e X.env) :: starEach es X.env) (hpl : (backTo pos (starEach es X.env)).any (·.1) = false) :
    PE X (.Call (.Name x p) (e :: es) [] pos) (TV fr vr (evCall rn fs)) := pe_weak (pe_callS F hr hg hm hk hb (fun σ => passAt tk σ) ha hdb he hpl) fun s H Q ⟨rho, g, m, rl, w⟩ =>
  ⟨rho, g, m, rl, wp_mono (wp_bnd.mp w) (fun ds m1 w1 vs g1 H1 e1 o1 r1 => ⟨ds, g1, m1, o1, r1, wp_mono w1 (fun d m2 q v g2 H2 e2 o2 r2 => q v g2 H2 (e1.trans e2) o2 (kd.back e1 r2)) fun c m2 q g2 H2 e2 o2 => q g2 H2 (e1.trans e2) o2⟩) fun _ _ z => z⟩
def evCall0 (rn : List D → M D) (_ : En) : M D := noX (rn [])
theorem e_call0 (kd : Kind fr.p.K vr) (F : FnOk X.prog X.w X.K X.mg X.base (L2.CX X.prog X.w) k fn fd ps (spD fr.p [] vr rn)) (hr : Room k X.A) (hg : Gl X x) (hm : X.mg x = some (.ref fn)) (hk : PySem.W.keepIn X.K (.ref fn) = true) (hb : Binds X.K fd ps []) (hdb : (x == ("__debug__" : Str)) = false) :
    PE X (.Call (.Name x p) [] [] pos) (TV fr vr (evCall0 rn)) := pe_weak (pe_call0 (E := E0) F hr hg hm hk hb .nil passL hdb) fun s H Q ⟨rho, g, m, rl, w⟩ =>
  ⟨[], g, m, rl.ok, trivial, wp_mono (wp_noX w) (fun d m2 q => q) fun _ _ z => z.elim⟩
/-! the body -/
def callF (nv : Nat) (F : SM) (ds : List D) : M D := fun m => match F (ds.map some ++ List.replicate (nv - ds.length) none) m with
  | .nx _ m' => .ok .non m'
  | .rt d m' => .ok d m'
  | .exc c _ m' => .exc c m'
  | .bk _ _ => .bad
  | .ct _ _ => .bad
  | .bad => .bad
theorem RepM.get {K : PySem.W.Frag} {g : Gh} {H : Hp} : ∀ {ms : List Md} {vs : List V} {ds : List D} {i : Nat} {d : D}, RepM K g H ms vs ds → ds[i]? = some d → ∃ v md, vs[i]? = some v ∧ ms[i]? = some md ∧ (match md with
    | .frz => Rep K g v d
    | _ => RepA K g H v d)
  | [], [], [], _, _, _, e => by simp at e
  | md :: ms, v :: vs, d :: ds, 0, _, h, e => by
    simp only [List.getElem?_cons_zero, Option.some.injEq] at e
    subst e
    exact ⟨v, md, rfl, rfl, h.1⟩
  | _ :: ms, _ :: vs, _ :: ds, i + 1, _, h, e => by
    simp only [List.getElem?_cons_succ] at e ⊢
    exact RepM.get h.2 e
  | [], [], _ :: _, _, _, h, _ => h.elim
  | [], _ :: _, _, _, _, h, _ => h.elim
  | _ :: _, [], _, _, _, h, _ => h.elim
  | _ :: _, _ :: _, [], _, _, h, _ => h.elim
theorem rl_start {p : Par} {md : Nat → Md} {g : Gh} {m : Store} {H : Hp} {W : WX} {N : List Str} {vs : List V} {ds : List D} {ms : List Md} (o : Ok p g m H) (r : RepM p.K g H ms vs ds) (hmd : ∀ i x, ms[i]? = some x → md i = x ∧ x ≠ .own) (hl : ds.length ≤ N.length) :
    Rl ⟨p, md, g, H, W⟩ g H (ds.map some ++ List.replicate (N.length - ds.length) none) m (L2.start N vs) := by
  obtain ⟨l1, l2⟩ := r.length
  refine ⟨o, Ext.refl g H, by unfold L2.start; simp; omega, fun _ => none, fun i d h => ?_⟩
  by_cases hi : i < ds.length
  · rw [List.getElem?_append_left (by simpa using hi), List.getElem?_map] at h
    cases q : ds[i]? with
    | none => rw [q] at h; cases h
    | some e =>
      rw [q] at h
      cases h
      obtain ⟨v, x, h1, h2, h3⟩ := r.get q
      obtain ⟨h4, h5⟩ := hmd i x h2
      refine ⟨v, ?_, ?_⟩
      · unfold L2.start
        rw [List.getElem?_append_left (by rw [List.length_map]; omega), List.getElem?_map, h1]
        rfl
      · unfold SlotR
        show match md i with | .frz => _ | .own => _ | .bor => _
        rw [h4]
        cases x with
        | frz => exact h3
        | own => exact absurd rfl h5
        | bor =>
          cases d with
          | lst es =>
            obtain ⟨a, ws, e1, k1, k2, k3⟩ := h3
            exact ⟨a, ws, e1, by show H a ≠ none; rw [k1]; simp, k1, k2, k3⟩
          | _ => exact h3
  · rw [List.getElem?_append_right (by simpa using Nat.le_of_not_lt hi), List.getElem?_replicate] at h
    split at h <;> cases h
end
end PF
namespace PF
open PySem L2
/-! ### dicts that stay as they are -/
def valG {α : Type} (kvs : List (Key × α)) (k : Key) : Option α := (kvs.find? fun kv => decide (kv.1 = k)).map (·.2)
def putG {α : Type} (kvs : List (Key × α)) (k : Key) (v : α) : List (Key × α) := if (kvs.any fun kv => decide (kv.1 = k)) = true then kvs.map (fun kv => if kv.1 = k then (kv.1, v) else kv) else kvs ++ [(k, v)]
def mergeG {α : Type} (kvs more : List (Key × α)) : List (Key × α) := more.foldl (fun acc kv => putG acc kv.1 kv.2) kvs
theorem mergeG_V (kvs more : List (Key × V)) : mergeG kvs more = mergeK kvs more := rfl
def RepP (K : PySem.W.Frag) (g : Gh) (q : Key × V) (r : Key × D) : Prop := q.1 = r.1 ∧ Rep K g q.2 r.2
section
variable {K : PySem.W.Frag} {g : Gh}
theorem any_rep {k : Key} : ∀ {kvs : List (Key × V)} {kds : List (Key × D)}, Paired (RepP K g) kvs kds → (kvs.any fun kv => decide (kv.1 = k)) = (kds.any fun kv => decide (kv.1 = k))
  | _, _, .nil => rfl
  | _, _, .cons h t => by rw [List.any_cons, List.any_cons, h.1, any_rep t]
theorem set_rep {k : Key} {v : V} {d : D} (r : Rep K g v d) : ∀ {kvs : List (Key × V)} {kds : List (Key × D)}, Paired (RepP K g) kvs kds → Paired (RepP K g) (kvs.map fun kv => if kv.1 = k then (kv.1, v) else kv) (kds.map fun kv => if kv.1 = k then (kv.1, d) else kv)
  | _, _, .nil => .nil
  | _, _, .cons (a := a) (b := b) h t => by
    refine .cons ?_ (set_rep r t)
    show RepP K g (if a.1 = k then (a.1, v) else a) (if b.1 = k then (b.1, d) else b)
    rw [← h.1]
    split
    · exact ⟨rfl, r⟩
    · exact h
theorem snoc_rep {q : Key × V} {r : Key × D} (h : RepP K g q r) : ∀ {kvs : List (Key × V)} {kds : List (Key × D)}, Paired (RepP K g) kvs kds → Paired (RepP K g) (kvs ++ [q]) (kds ++ [r])
  | _, _, .nil => .cons h .nil
  | _, _, .cons a t => .cons a (snoc_rep h t)
theorem put_rep {k : Key} {v : V} {d : D} (r : Rep K g v d) {kvs : List (Key × V)} {kds : List (Key × D)} (h : Paired (RepP K g) kvs kds) : Paired (RepP K g) (putG kvs k v) (putG kds k d) := by
  unfold putG
  rw [any_rep h]
  split
  · exact set_rep r h
  · exact snoc_rep ⟨rfl, r⟩ h
theorem merge_rep : ∀ {more : List (Key × V)} {mored : List (Key × D)}, Paired (RepP K g) more mored → ∀ {kvs : List (Key × V)} {kds : List (Key × D)}, Paired (RepP K g) kvs kds → Paired (RepP K g) (mergeG kvs more) (mergeG kds mored)
  | _, _, .nil, _, _, h => h
  | _, _, .cons (a := a) (b := b) q t, kvs, kds, h => by
    show Paired (RepP K g) (mergeG (putG kvs a.1 a.2) _) (mergeG (putG kds b.1 b.2) _)
    rw [q.1]
    exact merge_rep t (put_rep q.2 h)
theorem val_rep {k : Key} : ∀ {kvs : List (Key × V)} {kds : List (Key × D)}, Paired (RepP K g) kvs kds → (∀ d, valG kds k = some d → ∃ v, valG kvs k = some v ∧ Rep K g v d) ∧ (valG kds k = none → valG kvs k = none)
  | _, _, .nil => ⟨fun _ z => by (cases z), fun _ => rfl⟩
  | _, _, .cons (a := a) (b := b) h t => by
    have ih := val_rep (k := k) t
    unfold valG at ih ⊢
    rw [List.find?_cons, List.find?_cons, h.1]
    by_cases e : b.1 = k
    · rw [decide_eq_true e]
      exact ⟨fun d z => ⟨a.2, rfl, by cases z; exact h.2⟩, fun z => by cases z⟩
    · rw [decide_eq_false e]
      exact ih
theorem paired_of : ∀ {ks : List Key} {vs : List V} {ds : List D}, ks.length = vs.length → RepL K g vs ds → Paired (RepP K g) (ks.zip vs) (ks.zip ds)
  | [], [], _, _, .nil => .nil
  | k :: ks, _, _, e, .cons h t => .cons ⟨rfl, h⟩ (paired_of (Nat.succ.inj e) t)
theorem paired_to : ∀ {kvs : List (Key × V)} {kds : List (Key × D)}, Paired (RepP K g) kvs kds → kvs = (kds.map (·.1)).zip (kvs.map (·.2)) ∧ RepL K g (kvs.map (·.2)) (kds.map (·.2)) ∧ kvs.length = kds.length
  | _, _, .nil => ⟨rfl, .nil, rfl⟩
  | _, _, .cons (a := a) (b := b) h t => by
    obtain ⟨h1, h2, h3⟩ := paired_to t
    refine ⟨?_, .cons h.2 h2, congrArg Nat.succ h3⟩
    rw [List.map_cons, List.map_cons, List.zip_cons_cons, ← h1, ← h.1]
end
def dicOf (kds : List (Key × D)) : D := .dic (kds.map (·.1)) (kds.map (·.2))
theorem Rep.dicOf {K : PySem.W.Frag} {g : Gh} {a : Addr} {kvs : List (Key × V)} {kds : List (Key × D)} (h : g.F a = some (.dK kvs)) (r : Paired (RepP K g) kvs kds) : Rep K g (.ref a) (PF.dicOf kds) := by
  obtain ⟨h1, h2, h3⟩ := paired_to r
  refine .dic (by rw [← h1]; exact h) ?_ h2
  rw [List.length_map, List.length_map, h3]
/-- a key -/
def keyD (d : D) : Option Key := match d with
  | .int i => some (.inl i)
  | .str x => some (.inr x)
  | _ => none
theorem keyD_rep {K : PySem.W.Frag} {g : Gh} {H : Hp} {v : V} {d : D} {k : Key} (r : RepA K g H v d) (h : keyD d = some k) : v = kV k := by
  cases d with
  | int i => cases h; exact r.int
  | str x => cases h; exact r.str
  | _ => cases h
theorem RepA.dic {K : PySem.W.Frag} {g : Gh} {H : Hp} {v : V} {ks : List Key} {ds : List D} (h : RepA K g H v (.dic ks ds)) : ∃ a vs, v = .ref a ∧ g.F a = some (.dK (ks.zip vs)) ∧ ks.length = vs.length ∧ RepL K g vs ds := by
  have h' : Rep K g v (.dic ks ds) := h
  cases h' with
  | dic h1 h2 h3 => exact ⟨_, _, rfl, h1, h2, h3⟩
def dixD (x k : D) : Option D := match x with
  | .dic ks ds => (keyD k).bind fun k => valG (ks.zip ds) k
  | _ => none
def dgetD (x k e : D) : Option D := match x with
  | .dic ks ds => (keyD k).map fun k => (valG (ks.zip ds) k).getD e
  | _ => none
def isDic : D → Bool
  | .dic _ _ => true
  | _ => false
section
variable {X : Cx} {fr : Fr} {o e e2 : Expr} {fo fe fe2 : En → M D} {pos apos cpos : Pos}
theorem e_dix (hu : X.A.units + 1 < cLine) (ho : PE X o (TV fr (vA fr.p.K) fo)) (he : PE X e (TV fr (vA fr.p.K) fe)) (hs : NoSl e) : PE X (.Subscript o e pos) (TV fr (vZ fr.p.K) (ev2 dixD fo fe)) :=
  pe_weak (pe_dget hu ho he hs) fun s H Q ⟨rho, g, m, rl, w⟩ => by
    refine ⟨rho, g, m, rl, wp_mono (wp_bnd.mp w) (fun dx m1 w1 v g1 H1 e1 o1 r1 => ?_) fun _ _ z => z⟩
    refine ⟨rho, g1, m1, rl.ext e1 o1, wp_mono (wp_bnd.mp w1) (fun dy m2 w2 u g2 H2 e2 o2 r2 => ?_) fun _ _ z => z.from e1⟩
    obtain ⟨d, hd, q⟩ := wp_lift.mp w2
    cases dx with
    | dic ks ds =>
      obtain ⟨a, vs, rfl, h1, h2, h3⟩ := RepA.dic (RepA.ext e2 r1)
      have hd : ((keyD dy).bind fun k => valG (ks.zip ds) k) = some d := hd
      cases hk : keyD dy with
      | none => rw [hk] at hd; cases hd
      | some k =>
        rw [hk] at hd
        obtain ⟨v, v1, v2⟩ := (val_rep (k := k) (paired_of h2 h3)).1 d hd
        refine ⟨a, v, rfl, ?_, q v g2 H2 (e1.trans e2) o2 v2⟩
        rw [keyD_rep r2 hk, ← v1]
        exact DGet.k (o2.fh _ _ h1)
    | _ => cases hd
def evM2 (fo fe fe2 : En → M D) (rho : En) : M D := bnd (fo rho) fun x => bnd (lift (if isDic x = true then some () else none)) fun _ => bnd (fe rho) fun y => bnd (fe2 rho) fun z => lift (dgetD x y z)
theorem e_dget (hu : X.A.units + 1 < cLine) (ho : PE X o (TV fr (vA fr.p.K) fo)) (he : PE X e (TV fr (vA fr.p.K) fe)) (he2 : PE X e2 (TV fr (vZ fr.p.K) fe2)) (mm : M2 X o "get" apos e e2 cpos) : PE X (.Call (.Attribute o "get" apos) [e, e2] [] cpos) (TV fr (vZ fr.p.K) (evM2 fo fe fe2)) :=
  pe_weak (pe_dget2 hu ho he he2 mm) fun s H Q ⟨rho, g, m, rl, w⟩ => by
    refine ⟨rho, g, m, rl, wp_mono (wp_bnd.mp w) (fun dx m1 w1 v g1 H1 e1 o1 r1 => ?_) fun _ _ z => z⟩
    obtain ⟨_, hty, w2⟩ := wp_lift.mp (wp_bnd.mp w1)
    cases dx with
    | dic ks ds =>
      obtain ⟨a, vs, rfl, h1, h2, h3⟩ := RepA.dic r1
      refine ⟨a, rfl, .inl ⟨_, .inl (o1.fh _ _ h1)⟩, rho, g1, m1, rl.ext e1 o1, wp_mono (wp_bnd.mp w2) (fun dy m2 w3 u g2 H2 e2 o2 r2 => ?_) fun _ _ z => z.from e1⟩
      refine ⟨rho, g2, m2, (rl.ext e1 o1).ext e2 o2, wp_mono (wp_bnd.mp w3) (fun dz m3 w4 y g3 H3 e3 o3 r3 => ?_) fun _ _ z => z.from (e1.trans e2)⟩
      obtain ⟨d, hd, q⟩ := wp_lift.mp w4
      have hd : ((keyD dy).map fun k => (valG (ks.zip ds) k).getD dz) = some d := hd
      have r3 : Rep fr.p.K g3 y dz := r3
      cases hk : keyD dy with
      | none => rw [hk] at hd; cases hd
      | some k =>
        rw [hk] at hd
        have hd : d = (valG (ks.zip ds) k).getD dz := (Option.some.inj hd).symm
        subst hd
        obtain ⟨p1, p2⟩ := val_rep (k := k) (paired_of h2 (h3.mono (e2.trans e3).le))
        refine ⟨valG (ks.zip vs) k, ?_, ?_⟩
        · rw [keyD_rep (RepA.ext e3 r2) hk]
          exact DGet.k (o3.fh _ _ ((e2.trans e3).le.ff _ _ h1))
        · cases hv : valG (ks.zip ds) k with
          | none =>
            rw [p2 hv]
            rw [hv] at q
            exact q y g3 H3 ((e1.trans e2).trans e3) o3 r3
          | some d' =>
            obtain ⟨v', v1, v2⟩ := p1 d' hv
            rw [v1]
            rw [hv] at q
            exact q v' g3 H3 ((e1.trans e2).trans e3) o3 v2
    | _ => cases hty
end
/-! a display -/
def evPairs (fk fv : En → M D) (fs : En → M (List (Key × D))) (rho : En) : M (List (Key × D)) := bnd (fk rho) fun k => bnd (lift (keyD k)) fun k' => bnd (fv rho) fun v => bnd (fs rho) fun r => ret ((k', v) :: r)
def evPnil (_ : En) : M (List (Key × D)) := ret []
def evDisp (fs : En → M (List (Key × D))) (rho : En) : M D := bnd (fs rho) fun kds => lift (if kds.length ≤ 15 then some (dicOf (mergeG [] kds)) else none)
/-- the pairs, by turns: a key, a value -/
inductive PPd (X : Cx) (fr : Fr) : List (Option Expr) → List Expr → (En → M (List (Key × D))) → List (TE × TE) → Prop
  | nil : PPd X fr [] [] evPnil []
  | cons {k v : Expr} {ks : List (Option Expr)} {vs : List Expr} {fk fv : En → M D} {fs : En → M (List (Key × D))} {trs : List (TE × TE)} : PE X k (TV fr (vA fr.p.K) fk) → PE X v (TV fr (vZ fr.p.K) fv) → PPd X fr ks vs fs trs →
      PPd X fr (some k :: ks) (v :: vs) (evPairs fk fv fs) ((TV fr (vA fr.p.K) fk, TV fr (vZ fr.p.K) fv) :: trs)
section
variable {X : Cx} {fr : Fr} {pos : Pos}
theorem PPd.pps {ks : List (Option Expr)} {vs : List Expr} {fs : En → M (List (Key × D))} {trs : List (TE × TE)} (h : PPd X fr ks vs fs trs) : PPs X pos ks vs trs ∧ ks.all (·.isSome) = true ∧ ks.length = vs.length := by
  induction h with
  | nil => exact ⟨pps_nil, rfl, rfl⟩
  | cons a b c ih => exact ⟨pps_cons a b ih.1, ih.2.1, congrArg Nat.succ ih.2.2⟩
theorem PPd.run {ks : List (Option Expr)} {vs : List Expr} {fs : En → M (List (Key × D))} {trs : List (TE × TE)} (h : PPd X fr ks vs fs trs) : ∀ {s : St} {H : Hp} {rho : En} {g : Gh} {m : Store} {Q : List (V × V) → Hp → Prop}, Rl fr g H rho m s →
    (fs rho m).wp (fun kds m' => ∀ g' H' kvs, Ext g H g' H' → Ok fr.p g' m' H' → Paired (RepP fr.p.K g') kvs kds → Q (kvs.map fun kv => (kV kv.1, kv.2)) H') (OkE fr g H s) → tPairs trs s H Q := by
  induction h with
  | nil =>
    intro s H rho g m Q rl w
    exact w g H [] (Ext.refl g H) rl.ok .nil
  | cons a b c ih =>
    rename_i k v ks vs fk fv fs trs
    intro s H rho g m Q rl w
    refine ⟨rho, g, m, rl, wp_mono (wp_bnd.mp w) (fun dk m1 w1 x g1 H1 e1 o1 r1 => ?_) fun _ _ z => z⟩
    obtain ⟨k', hk, w2⟩ := wp_lift.mp (wp_bnd.mp w1)
    refine ⟨rho, g1, m1, rl.ext e1 o1, wp_mono (wp_bnd.mp w2) (fun dv m2 w3 y g2 H2 e2 o2 r2 => ?_) fun _ _ z => z.from e1⟩
    have r2 : Rep fr.p.K g2 y dv := r2
    have e12 := e1.trans e2
    refine ih ((rl.ext e1 o1).ext e2 o2) (wp_mono (wp_bnd.mp w3) (fun kds m3 w4 g3 H3 kvs e3 o3 rk => ?_) fun _ _ z => OkE.from e12 z)
    have q := w4 g3 H3 ((k', y) :: kvs) (e12.trans e3) o3 (.cons ⟨rfl, r2.mono e3.le⟩ rk)
    rw [keyD_rep r1 hk]
    exact q
theorem e_disp {ks : List (Option Expr)} {vs : List Expr} {fs : En → M (List (Key × D))} {trs : List (TE × TE)} (h : PPd X fr ks vs fs trs) (h0 : ks ≠ []) (h15 : ks.length ≤ 15) : PE X (.Dict ks vs pos) (TV fr (vF fr.p.K) (evDisp fs)) :=
  pe_weak (pe_disp (PPd.pps (pos := pos) h).1 (PPd.pps (pos := pos) h).2.1 (PPd.pps (pos := pos) h).2.2 h0 h15) fun s H Q ⟨rho, g, m, rl, w⟩ => by
    intro p hp
    obtain ⟨o1, e1⟩ := rl.ok.raw hp (.dK [])
    refine PPd.run h (rl.ext e1 o1) (wp_mono (wp_bnd.mp w) (fun kds m2 w2 g2 H2 kvs e2 o2 rk => ?_) fun _ _ z => OkE.from e1 z)
    obtain ⟨d, hd, q⟩ := wp_lift.mp w2
    split at hd
    · rename_i hl
      cases hd
      have k1 : H2 p = some (.dK []) := e2.hh _ _ upd_same (rl.ok.bnone hp)
      have k0 : g2.F p = none := e2.fn p (by rw [upd_same]; simp) (rl.ok.fnone hp)
      have kb : g2.B p = none := e2.bn p (by rw [upd_same]; simp) (rl.ok.bnone hp)
      refine ⟨k1, kvs, rfl, by rw [(paired_to rk).2.2]; exact hl, ?_⟩
      rw [← mergeG_V]
      have o3 := o2.mutO k1 ⟨(fun _ z => by cases z), fun _ z => by cases z⟩ k0 kb (.dK (mergeG [] kvs))
      have o4 := o3.freeze upd_same kb k0
      have e3 : Ext g H g2 (upd H2 p (.dK (mergeG [] kvs))) := (e1.trans e2).later hp _
      refine q _ _ _ (e3.freeze hp k0) o4 ?_
      have rr : Paired (RepP fr.p.K (g2.put p (.dK (mergeG [] kvs)))) (mergeG [] kvs) (mergeG [] kds) := Paired.imp2 (merge_rep rk .nil) fun _ _ z => ⟨z.1, z.2.mono (Le.put k0)⟩
      have z := Rep.dicOf (g := g2.put p (.dK (mergeG [] kvs))) (a := p) (show upd g2.F p _ p = _ from upd_same) rr
      exact z
    · cases hd
/-! dict(pairs), len(d) -/
def pairG (d : D) : Option (Key × D) := match d with
  | .tup [k, v] => (keyD k).map fun k => (k, v)
  | _ => none
def pairsG : List D → Option (List (Key × D))
  | [] => some []
  | d :: r => (pairG d).bind fun q => (pairsG r).map (q :: ·)
def dprsD (d : D) : Option D := match d with
  | .lst ds => (pairsG ds).map fun kds => dicOf (mergeG [] kds)
  | _ => none
abbrev rDictP (K : PySem.W.Frag) : List V → Hp → VK → Prop := fun xs H Q => ∃ (a : Addr) (ps : List Addr) (kvs : List (Key × V)), xs = [.ref a] ∧ SqL K H a (ps.map V.ref) ∧ Paired (fun p kv => SqT K H p [kV kv.1, kv.2]) ps kvs ∧ ∀ p, H p = none → Q (.ref p) (upd H p (.dK (mergeK [] kvs)))
theorem pairsG_rep {p : Par} {g : Gh} {m : Store} {H : Hp} (o : Ok p g m H) : ∀ {ds : List D} {vs : List V} {kds : List (Key × D)}, RepL p.K g vs ds → pairsG ds = some kds → ∃ (ps : List Addr) (kvs : List (Key × V)), vs = ps.map V.ref ∧ Paired (fun p' kv => SqT p.K H p' [kV kv.1, kv.2]) ps kvs ∧ Paired (RepP p.K g) kvs kds
  | _, _, _, .nil, h => by
    cases h
    exact ⟨[], [], rfl, .nil, .nil⟩
  | d :: r, _, kds, .cons (v := v) h t, e => by
    have e : ((pairG d).bind fun q => (pairsG r).map (q :: ·)) = some kds := e
    cases hp : pairG d with
    | none => rw [hp] at e; cases e
    | some q =>
      rw [hp] at e
      cases hr : pairsG r with
      | none =>
        have e : (pairsG r).map (q :: ·) = some kds := e
        rw [hr] at e; cases e
      | some kr =>
        have e : (pairsG r).map (q :: ·) = some kds := e
        rw [hr] at e
        cases e
        obtain ⟨ps, kvs, a1, a2, a3⟩ := pairsG_rep o t hr
        unfold pairG at hp
        split at hp
        · rename_i k vd
          cases hk : keyD k with
          | none => rw [hk] at hp; cases hp
          | some k' =>
            rw [hk] at hp
            cases hp
            cases h with
            | tup h1 h2 =>
              cases h2 with
              | cons b1 b2 =>
                cases b2 with
                | cons c1 c2 =>
                  cases c2
                  refine ⟨_ :: ps, (k', _) :: kvs, by rw [a1]; rfl, .cons ?_ a2, .cons ⟨rfl, c1⟩ a3⟩
                  have z := keyD_rep (H := H) (RepA.of o b1) hk
                  rw [← z]
                  exact o.sqT h1
        · cases hp
theorem im_dprs : ImL rDictP (one dprsD) := by
  intro p g m H xs dxs d Q o rx e q
  obtain ⟨dx, rfl, e1⟩ := one_some e
  obtain ⟨v, rfl, r⟩ := rx.one
  clear e
  unfold dprsD at e1
  split at e1
  · rename_i ds
    cases hp : pairsG ds with
    | none => rw [hp] at e1; cases e1
    | some kds =>
      rw [hp] at e1
      cases e1
      obtain ⟨a, vs, rfl, h1, _, h3⟩ := r.lst
      obtain ⟨ps, kvs, a1, a2, a3⟩ := pairsG_rep o h3 hp
      refine ⟨a, ps, kvs, rfl, by rw [← a1]; exact SqL.of h1, a2, fun l hl => ?_⟩
      rw [← mergeG_V]
      obtain ⟨o1, e1⟩ := o.new hl (.dK (mergeG [] kvs))
      refine q _ _ _ e1 o1 ?_
      exact (Rep.dicOf (a := l) (show upd g.F l _ l = _ from upd_same) (Paired.imp2 (merge_rep a3 .nil) fun _ _ z => ⟨z.1, z.2.mono (Le.put (o.fnone hl))⟩))
  · cases e1
def dlenD (d : D) : Option D := match d with
  | .dic ks ds => if ks.length = ds.length then some (.int ks.length) else none
  | _ => none
abbrev rLenDi : List V → Hp → VK → Prop := fun xs H Q => ∃ a kvs, xs = [V.ref a] ∧ H a = some (.dK kvs) ∧ Q (.int kvs.length) H
theorem im_dlen : ImL (fun _ => rLenDi) (one dlenD) := by
  intro p g m H xs dxs d Q o rx e q
  obtain ⟨dx, rfl, e1⟩ := one_some e
  obtain ⟨v, rfl, r⟩ := rx.one
  clear e
  unfold dlenD at e1
  split at e1
  · split at e1
    · cases e1
      obtain ⟨a, vs, rfl, h1, h2, h3⟩ := RepA.dic r
      refine ⟨a, _, rfl, o.fh _ _ h1, ?_⟩
      rw [List.length_zip, ← h2, Nat.min_self]
      exact q.int o
    · cases e1
  · cases e1
/-! ### dicts of the module: texts to texts or numbers -/
inductive Lt where
  | s (x : Str) | i (n : Int)
  deriving DecidableEq
def Lt.d : Lt → D
  | .s x => .str x
  | .i n => .int n
def Lt.v : Lt → V
  | .s x => .str x
  | .i n => .int n
theorem Lt.rep (K : PySem.W.Frag) (g : Gh) : ∀ l : Lt, Rep K g l.v l.d
  | .s x => .str x
  | .i n => .int n
/-- the table stands at d, and holds what t tells -/
structure KTab (K : PySem.W.Frag) (w : World) (d : Addr) (t : List (Str × Lt)) : Prop where
  at_ : ∃ es n, KDict K w d es n
  has : ∀ z l, t.lookup z = some l → ∃ u, PySem.W.nsIn K d z = some (some u) ∧ RelV l.v u
  no : ∀ z, t.lookup z = none → PySem.W.nsIn K d z = some none
def ginD (neg : Bool) (t : List (Str × Lt)) (d : D) : Option D := match d with
  | .str z => some (.bl (if neg then !(t.lookup z).isSome else (t.lookup z).isSome))
  | _ => none
def gixD (t : List (Str × Lt)) (d : D) : Option D := match d with
  | .str z => (t.lookup z).map Lt.d
  | _ => none
def ggetD (t : List (Str × Lt)) (d e : D) : Option D := match d with
  | .str z => some (((t.lookup z).map Lt.d).getD e)
  | _ => none
variable {a b : Expr} {fa fb : En → M D} {x : Str} {d : Addr} {t : List (Str × Lt)} {px apos cpos : Pos}
theorem KTab.ns {K : PySem.W.Frag} {w : World} (T : KTab K w d t) (z : Str) : ∃ r, PySem.W.nsIn K d z = some r ∧ r.isSome = (t.lookup z).isSome := by
  cases h : t.lookup z with
  | none => exact ⟨none, T.no z h, rfl⟩
  | some l =>
    obtain ⟨u, h1, _⟩ := T.has z l h
    exact ⟨some u, h1, rfl⟩
theorem gin_ok {neg : Bool} {r : R2} (hr : ∀ (z : Str) (H : Hp) (Q : VK), Q (.bl (if neg then !(t.lookup z).isSome else (t.lookup z).isSome)) H → r (.str z) (.ref d) H Q) (s : St) (H : Hp) (Q : VK) (h : TV fr (vF fr.p.K) (ev1 (ginD neg t) fa) s H Q) : tOp r (TV fr (vA fr.p.K) fa) (tC (.ref d)) s H Q := by
  obtain ⟨rho, g, m, rl, w⟩ := h
  refine ⟨rho, g, m, rl, wp_mono (wp_bnd.mp w) (fun dx m1 w1 v g1 H1 e1 o1 r1 => ?_) fun _ _ z => z⟩
  obtain ⟨d', hd, q⟩ := wp_lift.mp w1
  unfold ginD at hd
  split at hd
  · rename_i z
    cases hd
    show r v (.ref d) H1 Q
    rw [r1.str]
    exact hr z H1 Q (q _ g1 H1 e1 o1 (show Rep _ _ _ _ from .bl _))
  · cases hd
theorem op_gin (neg : Bool) (T : KTab X.K X.w d t) : ∃ r : R2, OpR X (compareOp (if neg then .NotIn else .In)) r ∧ ∀ (z : Str) (H : Hp) (Q : VK), Q (.bl (if neg then !(t.lookup z).isSome else (t.lookup z).isSome)) H → r (.str z) (.ref d) H Q := by
  obtain ⟨es, n, D⟩ := T.at_
  cases neg with
  | true =>
    refine ⟨_, op_notIn_kd D, fun z H Q q => ?_⟩
    obtain ⟨r, h1, h2⟩ := T.ns z
    exact ⟨z, r, rfl, rfl, h1, by rw [h2]; exact q⟩
  | false =>
    refine ⟨_, op_in_kd D, fun z H Q q => ?_⟩
    obtain ⟨r, h1, h2⟩ := T.ns z
    exact ⟨z, r, rfl, rfl, h1, by rw [h2]; exact q⟩
theorem e_gin {neg : Bool} {op : CmpOp} (hop : op = if neg then .NotIn else .In) (T : KTab X.K X.w d t) (ha : PE X a (TV fr (vA fr.p.K) fa)) (hg : Gl X x) (hm : X.mg x = some (.ref d)) (hd : (x == ("__debug__" : Str)) = false) :
    PE X (.Compare a [op] [.Name x px] pos) (TV fr (vF fr.p.K) (ev1 (ginD neg t) fa)) := by
  subst hop
  obtain ⟨r, h1, h2⟩ := op_gin neg T
  exact pe_weak (pe_cmpR h1 ha (pe_glob (v := .ref d) hg hm rfl hd) rfl) (gin_ok h2)
theorem t_gin {neg : Bool} {op : CmpOp} (hop : op = if neg then .NotIn else .In) (T : KTab X.K X.w d t) (ha : PE X a (TV fr (vA fr.p.K) fa)) (hg : Gl X x) (hm : X.mg x = some (.ref d)) (hd : (x == ("__debug__" : Str)) = false) :
    PT X (.Compare a [op] [.Name x px] pos) (TB fr (evT (ev1 (ginD neg t) fa))) := by
  subst hop
  obtain ⟨r, h1, h2⟩ := op_gin neg T
  exact pt_weak (pt_cmpR h1 ha (pe_glob (v := .ref d) hg hm rfl hd) rfl) (tTest_ok (gin_ok h2))
theorem e_gix (T : KTab X.K X.w d t) (ha : PE X a (TV fr (vA fr.p.K) fa)) (hg : Gl X x) (hm : X.mg x = some (.ref d)) (hd : (x == ("__debug__" : Str)) = false) (hs : PlainIx a) :
    PE X (.Subscript (.Name x px) a pos) (TV fr (vF fr.p.K) (ev1 (gixD t) fa)) :=
  pe_weak (pe_ix ix_kdict (pe_glob (v := .ref d) hg hm rfl hd) ha hs) fun s H Q ⟨rho, g, m, rl, w⟩ => by
    refine ⟨rho, g, m, rl, wp_mono (wp_bnd.mp w) (fun dx m1 w1 v g1 H1 e1 o1 r1 => ?_) fun _ _ z => z⟩
    obtain ⟨d', hd, q⟩ := wp_lift.mp w1
    unfold gixD at hd
    split at hd
    · rename_i z
      cases hl : t.lookup z with
      | none => rw [hl] at hd; cases hd
      | some l =>
        rw [hl] at hd
        cases hd
        obtain ⟨es, n, D⟩ := T.at_
        obtain ⟨u, h1, h2⟩ := T.has z l hl
        rw [r1.str]
        refine ⟨d, z, l.v, rfl, rfl, ⟨es, n, u, D.at_, D.lit, h1, h2⟩, q _ g1 H1 e1 o1 ?_⟩
        cases l with
        | s x => exact (show Rep _ _ _ _ from .str x)
        | i x => exact (show Rep _ _ _ _ from .int x)
    · cases hd
def tGGet (d : Addr) (t : List (Str × Lt)) (ty tx : TE) : TE := fun σ H Q => ty σ H fun y H2 => tx σ H2 fun z H3 => ∃ k, y = .str k ∧ Q (((t.lookup k).map Lt.v).getD z) H3
theorem pe_gget (hu : X.A.units + 1 < cLine) (T : KTab X.K X.w d t) (hg : Gl X x) (hm : X.mg x = some (.ref d)) (hd : (x == ("__debug__" : Str)) = false) {ty tx : TE} (he : PE X a ty) (hf : PE X b tx) (mm : M2 X (.Name x px) "get" apos a b cpos) : PE X (.Call (.Attribute (.Name x px) "get" apos) [a, b] [] cpos) (tGGet d t ty tx) := by
  refine ⟨fun pins s σ H Q J h => ?_⟩
  obtain ⟨es, n, D⟩ := T.at_
  refine wpAny_Call_method mm.base mm.few mm.line PySem.F.plainAttrs_dict PySem.F.slot_dict_get PySem.F.type_dict_get (thn ((pe_glob (pos := px) (v := .ref d) hg hm rfl hd).run pins s σ H (fun x H1 => x = .ref d ∧ H1 = H) J ⟨rfl, rfl⟩) fun u s1 ⟨x', H1, J1, rx, ex, eH⟩ => ?_)
  subst ex eH
  obtain rfl : u = Value.ref d := rx
  have mp := fun (s : Shared) (q : X.K.In s.heap) => PySem.W.mapOf_K (prog := X.prog) (w := X.w) q D.at_ D.lit
  refine ⟨(mp s1 J1.kIn).typeIs, fun b' q => ?_, ?_⟩
  · cases q
    exact ⟨_, J1.kIn _ _ D.at_, rfl⟩
  rw [mm.trees]
  refine Calls.callWith_builtin rfl (Calls.evalArgs_plain (Calls.spliced_cons (thn (he.run pins s1 σ H1 _ J1 h) fun iv s2 ⟨y, H2, J2, ry, q2⟩ => Calls.spliced_cons (thn (hf.run pins s2 σ H2 _ J2 q2) fun fv s3 ⟨z, H3, J3, rz, k, ey, q3⟩ => Calls.spliced_nil ?_))))
  subst ey
  obtain ⟨tk, rfl⟩ := ry
  refine call_meetsIn PySem.F.slot_dict_get (mp s3 J3.kIn).typeIs PySem.F.entry_dict_get (PySem.F.args_dict_get_3 _ _ _) (meets_dict_get_default (strKind X.prog X.w) d (strKind_is X.prog X.w k tk) D.low fv) ⟨_, mp s3 J3.kIn, ?_⟩
  cases hl : t.lookup k with
  | none =>
    rw [hl] at q3
    rw [PySem.W.find_K D.at_ (T.no k hl)]
    exact ⟨z, H3, J3.tok _, rz, q3⟩
  | some l =>
    rw [hl] at q3
    obtain ⟨u, h1, h2⟩ := T.has k l hl
    rw [PySem.W.find_K D.at_ h1]
    exact ⟨l.v, H3, J3.tok _, h2, q3⟩
def evGget (t : List (Str × Lt)) (fa fb : En → M D) (rho : En) : M D := bnd (fa rho) fun y => bnd (fb rho) fun z => lift (ggetD t y z)
theorem e_gget (hu : X.A.units + 1 < cLine) (T : KTab X.K X.w d t) (hg : Gl X x) (hm : X.mg x = some (.ref d)) (hd : (x == ("__debug__" : Str)) = false) (ha : PE X a (TV fr (vA fr.p.K) fa)) (hb : PE X b (TV fr (vZ fr.p.K) fb)) (mm : M2 X (.Name x px) "get" apos a b cpos) : PE X (.Call (.Attribute (.Name x px) "get" apos) [a, b] [] cpos) (TV fr (vZ fr.p.K) (evGget t fa fb)) :=
  pe_weak (pe_gget hu T hg hm hd ha hb mm) fun s H Q ⟨rho, g, m, rl, w⟩ => by
    refine ⟨rho, g, m, rl, wp_mono (wp_bnd.mp w) (fun dy m1 w1 v g1 H1 e1 o1 r1 => ?_) fun _ _ z => z⟩
    refine ⟨rho, g1, m1, rl.ext e1 o1, wp_mono (wp_bnd.mp w1) (fun dz m2 w2 u g2 H2 e2 o2 r2 => ?_) fun _ _ z => z.from e1⟩
    obtain ⟨d', hd, q⟩ := wp_lift.mp w2
    unfold ggetD at hd
    split at hd
    · rename_i k
      cases hd
      refine ⟨k, r1.str, ?_⟩
      cases hl : t.lookup k with
      | none =>
        rw [hl] at q
        exact q u g2 H2 (e1.trans e2) o2 r2
      | some l =>
        rw [hl] at q
        exact q l.v g2 H2 (e1.trans e2) o2 (Lt.rep _ _ l)
    · cases hd
theorem e_gstr {i : Str} {tk : Tok} (hg : Gl X x) (hm : X.mg x = some (.str i tk)) (hd : (x == ("__debug__" : Str)) = false) : PE X (.Name x pos) (TV fr (vF fr.p.K) (fun _ => ret (.str i))) := pe_weak (pe_glob (v := .str i) hg hm ⟨tk, rfl⟩ hd) (tC_ok (fun _ _ => .str i) fun _ z => by cases z)
end
end PF
namespace PF
open PySem PySem.Spec L2
/-! ### sorted(rest, key=lambda at: (-(left * shares[at] % every), at)) -/
def lamSc : Scope := { kind := .function, names := [("at", .local), ("every", .free), ("left", .free), ("shares", .free)], isGenerator := false, isCoroutine := false, more := [] }
def lamAr (q : Pos) : Arguments := { posonlyargs := [], args := [{ arg := "at", annotation := none, pos := q }], vararg := none, kwonlyargs := [], kw_defaults := [], kwarg := none, defaults := [] }
structure LamP where
  (a b c d e f g h i j : Pos)
def lamBody (p : LamP) : Expr := .Tuple [.UnaryOp .USub (.BinOp (.BinOp (.Name "left" p.a) .Mult (.Subscript (.Name "shares" p.b) (.Name "at" p.c) p.d) p.e) .Mod (.Name "every" p.f) p.g) p.h, .Name "at" p.i] 0 p.j
section
variable {P : Program} {w : World} {A : Around} {E : Value → Shared → Prop} {s : Shared}
theorem lam_body {tt : Bool} {env : Env} {p : LamP} {m : Str → Option Value} {cl cs ce : Addr} {i L S ev : Int} {ti tl ts te : Tok} {a : Addr} {its : Array Value} {Q : Value → Shared → Prop}
    (hk : env.scope.kind = .function) (k1 : env.kindOf "at" = some .local) (k2 : env.kindOf "left" = some .free) (k3 : env.kindOf "shares" = some .free) (k4 : env.kindOf "every" = some .free)
    (hn : s.heap.Ns env.locals m) (ha : m "at" = some (.int i ti)) (c1 : env.cells.lookup ("left" : Str) = some cl) (v1 : s.heap.IsCell cl (some (.int L tl))) (c2 : env.cells.lookup ("shares" : Str) = some cs) (v2 : s.heap.IsCell cs (some (.ref a)))
    (c3 : env.cells.lookup ("every" : Str) = some ce) (v3 : s.heap.IsCell ce (some (.int ev te))) (hl : IsX tt s.heap a its) (h0 : 0 ≤ i) (hfit : i < 2 ^ 63) (hx : its[i.toNat]? = some (.int S ts)) (he : 0 < ev) (hm : IntMulOk L S)
    (h : ∀ t tk, Q (.ref s.heap.objs.size) { s with heap := s.heap.push { cls := .type "tuple", data := .seq [Value.int (-(L * S % ev)) t, Value.int i ti].toArray }, toks := tk }) :
    wpAny (model P w) A (eval (lamBody p) env) Q E s := by
  refine wpAny_Tuple ?_
  refine Calls.spliced_cons (wpAny_UnaryOp ?_)
  refine wpAny_BinOp (wpAny_BinOp ?_)
  refine wpAny_Name (wpAny_loadName_free hk k2 c1 v1 ?_)
  refine wpAny_Subscript_Name_late (wpAny_Name (wpAny_loadName_free hk k3 c2 v2 ?_))
  refine wpAny_Name (wpAny_loadName_local hk k1 hn ha ?_)
  have go : ∀ (Q : Value → Shared → Prop), Q (.int S ts) s → ∃ (T id : String), typeLookup (.type T) "__getitem__" = pure (some (.builtin id)) ∧ s.TypeIs (.ref a) T ∧ wpAny (model P w) A (getItem (.ref a) (.int i ti)) Q E s := fun Q q => by
    cases tt with
    | false =>
      have hl : s.heap.IsList a its := hl
      exact ⟨"list", _, F.slot_list_getitem.lookup, hl.typeIs, wpAny_getItem_list hl h0 hfit hx q⟩
    | true =>
      have hl : s.heap.IsTuple a its := hl
      have hlt : i.toNat < its.size := by
        rw [Array.getElem?_eq_some_iff] at hx
        exact hx.1
      refine ⟨"tuple", _, F.slot_tuple_getitem.lookup, hl.typeIs, PyProof.Rows.getItem_tuple (j := i.toNat) hl (by omega) hfit ?_ hx q⟩
      unfold seqIndex?
      simp only
      have e1 : ¬ i < 0 := by omega
      simp [e1]
      omega
  refine go _ ?_
  refine PyProof.Rows.mul_int ?_ hm
  refine wpAny_Name (wpAny_loadName_free hk k4 c3 v3 ?_)
  refine PyProof.Rows.mod_int' (by omega) ?_
  refine PyProof.Rows.neg_int ?_
  refine Calls.spliced_cons (wpAny_Name (wpAny_loadName_local hk k1 hn ha ?_))
  refine Calls.spliced_nil ⟨by show 2 ≤ sizeLine; decide, ?_⟩
  have e : (L * S).fmod ev = L * S % ev := Int.fmod_eq_emod_of_nonneg _ (by omega)
  rw [e]
  exact h _ _
abbrev lamClo (cells : List (Str × Addr)) : List (Str × Addr) := cloFrom cells lamSc.names []
theorem lam_call {tt : Bool} {f c' : Addr} {qual : Str} {p : LamP} {q : Pos} {pm ctv : Value} {cells : List (Str × Addr)} {cl cs ce : Addr} {i L S ev : Int} {ti tl ts te : Tok} {a : Addr} {its : Array Value} (hroom : A.depth < recursionLimit)
    (hf : s.heap.get? f = some (PySem.W.kla_obj "<lambda>" qual (lamAr q) (lamBody p) lamSc (lamClo cells) pm c' ctv)) (hc : s.heap.CodeRec (.ref c') qual) (lim : s.heap.NoLimit)
    (c1 : cells.lookup ("left" : Str) = some cl) (v1 : s.heap.IsCell cl (some (.int L tl))) (c2 : cells.lookup ("shares" : Str) = some cs) (v2 : s.heap.IsCell cs (some (.ref a)))
    (c3 : cells.lookup ("every" : Str) = some ce) (v3 : s.heap.IsCell ce (some (.int ev te))) (hl : IsX tt s.heap a its) (h0 : 0 ≤ i) (hfit : i < 2 ^ 63) (hx : its[i.toNat]? = some (.int S ts)) (he : 0 < ev) (hm : IntMulOk L S) :
    wpAny (model P w) A (call (.ref f) [.int i ti]) (PySem.W.KeyPure (.tuple [.int (-(L * S % ev)), .int i]) s) (fun _ _ => False) s := by
  refine wpAny_call (PySem.W.kla_callFunE hroom hf rfl rfl rfl rfl hc ?_)
  refine wpAny_mono (Q := fun (b : List (Str × Value)) s1 => b = [(("at" : Str), Value.int i ti)] ∧ s1 = s) (E := fun _ _ => False) (wpAny_pure ⟨rfl, rfl⟩) ?_ fun _ _ z => z.elim
  rintro b s1 ⟨rfl, rfl⟩
  refine wpAny_newFunctionEnv (show ∀ x ∈ lamSc.names, x.2 ≠ .cell by decide) (fun y hy => ?_) (fun h' hns hsb => ?_) rfl
  · rw [List.mem_singleton.mp hy]
    rfl
  have kp : ∀ b o, s1.heap.get? b = some o → h'.get? b = some o := fun b o e => hsb.extBut b o (Nat.ne_of_lt (Heap.lt_size e)) (Heap.get?_push_of_some _ e)
  have ck : ∀ {c : Addr} {v : Option Value}, s1.heap.IsCell c v → h'.IsCell c v := fun {c v} ⟨o, ho, hd⟩ => ⟨o, kp _ _ ho, hd⟩
  have lk : IsX tt h' a its := by
    cases tt with
    | false =>
      obtain ⟨o, ho, hr⟩ := (show s1.heap.IsList a its from hl)
      exact ⟨o, kp _ _ ho, hr⟩
    | true =>
      obtain ⟨o, ho, hr⟩ := (show s1.heap.IsTuple a its from hl)
      exact ⟨o, kp _ _ ho, hr⟩
  have e1 : lamClo cells = [(("shares" : Str), cs), (("left" : Str), cl), (("every" : Str), ce)] := by
    show [(("shares" : Str), (cells.lookup ("shares" : Str)).getD 0), (("left" : Str), (cells.lookup ("left" : Str)).getD 0), (("every" : Str), (cells.lookup ("every" : Str)).getD 0)] = _
    rw [c1, c2, c3]
    rfl
  refine ⟨lim.keeps kp, PySem.W.kla_codeExpr ?_⟩
  show wpAny _ _ (eval (lamBody p) (newEnv lamSc s1.heap.objs.size mainGlobals (lamClo cells) (qual ++ ".<locals>.") (some f) (.ref c') none builtinsNs)) _ _ _
  rw [e1]
  refine lam_body (m := fun x => ([(("at" : Str), Value.int i ti)] : List (Str × Value)).reverse.lookup x) rfl rfl rfl rfl rfl hns rfl rfl (ck v1) rfl (ck v2) rfl (ck v3) lk h0 hfit hx he hm fun t tk => ?_
  refine ⟨_, _, rfl, fun b o z => Heap.get?_push_of_some _ (kp b o z), ?_⟩
  have rd : ReadsAll (h'.push { cls := .type "tuple", data := .seq [Value.int (-(L * S % ev)) t, Value.int i ti].toArray }) [Value.int (-(L * S % ev)) t, Value.int i ti] [.int (-(L * S % ev)), .int i] ([] ++ ([] ++ [])) := .cons (.int _ _) (.cons (.int _ _) .nil)
  exact Reads.tuple (Heap.get?_push_size _ rfl) rfl rfl rd
end
section
variable {X : Cx} {pins : List (Addr × Obj)} {σ : L2.St} {H : Hp} {s : Shared}
theorem lam_make3 {T : List (Addr × Str)} {c P : Addr} {params : Arguments} {body : Expr} {scope : Scope} {pos : Pos} {E : Value → Shared → Prop} {Q : Value → Shared → Prop} (I : Inv X pins σ H s) (TB : LamX.TabB X.base X.mg c P) (hcode : X.env.code = .ref c)
    (hm : (P, X.env.qual ++ "<lambda>") ∈ T) (hu : ∀ p ∈ T, p.1 = P → p.2 = X.env.qual ++ "<lambda>") (hT : LamX.Tabs T H) (hdef : defaultsOf params X.env = ([], [])) (hfree : ∀ y ∈ scope.names, y.2 = .free → ∃ c, X.env.cells.lookup y.1 = some c)
    (h : ∀ (f c' : Addr) (pm ctv : Value) (H1 : Hp) (s' : Shared), Inv X pins σ H1 s' → (∀ b o, b ≠ P → H b = some o → H1 b = some o) → H1 P ≠ none → LamX.Tabs T H1 →
      s'.heap.get? f = some (PySem.W.kla_obj "<lambda>" (X.env.qual ++ "<lambda>") params body scope (cloFrom X.env.cells scope.names []) pm c' ctv) → H1 c' = some (LamX.CodeO c' (X.env.qual ++ "<lambda>")) → Q (.ref f) s') :
    wpAny (model X.prog X.w) X.A (eval (.Lambda params body scope pos) X.env) Q E s := by
  obtain ⟨ps, hP, ht, ha⟩ := hT _ hm
  refine PySem.W.kla_eval hdef ?_
  have bP := TB.bm.keeps I.bk
  have hP' := I.hok P _ hP
  cases hc : codeAmong pos ps.toList with
  | some cv =>
    obtain ⟨c', rfl, hco⟩ := ha pos cv hc
    refine PySem.W.kla_makeFunctionHit (mg := X.mg) (c := c) (P := P) (ps := ps) (closure_ok hfree) I.ok.glob (I.mod.glob.keeps I.bk) hcode (TB.code.keeps I.bk) hP' ht hc bP fun ctv h' tk hx hsz => ?_
    exact h h'.objs.size c' _ ctv H _ (I.kept fun b o e => Heap.get?_push_of_some _ (hx b o e)) (fun _ _ _ z => z) (by rw [hP]; simp) hT (Heap.get?_push_size _ rfl) hco
  | none =>
    refine PySem.W.kla_makeFunction (mg := X.mg) (c := c) (P := P) (ps := ps) (closure_ok hfree) I.ok.glob (I.mod.glob.keeps I.bk) hcode (TB.code.keeps I.bk) hP' ht hc TB.gP bP fun c' ctv h' tk hx hge hlt hrec htb => ?_
    obtain ⟨c2, oc, vs, t, e2, hoc, hd, hv⟩ := hrec
    cases e2
    have nC : H c' = none := I.hok.fresh hge
    have I1 := LamX.inv_table (t' := tk) (more := #[rawInt pos.line, rawInt pos.col, .ref c']) (h' := h'.push (PySem.W.kla_obj "<lambda>" (X.env.qual ++ "<lambda>") params body scope (cloFrom X.env.cells scope.names []) ((X.mg "__name__").getD .none) c' ctv)) I hP
      (fun b o hb e => Heap.get?_push_of_some _ (hx b o hb e)) (Heap.get?_push_of_some _ htb) hge ⟨oc, vs, t, Heap.get?_push_of_some _ hoc, hd, hv⟩
    have kk : ∀ b o, b ≠ P → H b = some o → upd (upd H P (.tbl (ps ++ #[rawInt pos.line, rawInt pos.col, .ref c']))) c' (LamX.CodeO c' (X.env.qual ++ "<lambda>")) b = some o := fun b o nb e => by
      rw [upd_ne (ne_of_none e nC), upd_ne nb]
      exact e
    have eP : upd (upd H P (.tbl (ps ++ #[rawInt pos.line, rawInt pos.col, .ref c']))) c' (LamX.CodeO c' (X.env.qual ++ "<lambda>")) P = some (.tbl (ps ++ #[rawInt pos.line, rawInt pos.col, .ref c'])) := by rw [upd_ne (ne_of_none hP nC), upd_same]
    have kc : ∀ b o, H b = some o → (∀ ps, o ≠ .tbl ps) → upd (upd H P (.tbl (ps ++ #[rawInt pos.line, rawInt pos.col, .ref c']))) c' (LamX.CodeO c' (X.env.qual ++ "<lambda>")) b = some o := fun b o e n => kk b o (fun z => n ps (Option.some.inj (e.symm.trans (by rw [z]; exact hP)))) e
    refine h h'.objs.size c' _ ctv _ _ I1 kk (by rw [eP]; simp) (fun p hp => ?_) (Heap.get?_push_size _ rfl) upd_same
    by_cases hb : p.1 = P
    · rw [hu p hp hb, hb]
      refine ⟨_, eP, ?_, fun p' cv hcv => ?_⟩
      · rw [Array.toList_append]
        exact PySem.TriplesOk_snoc _ _ _ _ ht
      · rw [Array.toList_append] at hcv
        rcases LamX.among_app _ ht hcv with z | z
        · obtain ⟨c0, e1, e2⟩ := ha p' cv z
          exact ⟨c0, e1, kc _ _ e2 LamX.codeO_ne⟩
        · exact ⟨c', z, upd_same⟩
    · obtain ⟨ps', a1, a2, a3⟩ := hT p hp
      refine ⟨ps', kk _ _ hb a1, a2, fun p' cv hcv => ?_⟩
      obtain ⟨c0, e1, e2⟩ := a3 p' cv hcv
      exact ⟨c0, e1, kc _ _ e2 LamX.codeO_ne⟩
end
/-- the code table has grown -/
theorem Ok.table {p : Par} {g : Gh} {m : Store} {H H1 : Hp} (o : Ok p g m H) {q : Addr × Str} (hq : q ∈ p.T) (kk : ∀ b u, b ≠ q.1 → H b = some u → H1 b = some u) (kP : H1 q.1 ≠ none) (t1 : LamX.Tabs p.T H1) : Ok p g m H1 ∧ Ext g H g H1 := by
  have bq : g.B q.1 = some .tab := o.tabB q hq
  have nb : ∀ b w, g.B b = w → w ≠ some .tab → b ≠ q.1 := fun b w z n e => n (by rw [← z, e]; exact bq)
  have no : ∀ b, H b ≠ none → H1 b ≠ none := fun b z => by
    by_cases e : b = q.1
    · rw [e]; exact kP
    · cases y : H b with
      | none => exact absurd y z
      | some u => rw [kk b u e y]; simp
  refine ⟨⟨fun b u z => kk b u (fun e => ?_) (o.fh b u z), o.bf, fun b z => no b (o.bh b z), t1, o.tabB, o.obl, fun n fs z => ?_⟩, Le.refl g, fun b u z y => kk b u (nb b _ y (by simp)) z, fun _ _ z => z, fun _ z => z, fun _ _ z => z, no⟩
  · have := o.bf q.1 (by rw [bq]; simp)
    rw [e, this] at z
    cases z
  · obtain ⟨x, e, dx, vf, q1, q2, q3, q4, q5⟩ := o.obs n fs z
    refine ⟨x, e, dx, vf, kk _ _ (nb x _ q3 (by simp)) q1, kk _ _ (nb dx _ q4 (by simp)) q2, q3, q4, Paired.imp2 q5 fun y w z => ⟨z.1, ?_⟩⟩
    have z2 := z.2
    unfold FldR at z2 ⊢
    cases hw : w.2 with
    | lst ds =>
      rw [hw] at z2
      obtain ⟨b, vs', y1, y2, y3, y4⟩ := z2
      exact ⟨b, vs', y1, kk _ _ (nb b _ y3 (by simp)) y2, y3, y4⟩
    | _ => rw [hw] at z2; exact z2
def sortKey (L ev : Int) (S : List Int) (i : Int) : Int := -(L * S.getD i.toNat 0 % ev)
def sortBy (L ev : Int) (S ns : List Int) : List Int := isort (fun p q => decide (sortKey L ev S p < sortKey L ev S q ∨ (sortKey L ev S p = sortKey L ev S q ∧ p ≤ q))) ns
theorem sortBy_merge (L ev : Int) (S ns : List Int) : sortBy L ev S ns = ns.mergeSort fun p q => decide (sortKey L ev S p < sortKey L ev S q ∨ (sortKey L ev S p = sortKey L ev S q ∧ p ≤ q)) := by
  have tr : ∀ a b c : Int, decide (sortKey L ev S a < sortKey L ev S b ∨ (sortKey L ev S a = sortKey L ev S b ∧ a ≤ b)) = true → decide (sortKey L ev S b < sortKey L ev S c ∨ (sortKey L ev S b = sortKey L ev S c ∧ b ≤ c)) = true → decide (sortKey L ev S a < sortKey L ev S c ∨ (sortKey L ev S a = sortKey L ev S c ∧ a ≤ c)) = true := fun a b c x y => by
    rw [decide_eq_true_eq] at *
    omega
  have tot : ∀ a b : Int, (decide (sortKey L ev S a < sortKey L ev S b ∨ (sortKey L ev S a = sortKey L ev S b ∧ a ≤ b)) || decide (sortKey L ev S b < sortKey L ev S a ∨ (sortKey L ev S b = sortKey L ev S a ∧ b ≤ a))) = true := fun a b => by
    rw [Bool.or_eq_true, decide_eq_true_eq, decide_eq_true_eq]
    omega
  refine List.Perm.eq_of_pairwise (le := fun a b => decide (sortKey L ev S a < sortKey L ev S b ∨ (sortKey L ev S a = sortKey L ev S b ∧ a ≤ b)) = true) (fun a b _ _ x y => ?_) (pairwise_isort tr tot ns) (List.pairwise_mergeSort tr tot ns) ((isort_perm ns _).trans (List.mergeSort_perm ns _).symm)
  rw [decide_eq_true_eq] at x y
  omega
def sortOk (L ev : Int) (S ns : List Int) : Bool := decide (0 < ev) && ns.all (fun i => decide (0 ≤ i ∧ i < S.length)) && S.all (fun z => decide (mulOk L z)) && decide (S.length < 4294967296) && decide (ns.length < 16777216)
def sortD (dn dl ds de : D) : Option D := match dl, de, lstInts dn, seqInts ds with
  | .int L, .int ev, some ns, some S => if sortOk L ev S ns then some (.lst ((sortBy L ev S ns).map D.int)) else none
  | _, _, _, _ => none
def evSort (ir il is ie : Nat) (rho : En) : M D := bnd (evVar ir rho) fun dn => bnd (evVar il rho) fun dl => bnd (evVar is rho) fun ds => bnd (evVar ie rho) fun de => lift (sortD dn dl ds de)
theorem sortD_some {dn dl ds de d : D} (h : sortD dn dl ds de = some d) : ∃ L ev ns S, dl = .int L ∧ de = .int ev ∧ lstInts dn = some ns ∧ seqInts ds = some S ∧ sortOk L ev S ns = true ∧ d = .lst ((sortBy L ev S ns).map D.int) := by
  unfold sortD at h
  split at h
  · split at h
    · cases h
      exact ⟨_, _, _, _, rfl, rfl, by assumption, by assumption, by assumption, rfl⟩
    · cases h
  · cases h
theorem each_vals : ∀ {vs : List V} {us : List Value} {ns : List Int}, vs = ns.map V.int → Vals vs us → PySem.W.EachIs (fun (v : Value) (x : Int) => ∃ t, v = .int x t) us ns
  | _, _, [], e, r => by subst e; cases r; exact .nil
  | _, _, n :: ns, e, r => by
    subst e
    cases r with
    | cons h t => exact .cons h (each_vals rfl t)
theorem vals_each : ∀ {us : List Value} {ns : List Int}, PySem.W.EachIs (fun (v : Value) (x : Int) => ∃ t, v = .int x t) us ns → Vals (ns.map V.int) us
  | _, _, .nil => .nil
  | _, _, .cons h t => .cons h (vals_each t)
theorem e_sort {X : Cx} {fr : Fr} {c P : Addr} {ir il is ie : Nat} {p : LamP} {p1 p2 q lpos kpos pos : Pos} {xr : Str} (hK : X.K = fr.p.K) (hg : Gl X "sorted") (hm : X.mg "sorted" = none) (TB : LamX.TabB X.base X.mg c P) (hcode : X.env.code = .ref c)
    (hmT : (P, X.env.qual ++ "<lambda>") ∈ fr.p.T) (hu : ∀ p ∈ fr.p.T, p.1 = P → p.2 = X.env.qual ++ "<lambda>") {k : Nat} (hr : Room k X.A) (hNr : X.N[ir]? = some xr) (hvr : Vis X.env.scope xr) (hd1 : (xr == ("__debug__" : Str)) = false) (hd2 : (xr == ("__classdict__" : Str)) = false)
    (hNl : X.N[il]? = some "left") (hNs : X.N[is]? = some "shares") (hNe : X.N[ie]? = some "every") (kl : X.env.scope.names.lookup ("left" : Str) = some .cell) (ks : X.env.scope.names.lookup ("shares" : Str) = some .cell) (ke : X.env.scope.names.lookup ("every" : Str) = some .cell)
    (he : backTo pos (starEach [.Name xr p2] X.env) = (false, eval (.Name xr p2) X.env) :: backTo pos (starEach [] X.env)) (hpl : (backTo pos (starEach [.Name xr p2] X.env)).any (·.1) = false) :
    PE X (.Call (.Name "sorted" p1) [.Name xr p2] [⟨some "key", .Lambda (lamAr q) (lamBody p) lamSc lpos, kpos⟩] pos) (TV fr (vF fr.p.K) (evSort ir il is ie)) := by
  refine ⟨fun pins s σ H Q I ⟨rho, g, m, rl, w⟩ => ?_⟩
  obtain ⟨dn, h1, w1⟩ := wp_lift.mp (wp_bnd.mp w)
  obtain ⟨dl, h2, w2⟩ := wp_lift.mp (wp_bnd.mp w1)
  obtain ⟨dsh, h3, w3⟩ := wp_lift.mp (wp_bnd.mp w2)
  obtain ⟨de, h4, w4⟩ := wp_lift.mp (wp_bnd.mp w3)
  obtain ⟨d, h5, q5⟩ := wp_lift.mp w4
  obtain ⟨L, ev, ns, S, rfl, rfl, hns, hS, hok, rfl⟩ := sortD_some h5
  obtain ⟨ow, hval⟩ := rl.val
  obtain ⟨vn, sn, rn⟩ := hval _ _ (join_some h1)
  obtain ⟨vl, sl, rl'⟩ := hval _ _ (join_some h2)
  obtain ⟨vs, ss, rs⟩ := hval _ _ (join_some h3)
  obtain ⟨ve, se, re⟩ := hval _ _ (join_some h4)
  have rn := rn.any rl.ok
  have rs := rs.any rl.ok
  have e2 : vl = .int L := RepA.int (rl'.any rl.ok)
  have e4 : ve = .int ev := RepA.int (re.any rl.ok)
  subst e2 e4
  obtain ⟨an, rfl, hn⟩ := lstInts_rep rn hns
  obtain ⟨as, rfl, hs⟩ := seqInts_rep rl.ok rs hS
  have hz : s.heap = s.heap := rfl
  refine wpAny_Call_Name_kw (ld_blt I hg hm rfl ?_ (by decide) (by decide))
  refine PyProof.Rows.callWith_kw ?_ he hpl rfl rfl
  refine thn ((pa_cons (pe_var (pos := p2) (i := ir) hNr hvr hd1 hd2) pa_nil).run pos pins s σ H (fun vs H1 => vs = [.ref an] ∧ H1 = H) I ⟨_, sn, rfl, rfl⟩) fun us s1 ⟨vs1, H1, I1, r1, e1, eH⟩ => ?_
  subst e1 eH
  obtain rfl := Vals.ref1 r1
  refine PyProof.Rows.kwAll_cons (lam_make3 I1 TB hcode hmT hu rl.ok.tabs rfl (fun y hy e => ?_) fun f c' pm ctv H2 s2 I2 kk kP T2 hf hc => ?_)
  · rcases List.mem_cons.mp hy with z | hy
    · rw [z] at e; cases e
    rcases List.mem_cons.mp hy with z | hy
    · rw [z]; exact I1.ok.has _ (.inl ke)
    rcases List.mem_cons.mp hy with z | hy
    · rw [z]; exact I1.ok.has _ (.inl kl)
    rcases List.mem_cons.mp hy with z | hy
    · rw [z]; exact I1.ok.has _ (.inl ks)
    · cases hy
  refine PyProof.Rows.kwAll_nil ?_
  show wpAny _ _ (call (.builtin "sorted") [.ref an] [(Str.ofString "key", .ref f)]) _ _ _
  obtain ⟨o2, x2⟩ := rl.ok.table hmT kk kP T2
  obtain ⟨mm, hns2, hl⟩ := I2.loc
  have cell : ∀ {i : Nat} {x : Str} {v : V}, X.N[i]? = some x → σ[i]? = some (some v) → X.env.scope.names.lookup x = some .cell → ∃ u c, RelV v u ∧ X.env.cells.lookup x = some c ∧ s2.heap.IsCell c (some u) := fun {i x v} n1 n2 n3 => by
    obtain ⟨u, ru, z⟩ := hl i x v n1 n2 (.inr (.inl n3))
    rcases z with ⟨k', _⟩ | ⟨_, c, k1, k2⟩
    · rw [show X.env.kindOf x = some .cell from n3] at k'; cases k'
    · exact ⟨u, c, ru, k1, k2⟩
  obtain ⟨u1, c1, ⟨t1, rfl⟩, k1, k1'⟩ := cell hNl sl kl
  obtain ⟨u2, c2, ru2, k2, k2'⟩ := cell hNs ss ks
  obtain rfl : u2 = .ref as := ru2
  obtain ⟨u3, c3, ⟨t3, rfl⟩, k3, k3'⟩ := cell hNe se ke
  have rn2 : RepA fr.p.K g H2 (.ref an) dn := RepA.ext x2 rn
  have rs2 : RepA fr.p.K g H2 (.ref as) dsh := RepA.ext x2 rs
  obtain ⟨an', z1, hn2⟩ := lstInts_rep rn2 hns
  cases z1
  obtain ⟨as', z2, hs2⟩ := seqInts_rep o2 rs2 hS
  cases z2
  rw [← hK] at hn2 hs2
  obtain ⟨its, rv, pl, hz1⟩ := I2.list hn2
  obtain ⟨tt, jts, rw', pw⟩ : ∃ (tt : Bool) (jts : List Value), Vals (S.map V.int) jts ∧ IsX tt s2.heap as jts.toArray := by
    rcases hs2 with z | z
    · obtain ⟨jts, a1, a2, _⟩ := I2.list z
      exact ⟨false, jts, a1, a2.isList⟩
    · obtain ⟨jts, a1, a2, _⟩ := I2.tuple z
      exact ⟨true, jts, a1, a2⟩
  have en := each_vals rfl rv
  unfold sortOk at hok
  simp only [Bool.and_eq_true, decide_eq_true_eq, List.all_eq_true] at hok
  obtain ⟨⟨⟨⟨hev, hin⟩, hmul⟩, hls⟩, hln⟩ := hok
  obtain ⟨⟨oc, vs, t, hoc, hdc, hvc⟩, _, _⟩ := I2.hok c' _ hc
  refine PySem.W.sorted_key_data (b := false) (R := fun (v : Value) (x : Int) => ∃ t, v = .int x t) (bs := ns) (vs := its) (fun x : Int => .tuple [.int (sortKey L ev S x), .int x]) pl.isList en (PySem.W.AllAlike.of fun _ _ => by simp [PySem.W.alike, PySem.W.alikeAll]) (PySem.W.Sortable.tuples fun _ => ⟨_, _, rfl⟩) (by rw [sizeLine_eq]; omega) (fun x _ => ?_) (PyProof.Rows.ksk_s1 _ _) (fun _ => PyProof.Rows.ksk_l1 _ _) (fun _ => PyProof.Rows.ksk_t1 _ _)
    (fun v x hv hx h tk kp => ?_) fun out c0 h' tk kp _ hD hlo eo => ?_
  · have hd : (PyData.tuple [.int (sortKey L ev S x), .int x]).depth = 1 := by simp [PyData.depth, PyData.depthAll]
    rw [hd]
    have := hr.un
    omega
  · obtain ⟨t, rfl⟩ := hv
    obtain ⟨b1, b2⟩ := hin x hx
    have hlt : x.toNat < S.length := by omega
    obtain ⟨u, hu1, tu, hu2⟩ := Vals.get rw' (show (S.map V.int)[x.toNat]? = some (.int (S[x.toNat])) by simp [hlt])
    have ck : ∀ {c : Addr} {v : Option Value}, s2.heap.IsCell c v → h.IsCell c v := fun {c v} ⟨o, ho, hd⟩ => ⟨o, kp _ _ ho, hd⟩
    subst hu2
    have eS : sortKey L ev S x = -(L * S[x.toNat] % ev) := by
      unfold sortKey
      rw [show S.getD x.toNat 0 = S[x.toNat] by simp [hlt]]
    rw [eS]
    refine lam_call (tt := tt) (s := { s2 with heap := h, toks := tk }) (its := jts.toArray) hr.depth (kp _ _ hf) ⟨c', oc, vs, _, rfl, kp _ _ hoc, hdc, hvc⟩ (I2.nolimit.keeps kp) k1 (ck k1') k2 (ck k2') k3 (ck k3') ?_ b1 (by omega) (by simpa using hu1) hev ?_
    · cases tt with
      | false =>
        obtain ⟨o, ho, hr⟩ := (show s2.heap.IsList as jts.toArray from pw)
        exact ⟨o, kp _ _ ho, hr⟩
      | true =>
        obtain ⟨o, ho, hr⟩ := (show s2.heap.IsTuple as jts.toArray from pw)
        exact ⟨o, kp _ _ ho, hr⟩
    · exact (hmul _ (List.getElem_mem hlt)).elim (fun z => CMul.ok z) fun z => CMulW.ok z
  · rw [PySem.W.dataLe_ii (β := Int) (fun x => sortKey L ev S x) (fun x => x)] at eo
    have eo' : PySem.W.EachIs (fun (v : Value) (x : Int) => ∃ t, v = .int x t) out (sortBy L ev S ns) := by rw [sortBy_merge]; exact eo
    have fr0 : H2 (s2.heap.objs.size + 1) = none := I2.hok.fresh (Nat.le_succ _)
    obtain ⟨o3, e3⟩ := o2.raw fr0 (.lst ((sortBy L ev S ns).map V.int))
    have hle : ((sortBy L ev S ns).map V.int).length ≤ sizeLine := by
      rw [List.length_map, ← eo'.length, hlo, sizeLine_eq]
      omega
    refine ⟨.ref _, upd H2 (s2.heap.objs.size + 1) (.lst ((sortBy L ev S ns).map V.int)), I2.laid kp (Nat.le_succ _) ⟨hle, out, c0, vals_each eo', hD⟩, rfl, ?_⟩
    exact q5 _ g _ (x2.trans e3) o3 ⟨_, _, rfl, x2.fresh fr0, upd_same, o2.fnone fr0, o2.bnone fr0, RepL.of_ints _⟩
end PF
namespace PF
open PySem L2
/-! ### objects of the one class -/
def obGet (m : Store) (n : Nat) (f : Str) : Option D := (m[n]?).bind fun ob => ob.lookup f
def putFD (f : Str) (d : D) : Ob → Ob
  | [] => [(f, d)]
  | (g, x) :: r => if g = f then (g, d) :: r else (g, x) :: putFD f d r
def obPut (m : Store) (n : Nat) (f : Str) (d : D) : Store := match m[n]? with
  | some ob => m.set n (putFD f d ob)
  | none => m
section
variable {F : Str → V → D → Prop}
abbrev RF (F : Str → V → D → Prop) (q : Str × V) (r : Str × D) : Prop := q.1 = r.1 ∧ F q.1 q.2 r.2
theorem look_rep {f : Str} : ∀ {vf : List (Str × V)} {fs : Ob}, Paired (RF F) vf fs → (∀ d, fs.lookup f = some d → ∃ v, vf.lookup f = some v ∧ F f v d) ∧ (fs.lookup f = none → vf.lookup f = none)
  | _, _, .nil => ⟨fun _ z => by (cases z), fun _ => rfl⟩
  | _, _, .cons (a := a) (b := b) h t => by
    have ih := look_rep (f := f) t
    obtain ⟨a1, a2⟩ := a
    obtain ⟨b1, b2⟩ := b
    obtain ⟨e, h2⟩ := h
    have e : a1 = b1 := e
    subst e
    rw [List.lookup_cons, List.lookup_cons]
    by_cases q : f = a1
    · subst q
      rw [beq_self_eq_true]
      exact ⟨fun d z => ⟨a2, rfl, by cases z; exact h2⟩, fun z => by cases z⟩
    · rw [beq_eq_false_iff_ne.mpr q]
      exact ih
theorem putF_rep {f : Str} {v : V} {d : D} (r : F f v d) : ∀ {vf : List (Str × V)} {fs : Ob}, Paired (RF F) vf fs → Paired (RF F) (putF f v vf) (putFD f d fs)
  | _, _, .nil => .cons ⟨rfl, r⟩ .nil
  | _, _, .cons (a := a) (b := b) h t => by
    obtain ⟨a1, a2⟩ := a
    obtain ⟨b1, b2⟩ := b
    obtain ⟨e, h2⟩ := h
    have e : a1 = b1 := e
    subst e
    show Paired (RF F) (if a1 = f then (a1, v) :: _ else (a1, a2) :: putF f v _) (if a1 = f then (a1, d) :: _ else (a1, b2) :: putFD f d _)
    by_cases q : a1 = f
    · rw [if_pos q, if_pos q]
      exact .cons ⟨rfl, by rw [q]; exact r⟩ t
    · rw [if_neg q, if_neg q]
      exact .cons ⟨rfl, h2⟩ (putF_rep r t)
end
theorem paired_len {α β : Type} {R : α → β → Prop} : ∀ {l : List α} {k : List β}, Paired R l k → l.length = k.length
  | _, _, .nil => rfl
  | _, _, .cons _ t => congrArg Nat.succ (paired_len t)
/-- where an object stands -/
theorem Ok.objAt {p : Par} {g : Gh} {m : Store} {H : Hp} (o : Ok p g m H) {v : V} {n : Nat} (r : Rep p.K g v (.obj n)) {ob : Ob} (hm : m[n]? = some ob) : ∃ x, v = .ref x ∧ g.io[n]? = some x ∧ ObR p g H n x ob := by
  cases r with
  | obj h =>
    obtain ⟨x, e, q⟩ := o.obs n ob hm
    rw [h] at e
    cases e
    exact ⟨_, rfl, h, q⟩
/-- H is changed at one place that is an object's own; the other objects stay -/
theorem Ok.at1 {p : Par} {g : Gh} {m : Store} {H : Hp} (o : Ok p g m H) {a : Addr} {w : Own} (hb : g.B a = some w) (hw : w ≠ .tab) {u0 : HO} (hH : H a = some u0) (hT : (∀ x, u0 ≠ .tbl x) ∧ ∀ x, u0 ≠ .ext x) (u : HO) {n : Nat} {ob ob' : Ob} (hm : m[n]? = some ob)
    (hn : w = .ins n ∨ (∃ f, w = .fld n f)) (hx : ∃ x, g.io[n]? = some x ∧ ObR p g (upd H a u) n x ob') : Ok p g (m.set n ob') (upd H a u) ∧ Ext g H g (upd H a u) := by
  have bn : g.B a ≠ none := by rw [hb]; simp
  have up : ∀ b o, b ≠ a → H b = some o → upd H a u b = some o := fun b o nb z => by rw [upd_ne nb]; exact z
  have nf : ∀ b o, g.F b = some o → b ≠ a := fun b o z y => by rw [y, o_bf] at z; cases z
  refine ⟨⟨fun b q z => up b q (nf b q z) (o.fh b q z), o.bf, fun b z => ?_, fun q hq => ?_, o.tabB, by rw [List.length_set]; exact o.obl, fun j fs z => ?_⟩, Le.refl g, fun b q z nb => up b q (fun y => by rw [y] at nb; exact bn nb) z, fun _ _ z => z, fun _ z => z, fun _ _ z => z, fun b z => ?_⟩
  · by_cases y : b = a
    · rw [y, upd_same]; simp
    · rw [upd_ne y]; exact o.bh b z
  · obtain ⟨ps, p1, p2, p3⟩ := o.tabs q hq
    have ne : q.1 ≠ a := fun y => by
      have z := o.tabB q hq
      rw [y, hb] at z
      exact hw (Option.some.inj z)
    refine ⟨ps, up _ _ ne p1, p2, fun pos cv hc => ?_⟩
    obtain ⟨c, e2, e3⟩ := p3 pos cv hc
    refine ⟨c, e2, up _ _ (fun y => ?_) e3⟩
    rw [y, hH] at e3
    unfold LamX.CodeO at e3
    exact hT.2 _ (Option.some.inj e3)
  · by_cases y : j = n
    · subst y
      rw [List.getElem?_set_self (List.getElem?_eq_some_iff.mp hm).1] at z
      cases z
      exact hx
    · rw [List.getElem?_set_ne (Ne.symm y)] at z
      obtain ⟨x, e, dx, vf, q1, q2, q3, q4, q5⟩ := o.obs j fs z
      have far : ∀ b w', g.B b = some w' → (w' = .ins j ∨ w' = .dic j ∨ ∃ f, w' = .fld j f) → b ≠ a := fun b w' hb' hc y2 => by
        rw [y2, hb] at hb'
        have e := Option.some.inj hb'
        subst e
        rcases hn with hn | ⟨f, hn⟩ <;> rcases hc with hc | hc | ⟨f', hc⟩ <;> rw [hn] at hc <;> cases hc <;> exact y rfl
      refine ⟨x, e, dx, vf, up _ _ (far x _ q3 (.inl rfl)) q1, up _ _ (far dx _ q4 (.inr (.inl rfl))) q2, q3, q4, Paired.imp2 q5 fun q w' z => ⟨z.1, ?_⟩⟩
      have z2 := z.2
      unfold FldR at z2 ⊢
      cases hw' : w'.2 with
      | lst ds =>
        rw [hw'] at z2
        obtain ⟨b, vs', y1, y2, y3, y4⟩ := z2
        exact ⟨b, vs', y1, up _ _ (far b _ y3 (.inr (.inr ⟨_, rfl⟩))) y2, y3, y4⟩
      | _ => rw [hw'] at z2; exact z2
  · by_cases y : b = a
    · rw [y, upd_same]; simp
    · rw [upd_ne y]; exact z
where
  o_bf : g.F a = none := o.bf a (by rw [hb]; simp)
/-- a field's value is another one, no list -/
theorem Ok.setF {p : Par} {g : Gh} {m : Store} {H : Hp} (o : Ok p g m H) {n : Nat} {x : Addr} {ob : Ob} (hm : m[n]? = some ob) (hi : g.io[n]? = some x) {dx : Addr} {vf : List (Str × V)} (h1 : H x = some (.ins p.C dx vf)) (h2 : H dx = some (.own x)) (h3 : g.B x = some (.ins n)) (h4 : g.B dx = some (.dic n))
    (h5 : Paired (fun (q : Str × V) (r : Str × D) => q.1 = r.1 ∧ FldR p.K g H n q.1 q.2 r.2) vf ob) {f : Str} {v : V} {d : D} (r : FldR p.K g H n f v d) : Ok p g (m.set n (putFD f d ob)) (upd H x (.ins p.C dx (putF f v vf))) ∧ Ext g H g (upd H x (.ins p.C dx (putF f v vf))) := by
  have ndx : dx ≠ x := fun e => by rw [e, h3] at h4; cases h4
  have keep : ∀ {u : HO} (f : Str) (v : V) (d : D), FldR p.K g H n f v d → FldR p.K g (upd H x u) n f v d := fun {u} f v d z => by
    unfold FldR at z ⊢
    cases d with
    | lst ds =>
      obtain ⟨b, vs, e, y1, y2, y3⟩ := z
      exact ⟨b, vs, e, by rw [upd_ne (fun q => by rw [q, h3] at y2; cases y2)]; exact y1, y2, y3⟩
    | _ => exact z
  refine o.at1 h3 (fun z => by cases z) h1 ⟨(fun _ z => by cases z), fun _ z => by cases z⟩ _ hm (.inl rfl) ⟨x, hi, dx, _, upd_same, by rw [upd_ne ndx]; exact h2, h3, h4, ?_⟩
  have z2 : Paired (RF (FldR p.K g (upd H x (.ins p.C dx (putF f v vf))) n)) vf ob := Paired.imp2 h5 fun q r' z => ⟨z.1, keep _ _ _ z.2⟩
  exact putF_rep (F := FldR p.K g (upd H x (.ins p.C dx (putF f v vf))) n) (keep f v d r) z2
/-- what stands and is nobody's is somebody's -/
def Gh.give (g : Gh) (a : Addr) (w : Own) : Gh := { g with B := fun b => if b = a then some w else g.B b }
theorem give_same {g : Gh} {a : Addr} {w : Own} : (g.give a w).B a = some w := if_pos rfl
theorem give_ne {g : Gh} {a b : Addr} {w : Own} (h : b ≠ a) : (g.give a w).B b = g.B b := if_neg h
theorem Rep.give {K : PySem.W.Frag} {g : Gh} {a : Addr} {w : Own} {v : V} {d : D} (r : Rep K g v d) : Rep K (g.give a w) v d := Rep.mono (g := g) (g' := g.give a w) ⟨Same.refl _, [], by simp [Gh.give]⟩ r
theorem Ok.give {p : Par} {g : Gh} {m : Store} {H : Hp} (o : Ok p g m H) {a : Addr} {u : HO} (h : H a = some u) (hb : g.B a = none) (hf : g.F a = none) (w : Own) : Ok p (g.give a w) m H := by
  have ne : ∀ b, g.B b ≠ none → b ≠ a := fun b z y => z (by rw [y]; exact hb)
  have l : Le g (g.give a w) := ⟨Same.refl _, [], by simp [Gh.give]⟩
  refine ⟨o.fh, fun b z => ?_, fun b z => ?_, o.tabs, fun q hq => ?_, o.obl, fun n fs z => ?_⟩
  · by_cases y : b = a
    · rw [y]; exact hf
    · rw [give_ne y] at z; exact o.bf b z
  · by_cases y : b = a
    · rw [y, h]; simp
    · rw [give_ne y] at z; exact o.bh b z
  · have t := o.tabB q hq
    rw [give_ne (ne _ (by rw [t]; simp))]
    exact t
  · obtain ⟨x, e, dx, vf, q1, q2, q3, q4, q5⟩ := o.obs n fs z
    refine ⟨x, e, dx, vf, q1, q2, by rw [give_ne (ne x (by rw [q3]; simp))]; exact q3, by rw [give_ne (ne dx (by rw [q4]; simp))]; exact q4, Paired.imp2 q5 fun q w' z => ⟨z.1, ?_⟩⟩
    have z2 := z.2
    unfold FldR at z2 ⊢
    cases hw' : w'.2 with
    | lst ds =>
      rw [hw'] at z2
      obtain ⟨b, vs', y1, y2, y3, y4⟩ := z2
      exact ⟨b, vs', y1, y2, by rw [give_ne (ne b (by rw [y3]; simp))]; exact y3, y4.mono l⟩
    | _ => rw [hw'] at z2; exact Rep.mono l z2
theorem Ext.give {g0 g : Gh} {H0 H : Hp} (e : Ext g0 H0 g H) {a : Addr} (h : H0 a = none) (w : Own) : Ext g0 H0 (g.give a w) H := by
  refine ⟨⟨e.le.ff, e.le.io⟩, e.hh, e.fn, fun b z => ?_, fun b z n => ?_, e.no⟩
  · by_cases y : b = a
    · rw [y, give_same]; simp
    · rw [give_ne y]; exact e.bb b z
  · rw [give_ne (fun y => z (by rw [y]; exact h))]
    exact e.bn b z n
/-- a field's own list is another one -/
theorem Ok.mutF {p : Par} {g : Gh} {m : Store} {H : Hp} (o : Ok p g m H) {n : Nat} {x : Addr} {ob : Ob} (hm : m[n]? = some ob) (hnd : (ob.map (·.1)).Nodup) (hi : g.io[n]? = some x) {dx : Addr} {vf : List (Str × V)} (h1 : H x = some (.ins p.C dx vf)) (h2 : H dx = some (.own x)) (h3 : g.B x = some (.ins n)) (h4 : g.B dx = some (.dic n))
    (h5 : Paired (fun (q : Str × V) (r : Str × D) => q.1 = r.1 ∧ FldR p.K g H n q.1 q.2 r.2) vf ob) {f : Str} {a : Addr} {vs : List V} {ds : List D} (hv : vf.lookup f = some (.ref a)) (ha : H a = some (.lst vs)) (hb : g.B a = some (.fld n f)) {ws : List V} {es : List D} (r : RepL p.K g ws es) (hf : ob.lookup f = some (.lst ds)) :
    Ok p g (m.set n (putFD f (.lst es) ob)) (upd H a (.lst ws)) ∧ Ext g H g (upd H a (.lst ws)) := by
  refine o.at1 hb (fun z => by cases z) ha ⟨(fun _ z => by cases z), fun _ z => by cases z⟩ _ hm (.inr ⟨f, rfl⟩) ⟨x, hi, dx, vf, ?_, ?_, h3, h4, ?_⟩
  · rw [upd_ne (fun q => by rw [q, hb] at h3; cases h3)]; exact h1
  · rw [upd_ne (fun q => by rw [q, hb] at h4; cases h4)]; exact h2
  · have far : ∀ (f' : Str) (v : V) (d : D), f' ≠ f → FldR p.K g H n f' v d → FldR p.K g (upd H a (.lst ws)) n f' v d := fun f' v d nf z => by
      unfold FldR at z ⊢
      cases d with
      | lst ds =>
        obtain ⟨b, vs, e, y1, y2, y3⟩ := z
        exact ⟨b, vs, e, by rw [upd_ne (fun q => by rw [q, hb] at y2; cases y2; exact nf rfl)]; exact y1, y2, y3⟩
      | _ => exact z
    clear hm hi h1 h2 h3 h4 o
    revert hv hf hnd
    induction h5 with
    | nil => intro _ hv; cases hv
    | cons hh t ih =>
      rename_i q rr l k
      obtain ⟨q1, q2⟩ := q
      obtain ⟨r1, r2⟩ := rr
      obtain ⟨e, hh⟩ := hh
      have e : q1 = r1 := e
      subst e
      intro hnd hv hf
      rw [List.map_cons, List.nodup_cons] at hnd
      show Paired _ ((q1, q2) :: l) (if q1 = f then (q1, .lst es) :: k else (q1, r2) :: putFD f (.lst es) k)
      by_cases y : q1 = f
      · rw [if_pos y]
        subst y
        rw [List.lookup_cons, beq_self_eq_true] at hv
        have hv' : q2 = .ref a := Option.some.inj hv
        clear hv
        refine .cons ⟨rfl, ?_⟩ ?_
        · exact ⟨a, ws, hv', upd_same, hb, r⟩
        · clear ih
          have nin : ∀ z ∈ k, z.1 ≠ q1 := fun z hz e => hnd.1 (List.mem_map.mpr ⟨z, hz, e⟩)
          clear hnd hf hh hv'
          induction t with
          | nil => exact .nil
          | cons h' t' ih' =>
            refine .cons ⟨h'.1, far _ _ _ ?_ h'.2⟩ (ih' fun z hz => nin z (List.mem_cons_of_mem _ hz))
            rw [h'.1]
            exact nin _ (List.mem_cons_self ..)
      · rw [if_neg y]
        have ne : (f == q1) = false := beq_eq_false_iff_ne.mpr fun z => y z.symm
        rw [List.lookup_cons, ne] at hv hf
        exact .cons ⟨rfl, far _ _ _ y hh⟩ (ih hnd.2 hv hf)
/-- a new object -/
theorem Ok.make {p : Par} {g : Gh} {m : Store} {H : Hp} (o : Ok p g m H) {x dx : Addr} (hx : H x = none) (hd : H dx = none) (hne : dx ≠ x) :
    ∃ g', Ok p g' (m ++ [[]]) (upd (upd H dx (.own x)) x (.ins p.C dx [])) ∧ Ext g H g' (upd (upd H dx (.own x)) x (.ins p.C dx [])) ∧ Rep p.K g' (.ref x) (.obj m.length) := by
  let g' : Gh := { F := g.F, B := fun b => if b = x then some (.ins m.length) else if b = dx then some (.dic m.length) else g.B b, io := g.io ++ [x] }
  have Bx : g'.B x = some (.ins m.length) := if_pos rfl
  have Bd : g'.B dx = some (.dic m.length) := (if_neg hne).trans (if_pos rfl)
  have Bo : ∀ b, b ≠ x → b ≠ dx → g'.B b = g.B b := fun b h1 h2 => (if_neg h1).trans (if_neg h2)
  have up : ∀ b q, H b = some q → upd (upd H dx (.own x)) x (.ins p.C dx []) b = some q := fun b q z => by
    rw [upd_ne (ne_of_none z hx), upd_ne (ne_of_none z hd)]
    exact z
  have l : Le g g' := ⟨Same.refl _, [x], rfl⟩
  have old : ∀ b, H b ≠ none → g'.B b = g.B b := fun b z => Bo b (fun y => z (by rw [y]; exact hx)) (fun y => z (by rw [y]; exact hd))
  have stay : ∀ b, g.B b ≠ none → g'.B b = g.B b := fun b z => old b (o.bh b z)
  refine ⟨g', ⟨fun b q z => up b q (o.fh b q z), fun b z => ?_, fun b z => ?_, o.tabs.ext up, fun q hq => ?_, ?_, fun n fs z => ?_⟩, ⟨l, fun b q z _ => up b q z, fun _ _ z => z, fun b z => by rw [stay b z]; exact z, fun b z n => by rw [old b z]; exact n, fun b z => ?_⟩, .obj ?_⟩
  · by_cases y : b = x
    · rw [y]; exact o.fnone hx
    · by_cases y2 : b = dx
      · rw [y2]; exact o.fnone hd
      · rw [Bo b y y2] at z; exact o.bf b z
  · by_cases y : b = x
    · rw [y, upd_same]; simp
    · rw [upd_ne y]
      by_cases y2 : b = dx
      · rw [y2, upd_same]; simp
      · rw [upd_ne y2]
        rw [Bo b y y2] at z; exact o.bh b z
  · have t := o.tabB q hq
    rw [stay _ (by rw [t]; simp)]
    exact t
  · show (m ++ [[]]).length = (g.io ++ [x]).length
    rw [List.length_append, List.length_append, o.obl]
    rfl
  · by_cases y : n < m.length
    · rw [List.getElem?_append_left y] at z
      obtain ⟨w, e, dw, vf, q1, q2, q3, q4, q5⟩ := o.obs n fs z
      refine ⟨w, ?_, dw, vf, up _ _ q1, up _ _ q2, by rw [stay w (by rw [q3]; simp)]; exact q3, by rw [stay dw (by rw [q4]; simp)]; exact q4, Paired.imp2 q5 fun q w' z => ⟨z.1, ?_⟩⟩
      · show (g.io ++ [x])[n]? = _
        rw [List.getElem?_append_left (by rw [← o.obl]; exact y)]
        exact e
      have z2 := z.2
      unfold FldR at z2 ⊢
      cases hw' : w'.2 with
      | lst ds =>
        rw [hw'] at z2
        obtain ⟨b, vs', y1, y2, y3, y4⟩ := z2
        exact ⟨b, vs', y1, up _ _ y2, by rw [stay b (by rw [y3]; simp)]; exact y3, y4.mono l⟩
      | _ => rw [hw'] at z2; exact Rep.mono l z2
    · rw [List.getElem?_append_right (by omega)] at z
      have e : n = m.length := by
        have := (List.getElem?_eq_some_iff.mp z).1
        simp at this
        omega
      subst e
      rw [Nat.sub_self] at z
      cases z
      refine ⟨x, ?_, dx, [], upd_same, by rw [upd_ne hne, upd_same], Bx, Bd, .nil⟩
      show (g.io ++ [x])[m.length]? = _
      rw [o.obl, List.getElem?_append_right (Nat.le_refl _), Nat.sub_self]
      rfl
  · by_cases y : b = x
    · rw [y, upd_same]; simp
    · rw [upd_ne y]
      by_cases y2 : b = dx
      · rw [y2, upd_same]; simp
      · rw [upd_ne y2]; exact z
  · show (g.io ++ [x])[m.length]? = _
    rw [o.obl, List.getElem?_append_right (Nat.le_refl _), Nat.sub_self]
    rfl
end PF
namespace PF
open PySem L2
/-! ### forms -/
def pln : Expr → Bool
  | .Starred .. => false
  | .Set .. => false
  | .Slice .. => false
  | _ => true
def noCmp : Expr → Bool
  | .ListComp .. => false
  | .SetComp .. => false
  | .DictComp .. => false
  | _ => true
def tru : Expr → Bool
  | .UnaryOp .. => false
  | .BoolOp .. => false
  | .IfExp .. => false
  | .Compare .. => false
  | _ => true
def noTup : Expr → Bool
  | .Tuple .. => false
  | _ => true
section
variable {e : Expr} {es : List Expr} {env : Env}
theorem star_eq (h : pln e = true) : starEach (e :: es) env = (false, eval e env) :: starEach es env := by cases e <;> first | rfl | cases h
theorem swaps_eq {t : Option Expr} {l : Nat} (h : noCmp e = true) : swapsWith e t l env = pure false := by cases e <;> first | rfl | cases h
theorem folded_eq (h : pln e = true) : ∀ x, foldedSetIterable e env x = pure x := by cases e <;> first | (intro x; rfl) | cases h
theorem marks_eq {op : CmpOp} (h : pln e = true) : behindInMarks op e = false := by cases e <;> first | rfl | cases h
theorem plainIx_eq (h : pln e = true) : PlainIx e := by cases e <;> first | (intro o i; rfl) | cases h
theorem aug_eq (h : pln e = true) : ∀ ov iv new, augStore e ov iv new = (do holding [new, ov, iv] (setItem ov iv new); release [new, ov, iv] []; pure .next) := by cases e <;> first | (intro o i n; rfl) | cases h
theorem tru_eq (h : tru e = true) : ∀ whole, isTrue e env whole = (do let v ← whole; standAt e.pos; holding [v] (truthy v)) := by cases e <;> first | (intro o; rfl) | cases h
theorem back_any {pos : Pos} : ∀ {es : List Expr}, es.all pln = true → (backTo pos (starEach es env)).any (·.1) = false
  | [], _ => rfl
  | e :: es, h => by
    rw [List.all_cons, Bool.and_eq_true] at h
    rw [star_eq h.1]
    show (false || (backTo pos (starEach es env)).any (·.1)) = false
    rw [back_any h.2]
    rfl
theorem set_eq {x : Str} {p apos : Pos} (h : pln e = true) : ∀ v, assign (.Subscript (.Name x p) e apos) env v = (do
      let ov ← holding [v] (eval (.Name x p) env)
      let iv ← holding [v, ov] (eval e env)
      standAt apos
      holding [v, ov, iv] (setItem ov iv v)
      release [v, ov, iv] []) := by cases e <;> first | (intro o; rfl) | cases h
end
inductive Bop where
  | add | sub | mul | div | mod | pow
def isNon : D → Bool
  | .non => true
  | _ => false
def isD (neg : Bool) (x y : D) : Option D := match y with
  | .non => some (.bl (if neg then !isNon x else isNon x))
  | .bl b => (match x with
    | .bl a => some (.bl (if neg then !decide (a = b) else decide (a = b)))
    | _ => none)
  | _ => none
theorem non_rep {K : PySem.W.Frag} {g : Gh} {H : Hp} {v : V} {d : D} (r : RepA K g H v d) : decide (v = .non) = isNon d := by
  cases d with
  | non => rw [r.non]; rfl
  | bl b => rw [r.bl]; rfl
  | int i => rw [r.int]; rfl
  | str x => rw [r.str]; rfl
  | tup ds => obtain ⟨a, vs, rfl, _⟩ := r.tup; rfl
  | lst ds => obtain ⟨a, vs, rfl, _⟩ := r.lst; rfl
  | obj n =>
    have r' : Rep K g v (.obj n) := r
    cases r'
    rfl
  | scr ns => obtain ⟨a, rfl, _⟩ := r.scr; rfl
  | dic ks ds =>
    have r' : Rep K g v (.dic ks ds) := r
    cases r'
    rfl
abbrev rIs2 (neg : Bool) (K : PySem.W.Frag) : R2 := fun x y H Q => (y = .non ∧ Q (.bl (if neg then !decide (x = .non) else decide (x = .non))) H) ∨ (∃ a b, x = .bl a ∧ y = .bl b ∧ Q (.bl (if neg then !decide (a = b) else decide (a = b))) H)
theorem o_is {X : Cx} : OpR X (compareOp .Is) (rIs2 false X.K) := op_isN.or op_is_bl
theorem o_isn {X : Cx} : OpR X (compareOp .IsNot) (rIs2 true X.K) := op_notN.or op_isnot_bl
theorem im_is (neg : Bool) : Im2 (rIs2 neg) (isD neg) := by
  intro p g m H x y dx dy d Q o rx ry e q
  unfold isD at e
  split at e
  · cases e
    refine .inl ⟨ry.non, ?_⟩
    rw [non_rep rx]
    exact q.bl o
  · split at e
    · cases e
      exact .inr ⟨_, _, rx.bl, ry.bl, q.bl o⟩
    · cases e
  · cases e
inductive Cop where
  | lt | le | gt | ge | eq | ne | inn | nin | is | isn
inductive Bi where
  | len | sum | max | min | list | tuple | int | str | sorted
def Bop.op : Bop → Operator
  | .add => .Add | .sub => .Sub | .mul => .Mult | .div => .FloorDiv | .mod => .Mod | .pow => .Pow
def Bop.sem : Bop → D → D → Option D
  | .add => addD | .sub => subD | .mul => mulD | .div => divD | .mod => modD | .pow => powD
def Cop.op : Cop → CmpOp
  | .lt => .Lt | .le => .LtE | .gt => .Gt | .ge => .GtE | .eq => .Eq | .ne => .NotEq | .inn => .In | .nin => .NotIn | .is => .Is | .isn => .IsNot
def Cop.sem : Cop → D → D → Option D
  | .lt => ltD | .le => leD | .gt => gtD | .ge => geD | .eq => eqD | .ne => neD | .inn => inD false | .nin => inD true | .is => isD false | .isn => isD true
theorem Bop.ok {X : Cx} (b : Bop) : ∃ r : PySem.W.Frag → R2, OpR X (binaryOp b.op) (r X.K) ∧ Im2 r b.sem := by
  cases b with
  | add => exact ⟨_, o_plus, im_plus⟩
  | sub => exact ⟨_, op_sub, im_minus⟩
  | mul => exact ⟨_, o_times, im_times⟩
  | div => exact ⟨_, op_fdivW, im_div⟩
  | mod => exact ⟨_, op_mod, im_mod⟩
  | pow => exact ⟨_, op_pow, im_pow⟩
theorem Cop.ok {X : Cx} (hu : X.A.units + 64 < cLine) (b : Cop) : ∃ r : PySem.W.Frag → R2, OpR X (compareOp b.op) (r X.K) ∧ Im2 r b.sem := by
  cases b with
  | lt => exact ⟨_, op_lt, im_lt⟩
  | le => exact ⟨_, op_le, im_le⟩
  | gt => exact ⟨_, op_gt, im_gt⟩
  | ge => exact ⟨_, op_ge, im_ge⟩
  | eq => exact ⟨rEq2, op_eq.or (op_eqD hu), im_eq⟩
  | ne => exact ⟨rNe2, op_ne.or (op_neD hu), im_ne⟩
  | inn => exact ⟨_, o_in, im_in false⟩
  | nin => exact ⟨_, o_nin, im_in true⟩
  | is => exact ⟨rIs2 false, o_is, im_is false⟩
  | isn => exact ⟨rIs2 true, o_isn, im_is true⟩
/-! ### a method of a list, one argument -/
def isLst : D → Bool
  | .lst _ => true
  | _ => false
def evM (ty : D → Bool) (sem : D → D → Option D) (fo fe : En → M D) (rho : En) : M D := bnd (fo rho) fun x => bnd (lift (if ty x = true then some () else none)) fun _ => bnd (fe rho) fun y => lift (sem x y)
def idxL (d : D) : List D → Option Nat
  | [] => none
  | y :: ys => if y.eqb d = true then some 0 else (idxL d ys).map (· + 1)
def indexD (x y : D) : Option D := match x with
  | .lst ds => if (y.flat && ds.all D.flat) = true then (idxL y ds).map fun n => .int (n : Int) else none
  | _ => none
theorem idxL_some {d : D} : ∀ {ds : List D} {n : Nat}, idxL d ds = some n → (∃ z, ds[n]? = some z ∧ z.eqb d = true) ∧ ∀ (k : Nat) (z : D), k < n → ds[k]? = some z → z.eqb d = false
  | [], _, h => by cases h
  | y :: ys, n, h => by
    unfold idxL at h
    split at h
    · cases h
      exact ⟨⟨y, rfl, by assumption⟩, fun k z hk => by omega⟩
    · rename_i ne
      cases q : idxL d ys with
      | none => rw [q] at h; cases h
      | some j =>
        rw [q] at h
        cases h
        obtain ⟨⟨z, z1, z2⟩, z3⟩ := idxL_some q
        refine ⟨⟨z, by simpa using z1, z2⟩, fun k w hk hw => ?_⟩
        cases k with
        | zero =>
          simp only [List.getElem?_cons_zero, Option.some.injEq] at hw
          rw [← hw]
          exact Bool.not_eq_true _ |>.mp ne
        | succ k => exact z3 k w (by have : k + 1 < j + 1 := hk; omega) (by simpa using hw)
theorem flat_reps {K : PySem.W.Frag} {g : Gh} : ∀ {vs : List V} {ds : List D}, RepL K g vs ds → ds.all D.flat = true → vs.all flatV = true
  | _, _, .nil, _ => rfl
  | _, _, .cons h t, z => by
    rw [List.all_cons, Bool.and_eq_true] at z
    rw [List.all_cons, h.flat z.1, flat_reps t z.2]
    rfl
section
variable {X : Cx} {fr : Fr} {o e : Expr} {fo fe : En → M D} {apos cpos : Pos}
theorem e_index (hK : X.K = fr.p.K) (ho : PE X o (TV fr (vA fr.p.K) fo)) (he : PE X e (TV fr (vA fr.p.K) fe)) (hse : starEach [e] X.env = (false, eval e X.env) :: starEach [] X.env)
    (hbase : attributeBase o "index" X.env (eval o X.env) = eval o X.env)
    (hfew : ((backTo cpos (starEach [e] X.env)).all (fun x => !x.1) && (backToKw cpos (keywordEach [] X.env)).all (fun x => x.1.isSome) && decide ([e].length + ([] : List Keyword).length + (if ([] : List Keyword).isEmpty then 0 else 1) < 30)) = true)
    (hline : (apos.endLine == cpos.line) = true) (hpl : (backTo cpos (starEach [] X.env)).any (·.1) = false) :
    PE X (.Call (.Attribute o "index" apos) [e] [] cpos) (TV fr (vF fr.p.K) (evM isLst indexD fo fe)) :=
  pe_weak (pe_bm PySem.F.plainAttrs_list PySem.F.slot_list_index PySem.F.type_list_index mt_index ho (a_consA he (a_nil (P := lA fr.p.K) fun _ _ => Paired.nil) hse) hbase hfew hline hse hpl) fun s H Q ⟨rho, g, m, rl, w⟩ => by
    refine ⟨rho, g, m, rl, wp_mono (wp_bnd.mp w) (fun dx m1 w1 v g1 H1 e1 o1 r1 => ?_) fun _ _ z => z⟩
    obtain ⟨_, hty, w2⟩ := wp_lift.mp (wp_bnd.mp w1)
    have r1 : RepA fr.p.K g1 H1 v dx := r1
    cases dx with
    | lst ds =>
      obtain ⟨a, vs, rfl, h1, h2, h3⟩ := r1.lst
      rw [hK]
      refine ⟨.inl ⟨rfl, vs, SqL.of h1⟩, rho, g1, m1, rl.ext e1 o1, ?_⟩
      have w3 := wp_bnd.mp w2
      show (bnd (fe rho) (fun x => bnd (evNil rho) fun xs => PF.ret (x :: xs)) m1).wp _ _
      refine wp_bnd.mpr (wp_mono w3 (fun dy m2 w4 => ?_) fun c m' z => z.from e1)
      intro us g2 H2 e2 o2 ru
      have ru : RepAL fr.p.K g2 H2 us [dy] := ru
      obtain ⟨u, rfl, r2⟩ := ru.one
      obtain ⟨d, hd, q⟩ := wp_lift.mp w4
      have r1' := RepA.ext e2 (show RepA fr.p.K g1 H1 (.ref a) (.lst ds) from r1)
      obtain ⟨a', vs', ea, k1, k2, k3⟩ := r1'.lst
      cases ea
      unfold indexD at hd
      have hd : (if (dy.flat && ds.all D.flat) = true then (idxL dy ds).map fun n => D.int (n : Int) else none) = some d := hd
      split at hd
      · rename_i hf
        rw [Bool.and_eq_true] at hf
        cases z : idxL dy ds with
        | none => rw [z] at hd; cases hd
        | some n =>
          rw [z] at hd
          cases hd
          obtain ⟨⟨zd, z1, z2⟩, z3⟩ := idxL_some z
          obtain ⟨zv, y1, y2⟩ := k3.get z1
          have ry := r2.flat hf.1
          have fz : ∀ {j : Nat} {w : D}, ds[j]? = some w → w.flat = true := fun {j w} hw => List.all_eq_true.mp hf.2 w (List.mem_of_getElem? hw)
          refine ⟨a, vs', u, n, zv, rfl, rfl, SqL.of k1, ry.flat hf.1, flat_reps k3 hf.2, y1, by rw [eqV_rep y2 ry (fz z1) hf.1]; exact z2, fun k zv' hk hv => ?_, q _ g2 H2 (e1.trans e2) o2 (show Rep _ _ _ _ from .int _)⟩
          obtain ⟨wd, w1', w2'⟩ := k3.getV hv
          rw [eqV_rep w2' ry (fz w1') hf.1]
          exact z3 k wd hk w1'
      · cases hd
    | _ => cases hty
def isStr : D → Bool
  | .str _ => true
  | _ => false
def strOf (d : D) : Option Str := match d with
  | .str x => some x
  | _ => none
def asStrs : List D → Option (List Str)
  | [] => some []
  | d :: r => (strOf d).bind fun x => (asStrs r).map (x :: ·)
theorem asStrs_some : ∀ {ds : List D} {ys : List Str}, asStrs ds = some ys → ds = ys.map D.str
  | [], _, h => by cases h; rfl
  | d :: r, ys, h => by
    have h : ((strOf d).bind fun x => (asStrs r).map (x :: ·)) = some ys := h
    cases d with
    | str x =>
      have h : (asStrs r).map (x :: ·) = some ys := h
      cases q : asStrs r with
      | none => rw [q] at h; cases h
      | some zs =>
        rw [q] at h
        cases h
        rw [asStrs_some q]
        rfl
    | _ => cases h
theorem RepL.strs {K : PySem.W.Frag} {g : Gh} : ∀ {vs : List V} {ys : List Str}, RepL K g vs (ys.map D.str) → vs = ys.map V.str
  | _, [], .nil => rfl
  | _, n :: ns, .cons h t => by
    cases h
    rw [RepL.strs t]
    rfl
def joinD (x y : D) : Option D := match x with
  | .str a => (match (match y with
    | .lst ds => asStrs ds
    | .tup ds => asStrs ds
    | _ => none) with
    | some ys => if (ys.map (·.length)).sum + ys.length * a.length ≤ 16777216 then some (.str (PySem.Txt.join a ys)) else none
    | none => none)
  | _ => none
theorem e_join (hK : X.K = fr.p.K) (ho : PE X o (TV fr (vA fr.p.K) fo)) (he : PE X e (TV fr (vA fr.p.K) fe)) (hse : starEach [e] X.env = (false, eval e X.env) :: starEach [] X.env)
    (hbase : attributeBase o "join" X.env (eval o X.env) = eval o X.env)
    (hfew : ((backTo cpos (starEach [e] X.env)).all (fun x => !x.1) && (backToKw cpos (keywordEach [] X.env)).all (fun x => x.1.isSome) && decide ([e].length + ([] : List Keyword).length + (if ([] : List Keyword).isEmpty then 0 else 1) < 30)) = true)
    (hline : (apos.endLine == cpos.line) = true) (hpl : (backTo cpos (starEach [] X.env)).any (·.1) = false) :
    PE X (.Call (.Attribute o "join" apos) [e] [] cpos) (TV fr (vF fr.p.K) (evM isStr joinD fo fe)) :=
  pe_weak (pe_bm PySem.F.plainAttrs_str PySem.F.slot_str_join PySem.F.type_str_join mt_join ho (a_consA he (a_nil (P := lA fr.p.K) fun _ _ => Paired.nil) hse) hbase hfew hline hse hpl) fun s H Q ⟨rho, g, m, rl, w⟩ => by
    refine ⟨rho, g, m, rl, wp_mono (wp_bnd.mp w) (fun dx m1 w1 v g1 H1 e1 o1 r1 => ?_) fun _ _ z => z⟩
    obtain ⟨_, hty, w2⟩ := wp_lift.mp (wp_bnd.mp w1)
    have r1 : RepA fr.p.K g1 H1 v dx := r1
    cases dx with
    | str a =>
      rw [r1.str]
      refine ⟨rfl, rho, g1, m1, rl.ext e1 o1, ?_⟩
      have w3 := wp_bnd.mp w2
      show (bnd (fe rho) (fun x => bnd (evNil rho) fun xs => PF.ret (x :: xs)) m1).wp _ _
      refine wp_bnd.mpr (wp_mono w3 (fun dy m2 w4 => ?_) fun c m' z => z.from e1)
      intro us g2 H2 e2 o2 ru
      have ru : RepAL fr.p.K g2 H2 us [dy] := ru
      obtain ⟨u, rfl, r2⟩ := ru.one
      obtain ⟨d, hd, q⟩ := wp_lift.mp w4
      have qa : ∀ x : Str, d = .str x → Q (.str x) H2 := fun x ex => q _ g2 H2 (e1.trans e2) o2 (by rw [ex]; exact (show Rep _ _ _ _ from .str x))
      rw [hK]
      unfold joinD at hd
      cases dy with
      | lst ds =>
        have hd : (match asStrs ds with
          | some ys => if (ys.map (·.length)).sum + ys.length * a.length ≤ 16777216 then some (D.str (PySem.Txt.join a ys)) else none
          | none => none) = some d := hd
        obtain ⟨b, vs, rfl, k1, _, k3⟩ := r2.lst
        split at hd
        · rename_i ys hy
          split at hd
          · cases hd
            rw [asStrs_some hy] at k3
            exact ⟨a, b, ys, rfl, rfl, .inl (by rw [← k3.strs]; exact SqL.of k1), by assumption, qa _ rfl⟩
          · cases hd
        · cases hd
      | tup ds =>
        have hd : (match asStrs ds with
          | some ys => if (ys.map (·.length)).sum + ys.length * a.length ≤ 16777216 then some (D.str (PySem.Txt.join a ys)) else none
          | none => none) = some d := hd
        obtain ⟨b, vs, rfl, k1, k3⟩ := r2.tup
        split at hd
        · rename_i ys hy
          split at hd
          · cases hd
            rw [asStrs_some hy] at k3
            exact ⟨a, b, ys, rfl, rfl, .inr (by rw [← k3.strs]; exact o2.sqT k1), by assumption, qa _ rfl⟩
          · cases hd
        · cases hd
      | _ => cases hd
    | _ => cases hty
end
end PF
namespace PF
open PySem L2
/-! ### how often True or False is in a list of such -/
def eqB (b : Bool) (v : Value) : Bool := match v with
  | .bool a => a == b
  | _ => false
def rCntB (K : PySem.W.Frag) : V → List V → Hp → VK → Prop := fun x xs H Q => ∃ (p : Addr) (bs : List Bool) (b : Bool), x = .ref p ∧ xs = [.bl b] ∧ SqL K H p (bs.map V.bl) ∧ Q (.int (bs.count b : Nat)) H
theorem bools_of : ∀ {bs : List Bool} {us : List Value}, Vals (bs.map V.bl) us → us = bs.map Value.bool
  | [], _, .nil => rfl
  | b :: bs, _, .cons r t => by
    have : RelV (.bl b) _ := r
    rw [List.map_cons, bools_of t]
    cases r
    rfl
theorem eqB_count (b : Bool) : ∀ bs : List Bool, (bs.map Value.bool).countP (eqB b) = bs.count b
  | [] => rfl
  | a :: bs => by
    rw [List.map_cons, List.countP_cons, List.count_cons, eqB_count b bs]
    rfl
theorem mt_countB {X : Cx} : MtR X "list.count" (rCntB X.K) := by
  intro pins s σ H x xs v us Q I rx rxs h
  obtain ⟨p, bs, b, rfl, rfl, hs, q⟩ := h
  cases rx
  obtain ⟨u, rfl, ru⟩ := rxs.one
  cases ru
  obtain ⟨its, rv, ⟨⟨cls, dd, data, sl⟩, n, ho, hc, hdn, hd⟩, hlen⟩ := I.list hs
  simp only at hc hd
  subst hc hd
  have hi := bools_of rv
  subst hi
  refine call_meets PySem.F.slot_list_count ⟨_, ho, rfl⟩ PySem.F.entry_list_count (PySem.F.args_list_count_2 _ _)
    (SeqAt.list_countAt p (bs.map Value.bool).toArray n dd sl (.bool b) (eqB b)) ⟨ho, fun y hy => ?_, ?_⟩
  · have hy : y ∈ bs.map Value.bool := by simpa using hy
    obtain ⟨a, _, rfl⟩ := List.mem_map.mp hy
    exact SeqAt.EqAt.bool_bool a b
  · refine ⟨.int (bs.count b : Nat), H, I.tok _, ⟨s.toks, ?_⟩, q⟩
    show Value.int (((bs.map Value.bool).toArray.toList.countP (eqB b) : Nat) : Int) s.toks = Value.int ((bs.count b : Nat) : Int) s.toks
    rw [List.toList_toArray, eqB_count]
def asBools : List D → Option (List Bool)
  | [] => some []
  | .bl b :: ds => (asBools ds).map (b :: ·)
  | _ => none
theorem asBools_some : ∀ {ds : List D} {bs : List Bool}, asBools ds = some bs → ds = bs.map D.bl
  | [], _, h => by cases h; rfl
  | .bl b :: ds, bs, h => by
    unfold asBools at h
    cases q : asBools ds with
    | none => rw [q] at h; cases h
    | some cs =>
      rw [q] at h
      cases h
      rw [asBools_some q]
      rfl
  | .non :: _, _, h => by cases h
  | .int _ :: _, _, h => by cases h
  | .str _ :: _, _, h => by cases h
  | .tup _ :: _, _, h => by cases h
  | .lst _ :: _, _, h => by cases h
  | .obj _ :: _, _, h => by cases h
  | .scr _ :: _, _, h => by cases h
  | .dic _ _ :: _, _, h => by cases h
def countD (x y : D) : Option D := match x, y with
  | .lst ds, .bl b => (asBools ds).map fun bs => .int (bs.count b : Nat)
  | _, _ => none
theorem bools_rep {K : PySem.W.Frag} {g : Gh} : ∀ {bs : List Bool} {vs : List V}, RepL K g vs (bs.map D.bl) → vs = bs.map V.bl
  | [], _, .nil => rfl
  | b :: bs, _, .cons h t => by
    rw [List.map_cons, bools_rep t]
    cases h
    rfl
section
variable {X : Cx} {fr : Fr} {o e : Expr} {fo fe : En → M D} {apos cpos : Pos}
theorem e_count (hK : X.K = fr.p.K) (ho : PE X o (TV fr (vA fr.p.K) fo)) (he : PE X e (TV fr (vA fr.p.K) fe)) (hse : starEach [e] X.env = (false, eval e X.env) :: starEach [] X.env)
    (hbase : attributeBase o "count" X.env (eval o X.env) = eval o X.env)
    (hfew : ((backTo cpos (starEach [e] X.env)).all (fun x => !x.1) && (backToKw cpos (keywordEach [] X.env)).all (fun x => x.1.isSome) && decide ([e].length + ([] : List Keyword).length + (if ([] : List Keyword).isEmpty then 0 else 1) < 30)) = true)
    (hline : (apos.endLine == cpos.line) = true) (hpl : (backTo cpos (starEach [] X.env)).any (·.1) = false) :
    PE X (.Call (.Attribute o "count" apos) [e] [] cpos) (TV fr (vF fr.p.K) (evM isLst countD fo fe)) :=
  pe_weak (pe_bm PySem.F.plainAttrs_list PySem.F.slot_list_count PySem.F.type_list_count mt_countB ho (a_consA he (a_nil (P := lA fr.p.K) fun _ _ => Paired.nil) hse) hbase hfew hline hse hpl) fun s H Q ⟨rho, g, m, rl, w⟩ => by
    refine ⟨rho, g, m, rl, wp_mono (wp_bnd.mp w) (fun dx m1 w1 v g1 H1 e1 o1 r1 => ?_) fun _ _ z => z⟩
    obtain ⟨_, hty, w2⟩ := wp_lift.mp (wp_bnd.mp w1)
    have r1 : RepA fr.p.K g1 H1 v dx := r1
    cases dx with
    | lst ds =>
      obtain ⟨a, vs, rfl, h1, h2, h3⟩ := r1.lst
      rw [hK]
      refine ⟨.inl ⟨rfl, vs, SqL.of h1⟩, rho, g1, m1, rl.ext e1 o1, ?_⟩
      have w3 := wp_bnd.mp w2
      show (bnd (fe rho) (fun x => bnd (evNil rho) fun xs => PF.ret (x :: xs)) m1).wp _ _
      refine wp_bnd.mpr (wp_mono w3 (fun dy m2 w4 => ?_) fun c m' z => z.from e1)
      intro us g2 H2 e2 o2 ru
      have ru : RepAL fr.p.K g2 H2 us [dy] := ru
      obtain ⟨u, rfl, r2⟩ := ru.one
      obtain ⟨d, hd, q⟩ := wp_lift.mp w4
      have r1' := RepA.ext e2 (show RepA fr.p.K g1 H1 (.ref a) (.lst ds) from r1)
      obtain ⟨a', vs', ea, k1, k2, k3⟩ := r1'.lst
      cases ea
      cases dy with
      | bl b =>
        have hd : ((asBools ds).map fun bs => D.int (bs.count b : Nat)) = some d := hd
        cases z : asBools ds with
        | none => rw [z] at hd; cases hd
        | some bs =>
          rw [z] at hd
          cases hd
          have e3 := asBools_some z
          subst e3
          have e4 := bools_rep k3
          subst e4
          have eu : u = .bl b := RepA.bl r2
          subst eu
          exact ⟨a, bs, b, rfl, rfl, SqL.of k1, q _ g2 H2 (e1.trans e2) o2 (show Rep _ _ _ _ from .int _)⟩
      | _ => cases hd
    | _ => cases hty
end
end PF
namespace PF
open PySem L2
def noCall : Expr → Bool
  | .Call .. => false
  | _ => true
theorem base_eq {e : Expr} {x : Str} {env : Env} {w : Sem Value} (h : noCall e = true) : attributeBase e x env w = w := by cases e <;> first | rfl | cases h
theorem meth_eq {o : Expr} {mt : Str} {apos pos : Pos} {es : List Expr} {env : Env} (h1 : noCall o = true) (h2 : methodCallForm (es.length + 0) (backTo pos (starEach es env)) (backToKw pos (keywordEach [] env)) = true) (h3 : (apos.endLine == pos.line) = true) :
    eval (.Call (.Attribute o mt apos) es [] pos) env = (do
      let ov ← eval o env
      standAt apos.atName
      let (f, first) ← holding [ov] (getMethod ov mt (do return (← importBound o env).getD true))
      callWith pos f first (backTo pos (starEach es env)) (backToKw pos (keywordEach [] env))) := by
  rw [arm_eval_Call, base_eq h1]
  unfold methodCall calleeOf methodCallPos
  have h2' : methodCallForm (es.length + ([] : List Keyword).length) (backTo pos (starEach es env)) (backToKw pos (keywordEach [] env)) = true := h2
  rw [h2', h3]
  rfl
theorem form_all {pos : Pos} {env : Env} : ∀ {es : List Expr}, es.all pln = true → (backTo pos (starEach es env)).all (fun x => !x.1) = true
  | [], _ => rfl
  | e :: es, h => by
    rw [List.all_cons, Bool.and_eq_true] at h
    rw [star_eq h.1]
    show (true && (backTo pos (starEach es env)).all (fun x => !x.1)) = true
    rw [form_all h.2]
    rfl
theorem form_ok {pos : Pos} {env : Env} {es : List Expr} (h : es.all pln = true) (hl : es.length < 20) : methodCallForm (es.length + 0) (backTo pos (starEach es env)) (backToKw pos (keywordEach [] env)) = true := by
  unfold methodCallForm
  have e1 := form_all (pos := pos) (env := env) h
  have e2 : decide (es.length + 0 + (if (backToKw pos (keywordEach [] env)).isEmpty = true then 0 else 1) < 30) = true := by
    rw [decide_eq_true_eq]
    split <;> omega
  rw [Bool.and_eq_true, Bool.and_eq_true]
  exact ⟨⟨e1, rfl⟩, e2⟩
/-! ### the calls of a method, of the class: what is raised is wished for at the caller's slots -/
section
variable {X : Cx} {k : Nat} {f C : Addr} {fd : FuncData} {ps : List Str} {sp : Sp} {E : St → XK} {x mt : Str} {p pos apos : Pos} {e o : Expr} {es : List Expr} {ta : TE} {t : TA} {CX : CXT}
def tMethE (C : Addr) (mt : Str) (sp : Sp) (E : St → XK) (ta : TE) (t : TA) : TE := fun σ H Q => ta σ H fun x H1 => ∃ a dx fs, x = .ref a ∧ H1 a = some (.ins C dx fs) ∧ fs.lookup mt = none ∧ t σ H1 fun vs H2 => sp (x :: vs) H2 Q (E σ)
theorem pe_methE (he : PE X o ta) (c : Cls X.K C) (hm : Meth X.K C mt f) (F : FnOk X.prog X.w X.K X.mg X.base CX k f fd ps sp) (hr : Room k X.A) (hb : Binds X.K fd ps []) (hx : ∀ σ, PassesAt CX X σ (E σ)) (ha : PA X (e :: es) t)
    (hst : starEach (e :: es) X.env = (false, eval e X.env) :: starEach es X.env) (hpl : (backTo pos (starEach es X.env)).any (·.1) = false)
    (h1 : noCall o = true) (h2 : methodCallForm ((e :: es).length + 0) (backTo pos (starEach (e :: es) X.env)) (backToKw pos (keywordEach [] X.env)) = true) (h3 : (apos.endLine == pos.line) = true) :
    PE X (.Call (.Attribute o mt apos) (e :: es) [] pos) (tMethE C mt sp E ta t) := by
  refine ⟨fun pins s σ H Q J h => ?_⟩
  refine PySem.W.methodCall_KW (thn (he.run pins s σ H _ J h) fun u s1 ⟨y, H1, J1, ry, a, dx, fs, ey, ea, l, q⟩ => ?_) (meth_eq h1 h2 h3)
  subst ey
  obtain rfl : u = Value.ref a := ry
  refine getmeth_ok J1 ea c hm l ?_
  refine PySem.W.callWith_K (first := [.ref a]) (h₀ := X.base) J.ok.mod.kin hm.kp (thn (ha.run pos pins s1 σ H1 _ J1 q) fun us s2 ⟨vs, H2, J2, r, q2⟩ => ⟨J2.kIn, ?_⟩) hst hpl
  exact run_fnS (us := .ref a :: us) (vs := .ref a :: vs) F hr hb (hx σ) J2 (.cons rfl r) q2
theorem pe_methE0 (he : PE X o ta) (c : Cls X.K C) (hm : Meth X.K C mt f) (F : FnOk X.prog X.w X.K X.mg X.base CX k f fd ps sp) (hr : Room k X.A) (hb : Binds X.K fd ps []) (hx : ∀ σ, PassesAt CX X σ (E σ))
    (h1 : noCall o = true) (h3 : (apos.endLine == pos.line) = true) :
    PE X (.Call (.Attribute o mt apos) [] [] pos) (tMethE C mt sp E ta tNil) := by
  refine ⟨fun pins s σ H Q J h => ?_⟩
  refine PySem.W.methodCall_KW (thn (he.run pins s σ H _ J h) fun u s1 ⟨y, H1, J1, ry, a, dx, fs, ey, ea, l, q⟩ => ?_) (meth_eq h1 rfl h3)
  subst ey
  obtain rfl : u = Value.ref a := ry
  refine getmeth_ok J1 ea c hm l ?_
  exact PySem.W.callWith_K0 (first := [.ref a]) J1.kIn hm.kp (run_fnS (us := [.ref a]) (vs := [.ref a]) F hr hb (hx σ) J1 (.cons rfl .nil) q)
theorem run_makeE {pins : List (Addr × Obj)} {σ : St} {H : Hp} {s : Shared} {Q : VK} {us : List Value} {vs : List V} (M : Mk X.K C f) (F : FnOk X.prog X.w X.K X.mg X.base CX k f fd ps sp) (hr : Room (k + 1) X.A) (hb : Binds X.K fd ps [])
    (hx : PassesAt CX X σ (E σ)) (J : Inv X pins σ H s) (r : Vals vs us)
    (h : ∀ x dx, H x = none → H dx = none → dx ≠ x → sp (.ref x :: vs) (upd (upd H dx (.own x)) x (.ins C dx [])) (fun v H2 => v = .non ∧ Q (.ref x) H2) (E σ)) :
    wpAny (model X.prog X.w) X.A (call (.ref C) us) (EP X pins σ Q) X.xe s := by
  have hq := h (s.heap.objs.size + 1) s.heap.objs.size (J.hok.fresh (Nat.le_succ _)) (J.hok.fresh (Nat.le_refl _)) (Nat.ne_of_lt (Nat.lt_succ_self _))
  have J2 := Inv.made (C := C) J
  have r2 : Vals (V.ref (s.heap.objs.size + 1) :: vs) (Value.ref (s.heap.objs.size + 1) :: us) := .cons rfl r
  have hl : (Value.ref (s.heap.objs.size + 1) :: us).length = ps.length := by rw [← r2.length]; exact F.len _ _ _ _ hq
  have b := hb { s with heap := (s.heap.push PySem.W.emptyDict).push (PySem.W.instObj C s.heap.objs.size) } (Value.ref (s.heap.objs.size + 1) :: us) J2.kIn (by rw [List.append_nil]; exact hl)
  rw [List.append_nil] at b
  refine wpAny_call (make_map (f := f) J.kIn M.makes M.init (beq_iff_eq.mp M.fn) (codeAny_mono (F.run _ X.stack _ _ ⟨Value.ref (s.heap.objs.size + 1) :: us, []⟩ (Value.ref (s.heap.objs.size + 1) :: us) _ _ (E σ) (hr.make C us []) (J2.env0.make C us []) b r2 hq) fun r s' hq' => ?_))
  cases r with
  | error e => exact hx pins _ _ e s' J2 hq'
  | ok fl =>
    cases fl with
    | ret u =>
      obtain ⟨v, H', J3, rv, ev, q3⟩ := J2.after hq'
      subst ev
      exact ⟨rv, ⟨V.ref (s.heap.objs.size + 1), H', J3, rfl, q3⟩⟩
    | next => exact False.elim hq'
    | brk => exact False.elim hq'
    | cont => exact False.elim hq'
def tMakeE (C : Addr) (sp : Sp) (E : St → XK) (t : TA) : TE := fun σ H Q => t σ H fun vs H1 => ∀ x dx, H1 x = none → H1 dx = none → dx ≠ x → sp (.ref x :: vs) (upd (upd H1 dx (.own x)) x (.ins C dx [])) (fun v H2 => v = .non ∧ Q (.ref x) H2) (E σ)
theorem pe_makeE (M : Mk X.K C f) (F : FnOk X.prog X.w X.K X.mg X.base CX k f fd ps sp) (hr : Room (k + 1) X.A) (hg : Gl X x) (hm : X.mg x = some (.ref C)) (hb : Binds X.K fd ps []) (hx : ∀ σ, PassesAt CX X σ (E σ))
    (ha : PA X (e :: es) t) (hdb : (x == ("__debug__" : Str)) = false) (he : starEach (e :: es) X.env = (false, eval e X.env) :: starEach es X.env) (hpl : (backTo pos (starEach es X.env)).any (·.1) = false) :
    PE X (.Call (.Name x p) (e :: es) [] pos) (tMakeE C sp E t) := by
  refine ⟨fun pins s σ H Q J h => ?_⟩
  refine wpAny_Call_Name_kw (ld_glob J hg hm ?_ hdb)
  refine PySem.W.callWith_K (h₀ := X.base) J.ok.mod.kin M.kp (thn (ha.run pos pins s σ H _ J h) fun us s1 ⟨vs, H1, J1, r, q⟩ => ⟨J1.kIn, ?_⟩) he hpl
  exact run_makeE M F hr hb (hx σ) J1 r q
end
/-! ### the small language's rules -/
section
variable {X : Cx} {fr : Fr} {rk : VR} {o e : Expr} {es : List Expr} {pos apos cpos p p2 : Pos} {fo f : En → M D} {fs : En → M (List D)} {x fl fl2 mt : Str} {i k : Nat} {fn : Addr} {fd : FuncData} {ps : List Str} {ms : List Md} {vr : VR} {rn : List D → M D}
def fldM (fl : Str) (x : D) : M D := fun m => match x with
  | .obj n => (match obGet m n fl with
    | some d => if isLst d = true then .bad else .ok d m
    | none => .bad)
  | _ => .bad
def evFld (fl : Str) (fo : En → M D) (rho : En) : M D := bnd (fo rho) (fldM fl)
theorem obGet_some {m : Store} {n : Nat} {fl : Str} {d : D} (h : obGet m n fl = some d) : ∃ ob, m[n]? = some ob ∧ ob.lookup fl = some d := by
  unfold obGet at h
  cases q : m[n]? with
  | none => rw [q] at h; cases h
  | some ob =>
    rw [q] at h
    exact ⟨ob, rfl, h⟩
theorem fldR_rep {K : PySem.W.Frag} {g : Gh} {H : Hp} {n : Nat} {f : Str} {v : V} {d : D} (h : FldR K g H n f v d) (hl : isLst d = false) : Rep K g v d := by
  unfold FldR at h
  cases d with
  | lst ds => cases hl
  | _ => exact h
theorem e_fld (hK : X.K = fr.p.K) (c : Cls fr.p.K fr.p.C) (na : NoAttr fr.p.K fr.p.C fl) (ho : PE X o (TV fr (vA fr.p.K) fo)) (hb : noCall o = true) : PE X (.Attribute o fl pos) (TV fr (vZ fr.p.K) (evFld fl fo)) :=
  pe_weak (pe_fld ho (base_eq hb)) fun s H Q ⟨rho, g, m, rl, w⟩ => ⟨rho, g, m, rl, wp_mono (wp_bnd.mp w) (fun dx m1 w1 v g1 H1 e1 o1 r1 => by
    unfold fldM at w1
    cases dx with
    | obj n =>
      cases hq : obGet m1 n fl with
      | none => simp only [hq] at w1; exact absurd w1 (fun z => z)
      | some d =>
        simp only [hq] at w1
        cases hl : isLst d with
        | true => rw [hl] at w1; exact absurd w1 (fun z => z)
        | false =>
          rw [hl] at w1
          obtain ⟨ob, h1, h2⟩ := obGet_some hq
          obtain ⟨a, rfl, hi, dx, vf, k1, k2, k3, k4, k5⟩ := o1.objAt (show Rep fr.p.K g1 v (.obj n) from r1) h1
          obtain ⟨u, l1, l2⟩ := (look_rep (F := FldR fr.p.K g1 H1 n) (f := fl) k5).1 d h2
          rw [hK]
          exact ⟨a, fr.p.C, dx, vf, u, rfl, k1, c, na, l1, w1 u g1 H1 e1 o1 (fldR_rep l2 hl)⟩
    | _ => exact absurd w1 (fun z => z)) fun _ _ z => z⟩
/-! a field that is a list -/
def lstF (m : Store) (n : Nat) (fl : Str) : Option (List D) := match obGet m n fl with
  | some (.lst ds) => some ds
  | _ => none
theorem lstF_some {m : Store} {n : Nat} {fl : Str} {ds : List D} (h : lstF m n fl = some ds) : ∃ ob, m[n]? = some ob ∧ ob.lookup fl = some (.lst ds) := by
  unfold lstF at h
  split at h
  · cases h
    exact obGet_some (by assumption)
  · cases h
def objAt (i : Nat) (rho : En) : Option Nat := match (rho[i]?).join with
  | some (.obj n) => some n
  | _ => none
theorem Rl.objV {fr : Fr} {g : Gh} {H : Hp} {rho : En} {m : Store} {s : St} (r : Rl fr g H rho m s) {n : Nat} (h : objAt i rho = some n) : ∃ v, s[i]? = some (some v) ∧ Rep fr.p.K g v (.obj n) := by
  unfold objAt at h
  split at h
  · rename_i n' hj
    cases h
    obtain ⟨ow, hv⟩ := r.val
    obtain ⟨v, h1, h2⟩ := hv i _ (join_some hj)
    exact ⟨v, h1, SlotR.any r.ok h2⟩
  · cases h
/-- the field, with all that stands behind it -/
theorem Rl.lstF {fr : Fr} {g : Gh} {H : Hp} {rho : En} {m : Store} {s : St} (r : Rl fr g H rho m s) {n : Nat} {ds : List D} (h : objAt i rho = some n) (hl : PF.lstF m n fl = some ds) : ∃ x ob dx vf a vs, s[i]? = some (some (.ref x)) ∧ m[n]? = some ob ∧ ob.lookup fl = some (.lst ds) ∧ g.io[n]? = some x ∧ H x = some (.ins fr.p.C dx vf) ∧ H dx = some (.own x) ∧ g.B x = some (.ins n) ∧ g.B dx = some (.dic n) ∧
    Paired (fun (q : Str × V) (r : Str × D) => q.1 = r.1 ∧ FldR fr.p.K g H n q.1 q.2 r.2) vf ob ∧ vf.lookup fl = some (.ref a) ∧ H a = some (.lst vs) ∧ g.B a = some (.fld n fl) ∧ RepL fr.p.K g vs ds := by
  obtain ⟨v, v1, v2⟩ := r.objV h
  obtain ⟨ob, h1, h2⟩ := lstF_some hl
  obtain ⟨x, rfl, hi, dx, vf, k1, k2, k3, k4, k5⟩ := r.ok.objAt v2 h1
  obtain ⟨u, l1, l2⟩ := (look_rep (F := FldR fr.p.K g H n) (f := fl) k5).1 _ h2
  obtain ⟨a, vs, rfl, a1, a2, a3⟩ := l2
  exact ⟨x, ob, dx, vf, a, vs, v1, h1, h2, hi, k1, k2, k3, k4, k5, l1, a1, a2, a3⟩
def fAsk (i : Nat) (fl : Str) (rho : En) : M (List D) := fun m => match objAt i rho with
  | some n => (match lstF m n fl with
    | some ds => .ok ds m
    | none => .bad)
  | none => .bad
theorem fAsk_wp {rho : En} {m : Store} {P : List D → Store → Prop} {E : Nat → Store → Prop} (h : (fAsk i fl rho m).wp P E) : ∃ n ds, objAt i rho = some n ∧ lstF m n fl = some ds ∧ P ds m := by
  unfold fAsk at h
  cases q : objAt i rho with
  | none => simp only [q] at h; exact absurd h (fun z => z)
  | some n =>
    simp only [q] at h
    cases z : lstF m n fl with
    | none => simp only [z] at h; exact absurd h (fun z => z)
    | some ds =>
      simp only [z] at h
      exact ⟨n, ds, rfl, z, h⟩
def evFtru (i : Nat) (fl : Str) (rho : En) : M Bool := bnd (fAsk i fl rho) fun ds => ret (!ds.isEmpty)
theorem t_ftru (hK : X.K = fr.p.K) (c : Cls fr.p.K fr.p.C) (na : NoAttr fr.p.K fr.p.C fl) (hN : X.N[i]? = some x) (hv : Vis X.env.scope x) (hd : (x == ("__debug__" : Str)) = false) (hcd : (x == ("__classdict__" : Str)) = false) : PT X (.Attribute (.Name x p) fl pos) (TB fr (evFtru i fl)) :=
  pt_weak (pt_truth (pe_fld (pe_var hN hv hd hcd) rfl) fun _ => rfl) fun s H Q ⟨rho, g, m, rl, w⟩ => by
    obtain ⟨n, ds, h1, h2, q⟩ := fAsk_wp (wp_bnd.mp w)
    obtain ⟨y, ob, dx, vf, a, vs, s1, m1, m2, i1, k1, k2, k3, k4, k5, k6, a1, a2, a3⟩ := rl.lstF h1 h2
    rw [hK]
    refine ⟨_, s1, y, fr.p.C, dx, vf, _, rfl, k1, c, na, k6, !ds.isEmpty, .inl ⟨vs, SqL.of a1, ?_⟩, q g H (Ext.refl g H) rl.ok⟩
    cases a3 <;> rfl
def evFlast (i : Nat) (fl : Str) (rho : En) : M D := bnd (fAsk i fl rho) fun ds => lift (atI ds (-1))
theorem e_flast {jj : Nat} {p3 p4 : Pos} (hK : X.K = fr.p.K) (c : Cls fr.p.K fr.p.C) (na : NoAttr fr.p.K fr.p.C fl) (hN : X.N[i]? = some x) (hv : Vis X.env.scope x) (hd : (x == ("__debug__" : Str)) = false) (hcd : (x == ("__classdict__" : Str)) = false) :
    PE X (.Subscript (.Attribute (.Name x p) fl p2) (.UnaryOp .USub (.Constant (.int 1) jj p3) p4) pos) (TV fr (vZ fr.p.K) (evFlast i fl)) :=
  pe_weak (pe_ix ix_seq (pe_fld (pe_var hN hv hd hcd) rfl) (pe_un un_neg pe_int) fun _ _ => rfl) fun s H Q ⟨rho, g, m, rl, w⟩ => by
    obtain ⟨n, ds, h1, h2, q⟩ := fAsk_wp (wp_bnd.mp w)
    obtain ⟨d, hd', q⟩ := wp_lift.mp q
    obtain ⟨y, ob, dx, vf, a, vs, s1, m1, m2, i1, k1, k2, k3, k4, k5, k6, a1, a2, a3⟩ := rl.lstF h1 h2
    obtain ⟨v, e1, e2⟩ := atI_rep a3 hd'
    rw [hK]
    refine ⟨_, s1, y, fr.p.C, dx, vf, _, rfl, k1, c, na, k6, 1, rfl, ?_⟩
    exact .inl ⟨a, vs, -1, v, rfl, rfl, SqL.of a1, e1, q v g H (Ext.refl g H) rl.ok e2⟩
def ndOb (m : Store) (n : Nat) : Bool := match m[n]? with
  | some ob => decide ((ob.map (·.1)).Nodup)
  | none => false
/-- self.fl.append(self.fl2) -/
def fappS (i : Nat) (fl fl2 : Str) : SM := fun rho m => match objAt i rho with
  | some n => (match lstF m n fl, obGet m n fl2 with
    | some ds, some d => if (!isLst d && decide (ds.length < sizeLine) && ndOb m n) = true then .nx rho (obPut m n fl (.lst (ds ++ [d]))) else .bad
    | _, _ => .bad)
  | none => .bad
theorem s_fapp {apos2 apos3 : Pos} (hK : X.K = fr.p.K) (c : Cls fr.p.K fr.p.C) (na : NoAttr fr.p.K fr.p.C fl) (na2 : NoAttr fr.p.K fr.p.C fl2) (hN : X.N[i]? = some x) (hv : Vis X.env.scope x) (hd : (x == ("__debug__" : Str)) = false) (hcd : (x == ("__classdict__" : Str)) = false) (hline : (apos.endLine == cpos.line) = true) :
    PS X (.Expr (.Call (.Attribute (.Attribute (.Name x p) fl p2) "append" apos) [.Attribute (.Name x apos2) fl2 apos3] [] cpos) pos) (TSt fr rk (fappS i fl fl2)) :=
  ps_weak (ps_expr (pe_bm PySem.F.plainAttrs_list PySem.F.slot_list_append PySem.F.type_list_append mt_append (pe_fld (pe_var hN hv hd hcd) rfl) (pa_cons (pe_fld (pe_var hN hv hd hcd) rfl) pa_nil rfl) rfl rfl hline rfl rfl) rfl) fun Dn s H ⟨rho, g, m, r, w⟩ => by
    unfold fappS at w
    cases h1 : objAt i rho with
    | none => simp only [h1] at w; exact absurd w (fun z => z)
    | some n =>
      simp only [h1] at w
      cases h2 : lstF m n fl with
      | none => simp only [h2] at w; exact absurd w (fun z => z)
      | some ds =>
        cases h3 : obGet m n fl2 with
        | none => simp only [h2, h3] at w; exact absurd w (fun z => z)
        | some d =>
          simp only [h2, h3] at w
          split at w
          · rename_i hc
            simp only [Bool.and_eq_true, Bool.not_eq_true', decide_eq_true_eq] at hc
            obtain ⟨y, ob, dx, vf, a, vs, s1, m1, m2, i1, k1, k2, k3, k4, k5, k6, a1, a2, a3⟩ := r.lstF h1 h2
            obtain ⟨ob', n1, n2⟩ := obGet_some h3
            rw [m1] at n1
            cases n1
            obtain ⟨u, l1, l2⟩ := (look_rep (F := FldR fr.p.K g H n) (f := fl2) k5).1 _ n2
            have ru := fldR_rep l2 hc.1.1
            have hnd : (ob.map (·.1)).Nodup := by
              have z := hc.2
              unfold ndOb at z
              rw [m1] at z
              exact of_decide_eq_true z
            obtain ⟨o2, e2⟩ := r.ok.mutF m1 hnd i1 k1 k2 k3 k4 k5 k6 a1 a2 (a3.append (.cons ru .nil)) m2
            rw [hK]
            refine ⟨_, s1, y, fr.p.C, dx, vf, _, rfl, k1, c, na, k6, .inl ⟨rfl, vs, SqL.of a1⟩, _, s1, y, fr.p.C, dx, vf, u, rfl, k1, c, na2, l1, a, vs, u, rfl, rfl, a1, by rw [a3.length]; exact hc.1.2, ?_⟩
            have e : obPut m n fl (.lst (ds ++ [d])) = m.set n (putFD fl (.lst (ds ++ [d])) ob) := by
              unfold obPut
              rw [m1]
            rw [e] at w
            exact w s g _ (Le.refl g) (r.ext e2 o2)
          · exact absurd w (fun z => z)
theorem obPut_eq {m : Store} {n : Nat} {ob : Ob} (h : m[n]? = some ob) (fl : Str) (d : D) : obPut m n fl d = m.set n (putFD fl d ob) := by
  unfold obPut
  rw [h]
def smOb (m : Store) (n : Nat) : Bool := match m[n]? with
  | some ob => decide (ob.length < 900)
  | none => false
/-- self.fl = e, no list -/
def fsetS (i : Nat) (fl : Str) (f : En → M D) : SM := fun rho => exS (bnd (f rho) fun d => bnd (lift (objAt i rho)) fun n m => if (!isLst d && smOb m n) = true then .ok () (obPut m n fl d) else .bad) rho fun _ m => .nx rho m
theorem s_fset (hK : X.K = fr.p.K) (c : Cls fr.p.K fr.p.C) (na : NoAttr fr.p.K fr.p.C fl) (hN : X.N[i]? = some x) (hv : Vis X.env.scope x) (hd : (x == ("__debug__" : Str)) = false) (hcd : (x == ("__classdict__" : Str)) = false) (he : PE X e (TV fr (vZ fr.p.K) f)) (hs : swapsWith e (some (.Attribute (.Name x p) fl p2)) pos.line X.env = pure false) :
    PS X (.Assign [.Attribute (.Name x p) fl p2] e pos) (TSt fr rk (fsetS i fl f)) :=
  ps_weak (ps_fld (pe_var hN hv hd hcd) he hs) fun Dn s H ⟨rho, g, m, r, w⟩ => by
    refine ⟨rho, g, m, r, wp_mono (wp_bnd.mp (exS_wp w)) (fun d m1 w1 v g1 H1 e1 o1 rv => ?_) fun c m' q => excE r q⟩
    obtain ⟨n, hn, w2⟩ := wp_lift.mp (wp_bnd.mp w1)
    split at w2
    · rename_i hc
      simp only [Bool.and_eq_true, Bool.not_eq_true'] at hc
      have r1 := r.ext e1 o1
      obtain ⟨u, u1, u2⟩ := r1.objV hn
      cases hm : m1[n]? with
      | none =>
        have z := hc.2
        unfold smOb at z
        rw [hm] at z
        cases z
      | some ob =>
        obtain ⟨y, rfl, hi, dx, vf, k1, k2, k3, k4, k5⟩ := o1.objAt u2 hm
        have rv : Rep fr.p.K g1 v d := rv
        have hl : vf.length < 1000 := by
          have z := hc.2
          unfold smOb at z
          rw [hm] at z
          have z := of_decide_eq_true z
          have := paired_len k5
          omega
        have fr1 : FldR fr.p.K g1 H1 n fl v d := by
          unfold FldR
          cases d with
          | lst ds => cases hc.1
          | _ => exact rv
        obtain ⟨o2, e2⟩ := o1.setF hm hi k1 k2 k3 k4 k5 fr1
        rw [hK]
        refine ⟨_, u1, y, fr.p.C, dx, vf, rfl, k1, c, na, hl, ?_⟩
        have w3 : RsW fr rk Dn g (.nx rho (obPut m1 n fl d)) := w2
        rw [obPut_eq hm] at w3
        exact w3 s g1 _ e1.le (r1.ext e2 o2)
    · exact absurd w2 (fun z => z)
/-- self.fl = [] -/
def fnewS (i : Nat) (fl : Str) : SM := fun rho m => match objAt i rho with
  | some n => if smOb m n = true then .nx rho (obPut m n fl (.lst [])) else .bad
  | none => .bad
theorem s_fnew {p3 : Pos} (hK : X.K = fr.p.K) (c : Cls fr.p.K fr.p.C) (na : NoAttr fr.p.K fr.p.C fl) (hN : X.N[i]? = some x) (hv : Vis X.env.scope x) (hd : (x == ("__debug__" : Str)) = false) (hcd : (x == ("__classdict__" : Str)) = false) :
    PS X (.Assign [.Attribute (.Name x p) fl p2] (.List [] p3) pos) (TSt fr rk (fnewS i fl)) :=
  ps_weak (ps_fld (pe_var hN hv hd hcd) (pe_lst pa_nil) rfl) fun Dn s H ⟨rho, g, m, r, w⟩ => by
    unfold fnewS at w
    cases h1 : objAt i rho with
    | none => simp only [h1] at w; exact absurd w (fun z => z)
    | some n =>
      simp only [h1] at w
      split at w
      · rename_i hc
        refine ⟨by show 0 ≤ sizeLine; omega, fun a ha => ?_⟩
        cases hm : m[n]? with
        | none =>
          unfold smOb at hc
          rw [hm] at hc
          cases hc
        | some ob =>
          obtain ⟨o1, e1⟩ := r.ok.raw ha (.lst [])
          have o2 := o1.give (a := a) upd_same (r.ok.bnone ha) (r.ok.fnone ha) (.fld n fl)
          have e2 : Ext g H (g.give a (.fld n fl)) (upd H a (.lst [])) := e1.give ha _
          have r2 := r.ext e2 o2
          obtain ⟨u, u1, u2⟩ := r2.objV h1
          obtain ⟨y, rfl, hi, dx, vf, k1, k2, k3, k4, k5⟩ := o2.objAt u2 hm
          have hl : vf.length < 1000 := by
            unfold smOb at hc
            rw [hm] at hc
            have z := of_decide_eq_true hc
            have := paired_len k5
            omega
          have fr1 : FldR fr.p.K (g.give a (.fld n fl)) (upd H a (.lst [])) n fl (.ref a) (.lst []) := ⟨a, [], rfl, upd_same, give_same, .nil⟩
          obtain ⟨o3, e3⟩ := o2.setF hm hi k1 k2 k3 k4 k5 fr1
          rw [hK]
          refine ⟨_, u1, y, fr.p.C, dx, vf, rfl, k1, c, na, hl, ?_⟩
          rw [obPut_eq hm] at w
          exact w s _ _ e2.le (r2.ext e3 o3)
      · exact absurd w (fun z => z)
/-- self.fl = self.fl2.pop() -/
def fpopS (i : Nat) (fl fl2 : Str) : SM := fun rho m => match objAt i rho with
  | some n => (match lstF m n fl2 with
    | some ds => (match ds[ds.length - 1]? with
      | some d => if (!isLst d && smOb m n && ndOb m n) = true then .nx rho (obPut (obPut m n fl2 (.lst ds.dropLast)) n fl d) else .bad
      | none => .bad)
    | none => .bad)
  | none => .bad
theorem RepL.dropLast {K : PySem.W.Frag} {g : Gh} {vs : List V} {ds : List D} (r : RepL K g vs ds) : RepL K g vs.dropLast ds.dropLast := by
  rw [List.dropLast_eq_take, List.dropLast_eq_take, r.length]
  exact r.take _
theorem putFD_len (f : Str) (d : D) : ∀ ob : Ob, (putFD f d ob).length ≤ ob.length + 1
  | [] => Nat.le_refl _
  | (g, x) :: r => by
    show (if g = f then (g, d) :: r else (g, x) :: putFD f d r).length ≤ _
    split
    · simp
    · simpa using putFD_len f d r
theorem s_fpop (hK : X.K = fr.p.K) (c : Cls fr.p.K fr.p.C) (na : NoAttr fr.p.K fr.p.C fl) (na2 : NoAttr fr.p.K fr.p.C fl2) (hN : X.N[i]? = some x) (hv : Vis X.env.scope x) (hd : (x == ("__debug__" : Str)) = false) (hcd : (x == ("__classdict__" : Str)) = false) {q1 q2 : Pos} (hline : (apos.endLine == cpos.line) = true) :
    PS X (.Assign [.Attribute (.Name x p) fl p2] (.Call (.Attribute (.Attribute (.Name x q1) fl2 q2) "pop" apos) [] [] cpos) pos) (TSt fr rk (fpopS i fl fl2)) :=
  ps_weak (ps_fld (pe_var hN hv hd hcd) (pe_bm0 PySem.F.plainAttrs_list PySem.F.slot_list_pop PySem.F.type_list_pop mt_pop (pe_fld (pe_var hN hv hd hcd) rfl) rfl hline) rfl) fun Dn s H ⟨rho, g, m, r, w⟩ => by
    unfold fpopS at w
    cases h1 : objAt i rho with
    | none => simp only [h1] at w; exact absurd w (fun z => z)
    | some n =>
      simp only [h1] at w
      cases h2 : lstF m n fl2 with
      | none => simp only [h2] at w; exact absurd w (fun z => z)
      | some ds =>
        simp only [h2] at w
        cases h3 : ds[ds.length - 1]? with
        | none => simp only [h3] at w; exact absurd w (fun z => z)
        | some d =>
          simp only [h3] at w
          split at w
          · rename_i hc
            simp only [Bool.and_eq_true, Bool.not_eq_true'] at hc
            obtain ⟨y, ob, dx, vf, a, vs, s1, m1, m2, i1, k1, k2, k3, k4, k5, k6, a1, a2, a3⟩ := r.lstF h1 h2
            obtain ⟨u, u1, u2⟩ := a3.get h3
            have hnd : (ob.map (·.1)).Nodup := by
              have z := hc.2
              unfold ndOb at z
              rw [m1] at z
              exact of_decide_eq_true z
            obtain ⟨o2, e2⟩ := r.ok.mutF m1 hnd i1 k1 k2 k3 k4 k5 k6 a1 a2 a3.dropLast m2
            have r2 := r.ext e2 o2
            obtain ⟨w2, w21, w22⟩ := r2.objV h1
            have hn : n < m.length := (List.getElem?_eq_some_iff.mp m1).1
            have m3 : (m.set n (putFD fl2 (.lst ds.dropLast) ob))[n]? = some (putFD fl2 (.lst ds.dropLast) ob) := List.getElem?_set_self hn
            obtain ⟨y2, rfl, j1, dx2, vf2, b1, b2, b3, b4, b5⟩ := o2.objAt w22 m3
            have hl : vf2.length < 1000 := by
              have z := hc.1.2
              unfold smOb at z
              rw [m1] at z
              have z := of_decide_eq_true z
              have q1 := paired_len b5
              have q2 := putFD_len fl2 (.lst ds.dropLast) ob
              omega
            have fr1 : FldR fr.p.K g (upd H a (.lst vs.dropLast)) n fl u d := by
              unfold FldR
              cases d with
              | lst ds => cases hc.1.1
              | _ => exact u2
            obtain ⟨o3, e3⟩ := o2.setF m3 j1 b1 b2 b3 b4 b5 fr1
            rw [hK]
            refine ⟨_, s1, y, fr.p.C, dx, vf, _, rfl, k1, c, na2, k6, .inl ⟨rfl, vs, SqL.of a1⟩, a, vs, u, rfl, rfl, a1, by rw [a3.length]; exact u1, _, w21, y2, fr.p.C, dx2, vf2, rfl, b1, c, na, hl, ?_⟩
            rw [obPut_eq m1, obPut_eq m3] at w
            exact w s g _ (Le.refl g) (r2.ext e3 o3)
          · exact absurd w (fun z => z)
/-! methods, the class -/
def isObj (mt : Str) (x : D) : M Nat := fun m => match x with
  | .obj n => (match m[n]? with
    | some ob => if (ob.lookup mt).isNone = true then .ok n m else .bad
    | none => .bad)
  | _ => .bad
def evMeth (mt : Str) (rn : List D → M D) (fo : En → M D) (fs : En → M (List D)) (rho : En) : M D := bnd (fo rho) fun x => bnd (isObj mt x) fun n => bnd (fs rho) fun ds => rn (.obj n :: ds)
theorem isObj_wp {x : D} {m : Store} {P : Nat → Store → Prop} {E : Nat → Store → Prop} (h : (isObj mt x m).wp P E) : ∃ n ob, x = .obj n ∧ m[n]? = some ob ∧ ob.lookup mt = none ∧ P n m := by
  unfold isObj at h
  cases x with
  | obj n =>
    cases q : m[n]? with
    | none => simp only [q] at h; exact absurd h (fun z => z)
    | some ob =>
      simp only [q] at h
      split at h
      · rename_i z
        exact ⟨n, ob, rfl, q, Option.isNone_iff_eq_none.mp z, h⟩
      · exact absurd h (fun z => z)
  | _ => exact absurd h (fun z => z)
theorem e_meth (kd : Kind fr.p.K vr) (hK : X.K = fr.p.K) (c : Cls fr.p.K fr.p.C) (hm : Meth fr.p.K fr.p.C mt fn) (F : FnOk X.prog X.w X.K X.mg X.base (L2.CX X.prog X.w) k fn fd ps (spD fr.p (.frz :: ms) vr rn)) (hr : Room k X.A) (hb : Binds X.K fd ps []) (tk : Takes X fr.W) (ho : PE X o (TV fr (vA fr.p.K) fo))
    (ha : PA X (e :: es) (TLg fr (lM fr.p.K ms) fs)) (hal : (e :: es).all pln = true) (hln : (e :: es).length < 20) (h1 : noCall o = true) (h3 : (apos.endLine == pos.line) = true) :
    PE X (.Call (.Attribute o mt apos) (e :: es) [] pos) (TV fr vr (evMeth mt rn fo fs)) := by
  have hp := List.all_cons ▸ hal
  rw [Bool.and_eq_true] at hp
  refine pe_weak (pe_methE ho (by rw [hK]; exact c) (by rw [hK]; exact hm) F hr hb (fun σ => passAt tk σ) ha (star_eq hp.1) (back_any hp.2) h1 (form_ok hal hln) h3) fun s H Q ⟨rho, g, m, rl, w⟩ => ?_
  refine ⟨rho, g, m, rl, wp_mono (wp_bnd.mp w) (fun dx m1 w1 v g1 H1 e1 o1 r1 => ?_) fun _ _ z => z⟩
  obtain ⟨n, ob, rfl, m2, l, w2⟩ := isObj_wp (wp_bnd.mp w1)
  have rv : Rep fr.p.K g1 v (.obj n) := r1
  obtain ⟨y, rfl, hi, dx, vf, k1, k2, k3, k4, k5⟩ := o1.objAt rv m2
  refine ⟨y, dx, vf, rfl, k1, (look_rep (F := FldR fr.p.K g1 H1 n) (f := mt) k5).2 l, rho, g1, m1, rl.ext e1 o1, wp_mono (wp_bnd.mp w2) (fun ds m3 w3 vs g2 H2 e2 o2 r2 => ?_) fun _ _ z => z.from e1⟩
  exact ⟨.obj n :: ds, g2, m3, o2, ⟨rv.mono e2.le, r2⟩, wp_mono w3 (fun d m4 q v g3 H3 e3 o3 r3 => q v g3 H3 ((e1.trans e2).trans e3) o3 (kd.back (e1.trans e2) r3)) fun c m4 q g3 H3 e3 o3 => q g3 H3 ((e1.trans e2).trans e3) o3⟩
theorem e_meth0 (kd : Kind fr.p.K vr) (hK : X.K = fr.p.K) (c : Cls fr.p.K fr.p.C) (hm : Meth fr.p.K fr.p.C mt fn) (F : FnOk X.prog X.w X.K X.mg X.base (L2.CX X.prog X.w) k fn fd ps (spD fr.p [.frz] vr rn)) (hr : Room k X.A) (hb : Binds X.K fd ps []) (tk : Takes X fr.W) (ho : PE X o (TV fr (vA fr.p.K) fo))
    (h1 : noCall o = true) (h3 : (apos.endLine == pos.line) = true) : PE X (.Call (.Attribute o mt apos) [] [] pos) (TV fr vr (evMeth mt rn fo evNil)) := by
  refine pe_weak (pe_methE0 ho (by rw [hK]; exact c) (by rw [hK]; exact hm) F hr hb (fun σ => passAt tk σ) h1 h3) fun s H Q ⟨rho, g, m, rl, w⟩ => ?_
  refine ⟨rho, g, m, rl, wp_mono (wp_bnd.mp w) (fun dx m1 w1 v g1 H1 e1 o1 r1 => ?_) fun _ _ z => z⟩
  obtain ⟨n, ob, rfl, m2, l, w2⟩ := isObj_wp (wp_bnd.mp w1)
  have rv : Rep fr.p.K g1 v (.obj n) := r1
  obtain ⟨y, rfl, hi, dx, vf, k1, k2, k3, k4, k5⟩ := o1.objAt rv m2
  have w3 : (rn [.obj n] m1).wp _ _ := w2
  exact ⟨y, dx, vf, rfl, k1, (look_rep (F := FldR fr.p.K g1 H1 n) (f := mt) k5).2 l, [.obj n], g1, m1, o1, ⟨rv, trivial⟩, wp_mono w3 (fun d m4 q v g3 H3 e3 o3 r3 => q v g3 H3 (e1.trans e3) o3 (kd.back e1 r3)) fun c m4 q g3 H3 e3 o3 => q g3 H3 (e1.trans e3) o3⟩
theorem RepM.ext {K : PySem.W.Frag} {g g' : Gh} {H H' : Hp} (e : Ext g H g' H') : ∀ {ms : List Md} {vs : List V} {ds : List D}, RepM K g H ms vs ds → RepM K g' H' ms vs ds
  | [], [], [], _ => trivial
  | md :: ms, v :: vs, d :: ds, h => ⟨by
      have h1 := h.1
      cases md with
      | frz => exact Rep.mono e.le h1
      | own => exact RepA.ext e h1
      | bor => exact RepA.ext e h1, RepM.ext e h.2⟩
  | [], [], _ :: _, h => h.elim
  | [], _ :: _, _, h => h.elim
  | _ :: _, [], _, h => h.elim
  | _ :: _, _ :: _, [], h => h.elim
def makeM (rn : List D → M D) (ds : List D) : M D := fun m => match rn (.obj m.length :: ds) (m ++ [[]]) with
  | .ok d m' => if isNon d = true then .ok (.obj m.length) m' else .bad
  | .exc c m' => .exc c m'
  | .bad => .bad
def evMake (rn : List D → M D) (fs : En → M (List D)) (rho : En) : M D := bnd (fs rho) (makeM rn)
theorem e_make {j : Nat} (hK : X.K = fr.p.K) (M : Mk fr.p.K fr.p.C fn) (F : FnOk X.prog X.w X.K X.mg X.base (L2.CX X.prog X.w) j fn fd ps (spD fr.p (.frz :: ms) vr rn)) (hvr : ∀ H0 g H v, vr H0 g H v .non → v = .non) (hr : Room (j + 1) X.A) (hg : Gl X x) (hm : X.mg x = some (.ref fr.p.C)) (hb : Binds X.K fd ps []) (tk : Takes X fr.W)
    (ha : PA X (e :: es) (TLg fr (lM fr.p.K ms) fs)) (hdb : (x == ("__debug__" : Str)) = false) (he : starEach (e :: es) X.env = (false, eval e X.env) :: starEach es X.env) (hpl : (backTo pos (starEach es X.env)).any (·.1) = false) :
    PE X (.Call (.Name x p) (e :: es) [] pos) (TV fr (vF fr.p.K) (evMake rn fs)) :=
  pe_weak (pe_makeE (C := fr.p.C) (by rw [hK]; exact M) F hr hg hm hb (fun σ => passAt tk σ) ha hdb he hpl) fun s H Q ⟨rho, g, m, rl, w⟩ => by
    refine ⟨rho, g, m, rl, wp_mono (wp_bnd.mp w) (fun ds m1 w1 vs g1 H1 e1 o1 r1 y dx hy hdx hne => ?_) fun _ _ z => z⟩
    obtain ⟨g2, o2, e2, r2⟩ := o1.make hy hdx hne
    have r1 : RepM fr.p.K g1 H1 ms vs ds := r1
    refine ⟨.obj m1.length :: ds, g2, m1 ++ [[]], o2, ⟨r2, r1.ext e2⟩, ?_⟩
    unfold makeM at w1
    cases q : rn (.obj m1.length :: ds) (m1 ++ [[]]) with
    | bad => simp only [q] at w1; exact absurd w1 (fun z => z)
    | exc cc m3 =>
      simp only [q] at w1
      exact fun g3 H3 e3 o3 => w1 g3 H3 ((e1.trans e2).trans e3) o3
    | ok d m3 =>
      simp only [q] at w1
      intro v g3 H3 e3 o3 r3
      cases d with
      | non => exact ⟨hvr _ _ _ _ r3, w1 _ g3 H3 ((e1.trans e2).trans e3) o3 (show Rep _ _ _ _ from r2.mono e3.le)⟩
      | _ => exact absurd w1 (fun z => z)
end
end PF
namespace PF
open PySem L2
/-! ### the small language -/
inductive I where
  | var (i : Nat) | int (n : Int) | bl (b : Bool) | str (s : Str) | non | gint (x : Str) (n : Int)
  | bin (o : Bop) (a b : I) | neg (a : I) | cmp (o : Cop) (a b : I) | chain (o p : Cop) (a b c : I)
  | not (a : I) | and (a b : I) | or (a b : I) | ife (c a b : I)
  | tup (a : I) | lst (a : I) | ix (a b : I) | sl (a lo hi : I) | sl3 (a lo hi st : I) | hole | prt (a : I)
  | call (j : Nat) (a : I) | call0 (j : Nat) | bi (b : Bi) (a : I) | isi (t : Ty) (a : I) | lrng (a : I) | idx (a b : I) | cntB (a b : I) | join (a b : I)
  | comp (it : I) (t : Tg) (c f : I) (vs : List Nat) | srt (ir il is ie : Nat)
  | nil | cons (a as : I)
  | tst (a : I) | tcmp (o : Cop) (a b : I) | tchn (o p : Cop) (a b c : I) | tnot (a : I) | tand (a b : I) | tor (a b : I)
  | iseq (a : I) | irng1 (a : I) | irng2 (a : I) | ienm (a : I) | izip (a : I)
  | pass | brk | cnt | expr (a : I) | set (i : Nat) (a : I) | setc (i : Nat) (it : I) (t : Tg) (c f : I) (vs : List Nat) | aug (sub : Bool) (i : Nat) (a : I) | ret (a : I) | retv (i : Nat)
  | iff (c p q : I) | whl (n : Nat) (c p : I) | for (it : I) (t : Tg) (p : I) | app (i : Nat) (a : I) | ext (i : Nat) (a : I) | put (i : Nat) (k a : I) | augput (sub : Bool) (i : Nat) (k a : I) | unp (t : Tg) (a : I) | par (i j : Nat) (a b : I)
  | raise (c : Nat) | try (b h : I) | hnd (c : Nat) (b r : I)
  | gstr (x z : Str) | gin (neg : Bool) (x : Str) (t : List (Str × Lt)) (a : I) | tgin (neg : Bool) (x : Str) (t : List (Str × Lt)) (a : I) | gix (x : Str) (t : List (Str × Lt)) (a : I) | gget (x : Str) (t : List (Str × Lt)) (a b : I)
  | lset (a : I) | ddis (a : I) | pcons (k v r : I) | dix (a b : I) | dget (a b c : I) | dprs (a : I) | dlen (a : I)
  | fld (a : I) (f : Str) | flast (i : Nat) (f : Str) | ftru (i : Nat) (f : Str) | fapp (i : Nat) (f g : Str) | fset (i : Nat) (f : Str) (a : I) | fnew (i : Nat) (f : Str) | fpop (i : Nat) (f g : Str)
  | meth (mt : Str) (j : Nat) (a as : I) | meth0 (mt : Str) (j : Nat) (a : I) | make (j : Nat) (a : I)
def bad {α : Type} : M α := fun _ => .bad
def badS : SM := fun _ _ => .bad
structure Den where
  v : En → M D := fun _ => bad
  b : En → M Bool := fun _ => bad
  l : En → M (List D) := fun _ => bad
  o : En → M (Option Int) := fun _ => bad
  s : SM := badS
  h : List (Nat × SM) := []
  p : En → M (List (Key × D)) := fun _ => bad
def lsetD (d : D) : Option D := (lstInts d).bind fun ns => if ns.length ≤ 4000 ∧ (distN ns).length ≤ 4000 then some (.int ((distN ns).length : Nat)) else none
def Bi.sem : Bi → List D → Option D
  | .len => one lenD | .sum => one sumD | .max => mm true | .min => mm false | .list => one listD | .tuple => one tupleD | .int => one int1D | .str => one str1D | .sorted => one sortedD
def den (exm : Nat → Nat → Bool) (cl : Nat → List D → M D) : I → Den
  | .var i => { v := evVar i }
  | .int n => { v := fun _ => PF.ret (.int n) }
  | .bl n => { v := fun _ => PF.ret (.bl n) }
  | .str n => { v := fun _ => PF.ret (.str n) }
  | .non => { v := fun _ => PF.ret .non }
  | .gint _ n => { v := fun _ => PF.ret (.int n) }
  | .bin o a b => { v := ev2 o.sem (den exm cl a).v (den exm cl b).v }
  | .neg a => { v := ev1 negD (den exm cl a).v }
  | .cmp o a b => { v := ev2 o.sem (den exm cl a).v (den exm cl b).v }
  | .chain o p a b c => { v := evChain o.sem p.sem (den exm cl a).v (den exm cl b).v (den exm cl c).v }
  | .not a => { v := evNot (den exm cl a).v }
  | .and a b => { v := evAnd (den exm cl a).v (den exm cl b).v }
  | .or a b => { v := evOr (den exm cl a).v (den exm cl b).v }
  | .ife c a b => { v := evIf (den exm cl c).b (den exm cl a).v (den exm cl b).v }
  | .tup a => { v := fun rho => bnd ((den exm cl a).l rho) tupM }
  | .lst a => { v := fun rho => bnd ((den exm cl a).l rho) lstM }
  | .ix a b => { v := ev2 ixD (den exm cl a).v (den exm cl b).v }
  | .sl a lo hi => { v := evSl (den exm cl a).v (den exm cl lo).o (den exm cl hi).o }
  | .sl3 a lo hi st => { v := evSl3 (den exm cl a).v (den exm cl lo).o (den exm cl hi).o (den exm cl st).o }
  | .hole => { o := evPart none, b := yesB }
  | .prt a => { o := evPart (some (den exm cl a).v) }
  | .call j a => { v := evCall (cl j) (den exm cl a).l }
  | .call0 j => { v := evCall0 (cl j) }
  | .bi b a => { v := evB b.sem (den exm cl a).l }
  | .isi t a => { v := ev1 (isiD t) (den exm cl a).v }
  | .lrng a => { v := ev1 lrngD (den exm cl a).v }
  | .idx a b => { v := evM isLst indexD (den exm cl a).v (den exm cl b).v }
  | .cntB a b => { v := evM isLst countD (den exm cl a).v (den exm cl b).v }
  | .join a b => { v := evM isStr joinD (den exm cl a).v (den exm cl b).v }
  | .comp it t c f vs => { v := evComp (den exm cl it).l t (den exm cl c).b (den exm cl f).v vs }
  | .srt a b c d => { v := evSort a b c d }
  | .nil => { l := evNil, s := nxS, h := [], p := evPnil }
  | .cons a as => { l := evCons (den exm cl a).v (den exm cl as).l, s := seqS (den exm cl a).s (den exm cl as).s }
  | .tst a => { b := fun rho => bnd ((den exm cl a).v rho) truthM }
  | .tcmp o a b => { b := evT (ev2 o.sem (den exm cl a).v (den exm cl b).v) }
  | .tchn o p a b c => { b := evT (evChain o.sem p.sem (den exm cl a).v (den exm cl b).v (den exm cl c).v) }
  | .tnot a => { b := tbNot (den exm cl a).b }
  | .tand a b => { b := tbAnd (den exm cl a).b (den exm cl b).b }
  | .tor a b => { b := tbOr (den exm cl a).b (den exm cl b).b }
  | .iseq a => { l := evSeq (den exm cl a).v }
  | .irng1 a => { l := evI rng1 (den exm cl a).l }
  | .irng2 a => { l := evI rng2 (den exm cl a).l }
  | .ienm a => { l := evI enm1 (den exm cl a).l }
  | .izip a => { l := evI zip2 (den exm cl a).l }
  | .pass => { s := nxS }
  | .brk => { s := bkS }
  | .cnt => { s := ctS }
  | .expr a => { s := dropS (den exm cl a).v }
  | .set i a => { s := setS i (den exm cl a).v }
  | .setc i it t c f vs => { s := setS i (evComp (den exm cl it).l t (den exm cl c).b (den exm cl f).v vs) }
  | .aug sub i a => { s := augS sub i (den exm cl a).v }
  | .ret a => { s := retS (den exm cl a).v }
  | .retv i => { s := retS (evVar i) }
  | .iff c p q => { s := ifS (den exm cl c).b (den exm cl p).s (den exm cl q).s }
  | .whl n c p => { s := whileS (den exm cl c).b (den exm cl p).s n }
  | .for it t p => { s := forT (den exm cl it).l t (den exm cl p).s }
  | .app i a => { s := appS i (den exm cl a).v }
  | .ext i a => { s := extS i (den exm cl a).v }
  | .put i k a => { s := putS i (den exm cl k).v (den exm cl a).v }
  | .augput sub i k a => { s := augPutS sub i (den exm cl k).v (den exm cl a).v }
  | .unp t a => { s := unpS t (den exm cl a).v }
  | .par i j a b => { s := parS i j (den exm cl a).v (den exm cl b).v }
  | .raise c => { s := raiseS c }
  | .try b h => { s := tryS exm (den exm cl b).s ((den exm cl h).h.map fun q => (q.1, stillS q.2)) }
  | .hnd c b r => { h := (c, (den exm cl b).s) :: (den exm cl r).h }
  | .gstr _ z => { v := fun _ => PF.ret (.str z) }
  | .gin neg _ t a => { v := ev1 (ginD neg t) (den exm cl a).v }
  | .tgin neg _ t a => { b := evT (ev1 (ginD neg t) (den exm cl a).v) }
  | .gix _ t a => { v := ev1 (gixD t) (den exm cl a).v }
  | .gget _ t a b => { v := evGget t (den exm cl a).v (den exm cl b).v }
  | .lset a => { v := ev1 lsetD (den exm cl a).v }
  | .ddis a => { v := evDisp (den exm cl a).p }
  | .pcons k v r => { p := evPairs (den exm cl k).v (den exm cl v).v (den exm cl r).p }
  | .dix a b => { v := ev2 dixD (den exm cl a).v (den exm cl b).v }
  | .dget a b c => { v := evM2 (den exm cl a).v (den exm cl b).v (den exm cl c).v }
  | .dprs a => { v := evB (one dprsD) (den exm cl a).l }
  | .dlen a => { v := evB (one dlenD) (den exm cl a).l }
  | .fld a f => { v := evFld f (den exm cl a).v }
  | .flast i f => { v := evFlast i f }
  | .ftru i f => { b := evFtru i f }
  | .fapp i f g => { s := fappS i f g }
  | .fset i f a => { s := fsetS i f (den exm cl a).v }
  | .fnew i f => { s := fnewS i f }
  | .fpop i f g => { s := fpopS i f g }
  | .meth mt j a as => { v := evMeth mt (cl j) (den exm cl a).v (den exm cl as).l }
  | .meth0 mt j a => { v := evMeth mt (cl j) (den exm cl a).v evNil }
  | .make j a => { v := evMake (cl (j + 1000)) (den exm cl a).l }
/-! ### what is written -/
structure FI where
  name : Str
  ps : List Str
  ms : List Md
  kd : Nat
  me : Bool
structure Pg where
  fns : List FI
  gis : List (Str × Int)
  excs : List Str
  gss : List (Str × Str)
  gds : List (Str × List (Str × Lt))
  flds : List Str
  cls : Str
structure Sc where
  pg : Pg
  N : List Str
  scope : Scope
  md : List Md
  rk : Nat
  top : Bool
  srt : Bool
  hot : Bool
def Sc.mdf (sc : Sc) (i : Nat) : Md := sc.md.getD i .frz
def Sc.blk (sc : Sc) (scope : Scope) : Sc := { sc with scope := relS scope sc.scope, top := false, srt := false }
def Sc.suite (sc : Sc) : Sc := { sc with top := false, srt := false, hot := true }
def kdOf (sc : Sc) : I → Nat
  | .var i => if sc.mdf i = .frz then 1 else 2
  | .and _ b => kdOf sc b
  | .or _ b => kdOf sc b
  | .ife _ a b => max (kdOf sc a) (kdOf sc b)
  | .ix _ _ => 1
  | .call j _ => ((sc.pg.fns[j]?).map (·.kd)).getD 2
  | .call0 j => ((sc.pg.fns[j]?).map (·.kd)).getD 2
  | .meth _ j _ _ => ((sc.pg.fns[j]?).map (·.kd)).getD 2
  | .meth0 _ j _ => ((sc.pg.fns[j]?).map (·.kd)).getD 2
  | .dix _ _ => 1
  | .dget _ _ _ => 1
  | .gget _ _ _ _ => 1
  | .fld _ _ => 1
  | .flast _ _ => 1
  | _ => 0
def nmOk (x : Str) : Bool := !(x == ("__debug__" : Str)) && !(x == ("__classdict__" : Str)) && !(x == ("__name__" : Str))
def Sc.vis (sc : Sc) (x : Str) : Bool := match sc.scope.names.lookup x with
  | some .local => true
  | some .cell => true
  | some .free => true
  | _ => false
def Sc.loc (sc : Sc) (x : Str) : Bool := match sc.scope.names.lookup x with
  | some .local => true
  | some .cell => true
  | _ => false
def Sc.gl (sc : Sc) (x : Str) : Bool := match sc.scope.names.lookup x with
  | some .globalImplicit => true
  | _ => false
def Sc.var (sc : Sc) (i : Nat) (x : Str) : Bool := decide (sc.N[i]? = some x) && sc.vis x && nmOk x
def Sc.blt (sc : Sc) (x : Str) (y : Str) : Bool := decide (x = y) && sc.gl x && nmOk x
def parB (sc : Sc) (x y : Str) (px py : Pos) (a b : Expr) : Bool := decide (sc.scope.names.lookup x = some .local) && decide (sc.scope.names.lookup y = some .local) && decide (py.line = px.line) && decide (x ≠ y) && pln a && pln b && !([a, b].all (foldedForSure 8)) && !([a, b].all (constantsAlone 8))
def anyCell (sc : Sc) (es : List Expr) : Bool := es.any fun e => match e with
  | .Name x _ => decide (sc.scope.names.lookup x = some .cell)
  | _ => false
def borV (sc : Sc) : I → Bool
  | .var i => decide (sc.mdf i = .bor)
  | _ => false
inductive Syn where
  | e (x : Expr) | t (x : Expr) | aA (xs : List Expr) | aZ (xs : List Expr) | aM (ms : List Md) (xs : List Expr) | o (x : Option Expr) | i (any : Bool) (tg x : Expr) | ts | s (x : Stmt) | b (xs : List Stmt) | h (xs : List ExceptHandler) | p (ks : List (Option Expr)) (vs : List Expr)
def Bi.nm : Bi → Str
  | .len => "len" | .sum => "sum" | .max => "max" | .min => "min" | .list => "list" | .tuple => "tuple" | .int => "int" | .str => "str" | .sorted => "sorted"
/-- a target whose names may be stored: fn tells which cells are the block's own -/
def tgB (sc : Sc) (fn : Str → Bool) (t : Tg) (e : Expr) : Bool := match t, e with
  | .nm i, .Name x _ => decide (sc.N[i]? = some x) && (decide (sc.scope.names.lookup x = some .local) || (decide (sc.scope.names.lookup x = some .cell) && fn x)) && decide (sc.mdf i = .frz)
  | .tp is, .Tuple es _ _ => decide (is.length = es.length) && (is.zip es).all fun q => match q.2 with
    | .Name x _ => decide (sc.N[q.1]? = some x) && (decide (sc.scope.names.lookup x = some .local) || (decide (sc.scope.names.lookup x = some .cell) && fn x)) && decide (sc.mdf q.1 = .frz)
    | _ => false
  | .tn i is, .Tuple [.Name x _, .Tuple es _ _] _ _ => (decide (sc.N[i]? = some x) && (decide (sc.scope.names.lookup x = some .local) || (decide (sc.scope.names.lookup x = some .cell) && fn x)) && decide (sc.mdf i = .frz)) && (decide (is.length = es.length) && (is.zip es).all fun q => match q.2 with
    | .Name x _ => decide (sc.N[q.1]? = some x) && (decide (sc.scope.names.lookup x = some .local) || (decide (sc.scope.names.lookup x = some .cell) && fn x)) && decide (sc.mdf q.1 = .frz)
    | _ => false)
  | _, _ => false
def swB (sc : Sc) (scope : Scope) (t : Str) (l : Bool) : Bool := decide (sc.scope.names.lookup t = some .local) && l && !(scope.names.any fun (n, k) => n == t && (k == .local || k == .cell))
def ownOf (sc : Sc) (vs : List Nat) : List (Str × Nat) := vs.map fun i => (sc.N.getD i "", i)
def lamB (sc : Sc) (ir il is ie : Nat) : Expr → Bool
  | .Call (.Name f _) [.Name xr _] [⟨some kw, .Lambda ar body scope _, _⟩] _ => sc.srt && !sc.hot && sc.blt f "sorted" && sc.var ir xr && decide (kw = ("key" : Str)) && decide (sc.N[il]? = some "left") && decide (sc.N[is]? = some "shares") && decide (sc.N[ie]? = some "every") &&
      decide (sc.scope.names.lookup ("left" : Str) = some .cell) && decide (sc.scope.names.lookup ("shares" : Str) = some .cell) && decide (sc.scope.names.lookup ("every" : Str) = some .cell) &&
      (match ar with
        | ⟨[], [⟨a, none, _⟩], none, [], [], none, []⟩ => decide (a = ("at" : Str))
        | _ => false) &&
      (match scope with
        | ⟨.function, [(a, .local), (b, .free), (c, .free), (d, .free)], false, false, []⟩ => decide (a = ("at" : Str)) && decide (b = ("every" : Str)) && decide (c = ("left" : Str)) && decide (d = ("shares" : Str))
        | _ => false) &&
      (match body with
        | .Tuple [.UnaryOp .USub (.BinOp (.BinOp (.Name a _) .Mult (.Subscript (.Name b _) (.Name c _) _) _) .Mod (.Name d _) _) _, .Name e _] 0 _ => decide (a = ("left" : Str)) && decide (b = ("shares" : Str)) && decide (c = ("at" : Str)) && decide (d = ("every" : Str)) && decide (e = ("at" : Str))
        | _ => false)
  | _ => false
def m : I → Sc → Syn → Bool
  | .var i => fun sc yy => match yy with
    | .e (.Name x _) => sc.var i x
    | _ => false
  | .int n => fun sc yy => match yy with
    | .e (.Constant (.int k) _ _) => decide (n = k)
    | _ => false
  | .bl n => fun sc yy => match yy with
    | .e (.Constant (.bool k) _ _) => decide (n = k)
    | _ => false
  | .str n => fun sc yy => match yy with
    | .e (.Constant (.str k) _ _) => decide (n = k)
    | _ => false
  | .non => fun sc yy => match yy with
    | .e (.Constant .none _ _) => true
    | _ => false
  | .gint y n => fun sc yy => match yy with
    | .e (.Name x _) => decide (y = x) && sc.gl x && nmOk x && decide ((x, n) ∈ sc.pg.gis)
    | _ => false
  | .bin o a b => fun sc yy => match yy with
    | .e (.BinOp x q y _) => decide (q = o.op) && m a sc (.e x) && m b sc (.e y)
    | _ => false
  | .neg a => fun sc yy => match yy with
    | .e (.UnaryOp .USub x _) => m a sc (.e x)
    | _ => false
  | .not a => fun sc yy => match yy with
    | .e (.UnaryOp .Not x _) => m a sc (.e x)
    | _ => false
  | .cmp o a b => fun sc yy => match yy with
    | .e (.Compare x [q] [y] _) => decide (q = o.op) && pln y && m a sc (.e x) && m b sc (.e y)
    | _ => false
  | .chain o p a b c => fun sc yy => match yy with
    | .e (.Compare x [q, r] [y, z] _) => decide (q = o.op) && decide (r = p.op) && pln y && pln z && m a sc (.e x) && m b sc (.e y) && m c sc (.e z)
    | _ => false
  | .and a b => fun sc yy => match yy with
    | .e (.BoolOp .And (x :: y :: []) _) => m a sc (.e x) && m b sc (.e y)
    | .e (.BoolOp .And (x :: y :: z :: r) p) => m a sc (.e x) && m b sc (.e (.BoolOp .And (y :: z :: r) p))
    | _ => false
  | .or a b => fun sc yy => match yy with
    | .e (.BoolOp .Or (x :: y :: []) _) => m a sc (.e x) && m b sc (.e y)
    | .e (.BoolOp .Or (x :: y :: z :: r) p) => m a sc (.e x) && m b sc (.e (.BoolOp .Or (y :: z :: r) p))
    | _ => false
  | .ife c a b => fun sc yy => match yy with
    | .e (.IfExp x y z _) => m c sc (.t x) && m a sc (.e y) && m b sc (.e z)
    | _ => false
  | .tup a => fun sc yy => match yy with
    | .e (.Tuple xs _ _) => m a sc (.aZ xs)
    | _ => false
  | .lst a => fun sc yy => match yy with
    | .e (.List xs _) => m a sc (.aZ xs)
    | _ => false
  | .ix a b => fun sc yy => match yy with
    | .e (.Subscript x y _) => pln y && m a sc (.e x) && m b sc (.e y)
    | _ => false
  | .sl a lo hi => fun sc yy => match yy with
    | .e (.Subscript x (.Slice l h none _) _) => m a sc (.e x) && m lo sc (.o l) && m hi sc (.o h)
    | _ => false
  | .sl3 a lo hi st => fun sc yy => match yy with
    | .e (.Subscript x (.Slice l h (some k) _) _) => m a sc (.e x) && m lo sc (.o l) && m hi sc (.o h) && m st sc (.o (some k))
    | _ => false
  | .hole => fun sc yy => match yy with
    | .o none => true
    | .ts => true
    | _ => false
  | .prt a => fun sc yy => match yy with
    | .o (some x) => m a sc (.e x)
    | _ => false
  | .call j a => fun sc yy => match yy with
    | .e (.Call (.Name x _) (y :: ys) [] _) => !sc.hot && sc.gl x && nmOk x && (y :: ys).all pln && (match sc.pg.fns[j]? with
        | some f => decide (f.name = x) && !f.me && m a sc (.aM f.ms (y :: ys))
        | none => false)
    | _ => false
  | .call0 j => fun sc yy => match yy with
    | .e (.Call (.Name x _) [] [] _) => !sc.hot && sc.gl x && nmOk x && (match sc.pg.fns[j]? with
        | some f => decide (f.name = x) && !f.me && decide (f.ms = [])
        | none => false)
    | _ => false
  | .bi b a => fun sc yy => match yy with
    | .e (.Call (.Name x _) (y :: ys) [] _) => !sc.hot && sc.blt x b.nm && (y :: ys).all pln && m a sc (.aA (y :: ys))
    | _ => false
  | .isi t a => fun sc yy => match yy with
    | .e (.Call (.Name x _) [y, .Name z _] [] _) => sc.blt x "isinstance" && sc.gl z && nmOk z && pln y && decide (z = Str.ofString t.nm) && decide (t ≠ .none) && m a sc (.e y)
    | _ => false
  | .lrng a => fun sc yy => match yy with
    | .e (.Call (.Name x _) [.Call (.Name y _) [z] [] _] [] _) => !sc.hot && sc.blt x "list" && sc.blt y "range" && pln z && m a sc (.e z)
    | _ => false
  | .idx a b => fun sc yy => match yy with
    | .e (.Call (.Attribute x nm apos) [y] [] cpos) => decide (nm = ("index" : Str)) && noCall x && pln y && (apos.endLine == cpos.line) && m a sc (.e x) && m b sc (.e y)
    | _ => false
  | .cntB a b => fun sc yy => match yy with
    | .e (.Call (.Attribute x nm apos) [y] [] cpos) => decide (nm = ("count" : Str)) && noCall x && pln y && (apos.endLine == cpos.line) && m a sc (.e x) && m b sc (.e y)
    | _ => false
  | .join a b => fun sc yy => match yy with
    | .e (.Call (.Attribute x nm apos) [y] [] cpos) => decide (nm = ("join" : Str)) && noCall x && pln y && (apos.endLine == cpos.line) && m a sc (.e x) && m b sc (.e y)
    | _ => false
  | .comp it t c f vs => fun sc yy => match yy with
    | .e (.ListComp elt [⟨tg, iter, ifs, 0⟩] scope _) => !sc.hot && pln iter && m it sc (.i true tg iter) && blkC sc.N sc.scope scope (ownOf sc vs) && tgB (sc.blk scope) (fun x => scope.names.lookup x == some .cell) t tg && decide (∀ i ∈ t.sl, i ∈ vs) && (match ifs with
      | [] => m c (sc.blk scope) (.ts)
      | [x] => m c (sc.blk scope) (.t x)
      | _ => false) && m f (sc.blk scope) (.e elt) && decide (kdOf (sc.blk scope) f ≤ 1)
    | _ => false
  | .srt a b c d => fun sc yy => match yy with
    | .e x => lamB sc a b c d x
    | _ => false
  | .nil => fun sc yy => match yy with
    | .aA [] => true
    | .aZ [] => true
    | .aM [] [] => true
    | .b [] => true
    | .h [] => true
    | .p [] [] => true
    | _ => false
  | .cons a as => fun sc yy => match yy with
    | .aA (x :: xs) => pln x && m a sc (.e x) && m as sc (.aA xs)
    | .aZ (x :: xs) => pln x && m a sc (.e x) && decide (kdOf sc a ≤ 1) && m as sc (.aZ xs)
    | .aM (md :: ms) (x :: xs) => pln x && m a sc (.e x) && (match md with
        | .frz => decide (kdOf sc a ≤ 1)
        | .bor => true
        | .own => false) && m as sc (.aM ms xs)
    | .b (x :: xs) => m a sc (.s x) && m as sc (.b xs)
    | _ => false
  | .tst a => fun sc yy => match yy with
    | .t x => tru x && m a sc (.e x)
    | _ => false
  | .tcmp o a b => fun sc yy => match yy with
    | .t (.Compare x [q] [y] _) => decide (q = o.op) && pln y && m a sc (.e x) && m b sc (.e y)
    | _ => false
  | .tchn o p a b c => fun sc yy => match yy with
    | .t (.Compare x [q, r] [y, z] _) => decide (q = o.op) && decide (r = p.op) && pln y && pln z && m a sc (.e x) && m b sc (.e y) && m c sc (.e z)
    | _ => false
  | .tnot a => fun sc yy => match yy with
    | .t (.UnaryOp .Not x _) => m a sc (.t x)
    | _ => false
  | .tand a b => fun sc yy => match yy with
    | .t (.BoolOp .And (x :: y :: []) _) => m a sc (.t x) && m b sc (.t y)
    | .t (.BoolOp .And (x :: y :: z :: r) p) => m a sc (.t x) && m b sc (.t (.BoolOp .And (y :: z :: r) p))
    | _ => false
  | .tor a b => fun sc yy => match yy with
    | .t (.BoolOp .Or (x :: y :: []) _) => m a sc (.t x) && m b sc (.t y)
    | .t (.BoolOp .Or (x :: y :: z :: r) p) => m a sc (.t x) && m b sc (.t (.BoolOp .Or (y :: z :: r) p))
    | _ => false
  | .iseq a => fun sc yy => match yy with
    | .i any _ x => m a sc (.e x) && (any || decide (kdOf sc a ≤ 1) || borV sc a)
    | _ => false
  | .irng1 a => fun sc yy => match yy with
    | .i _ _ (.Call (.Name x _) [y] [] _) => sc.blt x "range" && pln y && m a sc (.aA [y])
    | _ => false
  | .irng2 a => fun sc yy => match yy with
    | .i _ _ (.Call (.Name x _) [y, z] [] _) => sc.blt x "range" && pln y && pln z && m a sc (.aA [y, z])
    | _ => false
  | .ienm a => fun sc yy => match yy with
    | .i any (.Tuple _ _ _) (.Call (.Name x _) [y] [] _) => sc.blt x "enumerate" && pln y && m a sc (if any then .aA [y] else .aZ [y])
    | _ => false
  | .izip a => fun sc yy => match yy with
    | .i any (.Tuple _ _ _) (.Call (.Name x _) [y, z] [] _) => sc.blt x "zip" && pln y && pln z && m a sc (if any then .aA [y, z] else .aZ [y, z])
    | _ => false
  | .pass => fun sc yy => match yy with
    | .s (.Pass _) => true
    | _ => false
  | .brk => fun sc yy => match yy with
    | .s (.Break _) => true
    | _ => false
  | .cnt => fun sc yy => match yy with
    | .s (.Continue _) => true
    | _ => false
  | .expr a => fun sc yy => match yy with
    | .s (.Expr x _) => noCmp x && m a sc (.e x)
    | _ => false
  | .set i a => fun sc yy => match yy with
    | .s (.Assign [.Name x p] y _) => (sc.top || sc.hot) && decide (sc.N[i]? = some x) && sc.loc x && (match y with
        | .ListComp _ _ scope q => !swB sc scope x (p.line == q.line)
        | z => noCmp z) && m a sc (.e y) && (match sc.mdf i with
        | .frz => decide (kdOf sc a ≤ 1)
        | .own => decide (kdOf sc a = 0)
        | .bor => false)
    | _ => false
  | .setc i it t c f vs => fun sc yy => match yy with
    | .s (.Assign [.Name x p] (.ListComp elt [⟨tg, iter, ifs, 0⟩] scope q) _) => sc.top && decide (sc.N[i]? = some x) && decide (sc.scope.names.lookup x = some .local) && swB sc scope x (p.line == q.line) && (match sc.mdf i with
        | .frz => true
        | .own => true
        | .bor => false) &&
          (pln iter && m it sc (.i true tg iter) && blkC sc.N sc.scope scope (ownOf sc vs) && tgB (sc.blk scope) (fun x => scope.names.lookup x == some .cell) t tg && decide (∀ i ∈ t.sl, i ∈ vs) && (match ifs with
      | [] => m c (sc.blk scope) (.ts)
      | [x] => m c (sc.blk scope) (.t x)
      | _ => false) && m f (sc.blk scope) (.e elt) && decide (kdOf (sc.blk scope) f ≤ 1))
    | _ => false
  | .aug sub i a => fun sc yy => match yy with
    | .s (.AugAssign (.Name x _) q y _) => (sc.top || sc.hot) && decide (sc.N[i]? = some x) && sc.loc x && decide (q = if sub then .Sub else .Add) && decide (sc.mdf i = .frz) && m a sc (.e y)
    | _ => false
  | .ret a => fun sc yy => match yy with
    | .s (.Return (some x) _) => m a sc (.e x) && decide (kdOf sc a ≤ sc.rk)
    | _ => false
  | .retv i => fun sc yy => match yy with
    | .s (.Return (some (.Name x _)) _) => sc.var i x && decide (sc.mdf i = .own)
    | _ => false
  | .iff c p q => fun sc yy => match yy with
    | .s (.If x y z _) => m c sc (.t x) && m p sc (.b y) && m q sc (.b z)
    | _ => false
  | .whl _ c p => fun sc yy => match yy with
    | .s (.While x y [] _) => sc.top && m c sc (.t x) && m p sc (.b y)
    | _ => false
  | .for it t p => fun sc yy => match yy with
    | .s (.For tg iter y [] _) => sc.top && pln iter && m it sc (.i false tg iter) && tgB sc (fun _ => true) t tg && m p sc (.b y)
    | _ => false
  | .app i a => fun sc yy => match yy with
    | .s (.Expr (.Call (.Attribute (.Name x _) at_ apos) [y] [] cpos) _) => sc.var i x && decide (sc.mdf i = .own) && decide (at_ = ("append" : Str)) && (apos.endLine == cpos.line) && pln y && m a sc (.e y) && decide (kdOf sc a ≤ 1)
    | _ => false
  | .ext i a => fun sc yy => match yy with
    | .s (.Expr (.Call (.Attribute (.Name x _) at_ apos) [y] [] cpos) _) => sc.var i x && decide (sc.mdf i = .own) && decide (at_ = ("extend" : Str)) && (apos.endLine == cpos.line) && pln y && m a sc (.e y)
    | _ => false
  | .put i k a => fun sc yy => match yy with
    | .s (.Assign [.Subscript (.Name x _) y _] z _) => sc.var i x && decide (sc.mdf i = .own) && pln y && noCmp z && m k sc (.e y) && m a sc (.e z) && decide (kdOf sc a ≤ 1)
    | _ => false
  | .augput sub i k a => fun sc yy => match yy with
    | .s (.AugAssign (.Subscript (.Name x _) y _) q z _) => sc.var i x && decide (sc.mdf i = .own) && pln y && decide (q = if sub then .Sub else .Add) && m k sc (.e y) && m a sc (.e z)
    | _ => false
  | .unp t a => fun sc yy => match yy with
    | .s (.Assign [.Tuple es k p] y _) => sc.top && tgB sc (fun _ => true) t (.Tuple es k p) && noCmp y && (noTup y || anyCell sc es) && m a sc (.e y) && decide (kdOf sc a ≤ 1)
    | _ => false
  | .par i j a b => fun sc yy => match yy with
    | .s (.Assign [.Tuple [.Name x px, .Name y py] _ _] (.Tuple [u, w] _ _) _) => sc.top && decide (sc.N[i]? = some x) && decide (sc.N[j]? = some y) && decide (i ≠ j) && decide (sc.mdf i = .frz) && decide (sc.mdf j = .frz) && parB sc x y px py u w && m a sc (.e u) && decide (kdOf sc a ≤ 1) && m b sc (.e w) && decide (kdOf sc b ≤ 1)
    | _ => false
  | .raise c => fun sc yy => match yy with
    | .s (.Raise (some (.Call (.Name x _) [.Constant (.str _) _ _] [] _)) none _) => sc.top && sc.gl x && nmOk x && decide (sc.pg.excs[c]? = some x)
    | _ => false
  | .try b h => fun sc yy => match yy with
    | .s (.Try x (y :: ys) [] [] _) => sc.top && m b sc (.b x) && m h sc (.h (y :: ys))
    | _ => false
  | .hnd c b r => fun sc yy => match yy with
    | .h (.ExceptHandler (some (.Name x _)) none (y :: ys) _ :: zs) => sc.top && sc.gl x && nmOk x && decide (sc.pg.excs[c]? = some x) && m b sc.suite (.b (y :: ys)) && m r sc (.h zs)
    | _ => false
  | .gstr y z => fun sc yy => match yy with
    | .e (.Name x _) => decide (y = x) && sc.gl x && nmOk x && decide ((x, z) ∈ sc.pg.gss)
    | _ => false
  | .gin neg y t a => fun sc yy => match yy with
    | .e (.Compare e [q] [.Name x _] _) => decide (q = if neg then .NotIn else .In) && decide (y = x) && sc.gl x && nmOk x && decide ((x, t) ∈ sc.pg.gds) && m a sc (.e e)
    | _ => false
  | .tgin neg y t a => fun sc yy => match yy with
    | .t (.Compare e [q] [.Name x _] _) => decide (q = if neg then .NotIn else .In) && decide (y = x) && sc.gl x && nmOk x && decide ((x, t) ∈ sc.pg.gds) && m a sc (.e e)
    | _ => false
  | .gix y t a => fun sc yy => match yy with
    | .e (.Subscript (.Name x _) e _) => pln e && decide (y = x) && sc.gl x && nmOk x && decide ((x, t) ∈ sc.pg.gds) && m a sc (.e e)
    | _ => false
  | .gget y t a b => fun sc yy => match yy with
    | .e (.Call (.Attribute (.Name x _) nm apos) [e, e2] [] cpos) => decide (nm = ("get" : Str)) && decide (y = x) && sc.gl x && nmOk x && decide ((x, t) ∈ sc.pg.gds) && pln e && pln e2 && (apos.endLine == cpos.line) && m a sc (.e e) && m b sc (.e e2) && decide (kdOf sc b ≤ 1)
    | _ => false
  | .lset a => fun sc yy => match yy with
    | .e (.Call (.Name x _) [.Call (.Name y _) [z] [] _] [] _) => !sc.hot && sc.blt x "len" && sc.blt y "set" && pln z && m a sc (.e z)
    | _ => false
  | .ddis a => fun sc yy => match yy with
    | .e (.Dict (k :: ks) vs _) => decide ((k :: ks).length ≤ 15) && m a sc (.p (k :: ks) vs)
    | _ => false
  | .pcons k v r => fun sc yy => match yy with
    | .p (some x :: ks) (y :: vs) => m k sc (.e x) && m v sc (.e y) && decide (kdOf sc v ≤ 1) && m r sc (.p ks vs)
    | _ => false
  | .dix a b => fun sc yy => match yy with
    | .e (.Subscript x y _) => pln y && m a sc (.e x) && m b sc (.e y)
    | _ => false
  | .dget a b c => fun sc yy => match yy with
    | .e (.Call (.Attribute x nm apos) [e, e2] [] cpos) => decide (nm = ("get" : Str)) && noCall x && pln e && pln e2 && (apos.endLine == cpos.line) && m a sc (.e x) && m b sc (.e e) && m c sc (.e e2) && decide (kdOf sc c ≤ 1)
    | _ => false
  | .dprs a => fun sc yy => match yy with
    | .e (.Call (.Name x _) [y] [] _) => !sc.hot && sc.blt x "dict" && pln y && m a sc (.aA [y])
    | _ => false
  | .dlen a => fun sc yy => match yy with
    | .e (.Call (.Name x _) [y] [] _) => !sc.hot && sc.blt x "len" && pln y && m a sc (.aA [y])
    | _ => false
  | .fld a f => fun sc yy => match yy with
    | .e (.Attribute x nm _) => decide (nm = f) && noCall x && decide (f ∈ sc.pg.flds) && m a sc (.e x)
    | _ => false
  | .flast i f => fun sc yy => match yy with
    | .e (.Subscript (.Attribute (.Name x _) nm _) (.UnaryOp .USub (.Constant (.int k) _ _) _) _) => decide (nm = f) && decide (k = 1) && sc.var i x && decide (f ∈ sc.pg.flds)
    | _ => false
  | .ftru i f => fun sc yy => match yy with
    | .t (.Attribute (.Name x _) nm _) => decide (nm = f) && sc.var i x && decide (f ∈ sc.pg.flds)
    | _ => false
  | .fapp i f g => fun sc yy => match yy with
    | .s (.Expr (.Call (.Attribute (.Attribute (.Name x _) nm _) at_ apos) [.Attribute (.Name x2 _) nm2 _] [] cpos) _) => decide (nm = f) && decide (nm2 = g) && decide (x2 = x) && decide (at_ = ("append" : Str)) && sc.var i x && decide (f ∈ sc.pg.flds) && decide (g ∈ sc.pg.flds) && (apos.endLine == cpos.line)
    | _ => false
  | .fset i f a => fun sc yy => match yy with
    | .s (.Assign [.Attribute (.Name x _) nm _] y _) => decide (nm = f) && sc.var i x && decide (f ∈ sc.pg.flds) && noCmp y && m a sc (.e y) && decide (kdOf sc a ≤ 1)
    | _ => false
  | .fnew i f => fun sc yy => match yy with
    | .s (.Assign [.Attribute (.Name x _) nm _] (.List [] _) _) => decide (nm = f) && sc.var i x && decide (f ∈ sc.pg.flds)
    | _ => false
  | .fpop i f g => fun sc yy => match yy with
    | .s (.Assign [.Attribute (.Name x _) nm _] (.Call (.Attribute (.Attribute (.Name x2 _) nm2 _) at_ apos) [] [] cpos) _) => decide (nm = f) && decide (nm2 = g) && decide (x2 = x) && decide (at_ = ("pop" : Str)) && sc.var i x && decide (f ∈ sc.pg.flds) && decide (g ∈ sc.pg.flds) && (apos.endLine == cpos.line)
    | _ => false
  | .meth mt j a as => fun sc yy => match yy with
    | .e (.Call (.Attribute x nm apos) (y :: ys) [] cpos) => !sc.hot && decide (nm = mt) && noCall x && (y :: ys).all pln && decide ((y :: ys).length < 20) && (apos.endLine == cpos.line) && m a sc (.e x) && (match sc.pg.fns[j]? with
        | some f => decide (f.name = nm) && f.me && (match f.ms with
          | .frz :: ms => m as sc (.aM ms (y :: ys))
          | _ => false)
        | none => false)
    | _ => false
  | .meth0 mt j a => fun sc yy => match yy with
    | .e (.Call (.Attribute x nm apos) [] [] cpos) => !sc.hot && decide (nm = mt) && noCall x && (apos.endLine == cpos.line) && m a sc (.e x) && (match sc.pg.fns[j]? with
        | some f => decide (f.name = nm) && f.me && decide (f.ms = [.frz])
        | none => false)
    | _ => false
  | .make j a => fun sc yy => match yy with
    | .e (.Call (.Name x _) (y :: ys) [] _) => !sc.hot && sc.gl x && nmOk x && decide (x = sc.pg.cls) && (y :: ys).all pln && (match sc.pg.fns[j]? with
        | some f => decide (f.name = ("__init__" : Str)) && f.me && (match f.ms with
          | .frz :: ms => m a sc (.aM ms (y :: ys))
          | _ => false)
        | none => false)
    | _ => false
end PF
namespace PF
open PySem L2
/-! ### the matched text does what is told -/
structure Glb where
  P : Program
  w : World
  mg : Str → Option Value
  base : Heap
  p : Par
  k : Nat
  cl : Nat → List D → M D
  exm : Nat → Nat → Bool
def vk (K : PySem.W.Frag) : Nat → VR
  | 0 => vF K
  | 1 => vZ K
  | _ => vA K
theorem kK (K : PySem.W.Frag) : ∀ n, Kind K (vk K n)
  | 0 => kF K
  | 1 => kZ K
  | _ + 2 => kA K
theorem up {X : Cx} {fr : Fr} {x : Expr} {f : En → M D} {j k : Nat} (h : j ≤ k) (q : PE X x (TV fr (vk fr.p.K j) f)) : PE X x (TV fr (vk fr.p.K k) f) := by
  match j, k, h with
  | 0, 0, _ => exact q
  | 0, 1, _ => exact toZ q
  | 0, _ + 2, _ => exact fToA q
  | 1, 1, _ => exact q
  | 1, _ + 2, _ => exact toA q
  | _ + 2, _ + 2, _ => exact q
  | _ + 2, 1, h => exact absurd h (by omega)
  | _ + 1, 0, h => exact absurd h (by omega)
theorem upA {X : Cx} {fr : Fr} {x : Expr} {f : En → M D} {j : Nat} (q : PE X x (TV fr (vk fr.p.K j) f)) : PE X x (TV fr (vA fr.p.K) f) := up (k := j + 2) (by omega) q
theorem upZ {X : Cx} {fr : Fr} {x : Expr} {f : En → M D} {j : Nat} (h : j ≤ 1) (q : PE X x (TV fr (vk fr.p.K j) f)) : PE X x (TV fr (vZ fr.p.K) f) := up (k := 1) h q
def bltNames : List Str := ["len", "sum", "max", "min", "list", "tuple", "int", "str", "isinstance", "range", "enumerate", "zip", "sorted", "bool", "set", "abs", "any", "all", "dict"]
structure Facts (G : Glb) (pg : Pg) : Prop where
  fn : ∀ j f, pg.fns[j]? = some f → f.me = false → ∃ a fd, G.mg f.name = some (.ref a) ∧ PySem.W.keepIn G.p.K (.ref a) = true ∧ Binds G.p.K fd f.ps [] ∧ FnOk G.P G.w G.p.K G.mg G.base (L2.CX G.P G.w) G.k a fd f.ps (spD G.p f.ms (vk G.p.K f.kd) (G.cl j))
  blt : ∀ x ∈ bltNames, G.mg x = none
  gi : ∀ q ∈ pg.gis, ∃ t, G.mg q.1 = some (.int q.2 t)
  exc : ∀ c x, pg.excs[c]? = some x → ∃ (C : Addr) (bmB : List Value) (B newId initId : String), ExcBaseFacts B newId initId bmB ∧ PySem.W.excIn G.p.K C bmB newId = true ∧ G.mg x = some (.ref C) ∧ PySem.W.keepIn G.p.K (.ref C) = true ∧ (∀ X : Cx, X.K = G.p.K → Raises X (.ref C)) ∧ G.p.cls c = .ref C
  exm : ∀ c h, PySem.W.exmOne G.p.K (G.p.cls c) (G.p.cls h) = some (G.exm c h)
  gs : ∀ q ∈ pg.gss, ∃ t, G.mg q.1 = some (.str q.2 t)
  gd : ∀ q ∈ pg.gds, ∃ d, G.mg q.1 = some (.ref d) ∧ KTab G.p.K G.w d q.2
  fl : ∀ f ∈ pg.flds, Cls G.p.K G.p.C ∧ NoAttr G.p.K G.p.C f
  mt : ∀ j f, pg.fns[j]? = some f → f.me = true → ∃ a fd, Cls G.p.K G.p.C ∧ Meth G.p.K G.p.C f.name a ∧ Binds G.p.K fd f.ps [] ∧ FnOk G.P G.w G.p.K G.mg G.base (L2.CX G.P G.w) G.k a fd f.ps (spD G.p f.ms (vk G.p.K f.kd) (G.cl j))
  mkr : ∀ j f, pg.fns[j]? = some f → f.me = true → f.name = ("__init__" : Str) → ∃ k' a fd, G.k = k' + 1 ∧ Mk G.p.K G.p.C a ∧ G.mg pg.cls = some (.ref G.p.C) ∧ Binds G.p.K fd f.ps [] ∧ FnOk G.P G.w G.p.K G.mg G.base (L2.CX G.P G.w) k' a fd f.ps (spD G.p f.ms (vk G.p.K f.kd) (G.cl (j + 1000)))
structure Ctx (G : Glb) (sc : Sc) (X : Cx) (fr : Fr) : Prop where
  p : fr.p = G.p
  hK : X.K = G.p.K
  hN : X.N = sc.N
  nd : sc.N.Nodup
  hs : X.env.scope = sc.scope
  kind : sc.scope.kind = .function
  mg : X.mg = G.mg
  base : X.base = G.base
  prog : X.prog = G.P
  w : X.w = G.w
  un : X.A.units + 200 < cLine
  calm : sc.hot = false → X.calm = true
  room : sc.hot = false → Room G.k X.A
  tk : Takes X fr.W
  md : ∀ i, fr.md i = sc.mdf i
  fn : sc.top = true ∨ sc.hot = true → X.fn = fun _ => true
  top : sc.top = true → sc.hot = false ∧ PassesOwn (model X.prog X.w) X.A X.env X.xe ∧ X.stack = X.env :: X.outer ∧ X.env.frame = some X.env.locals
  srt : sc.srt = true → ∃ c P, LamX.TabB X.base X.mg c P ∧ X.env.code = .ref c ∧ (P, X.env.qual ++ "<lambda>") ∈ fr.p.T ∧ ∀ p ∈ fr.p.T, p.1 = P → p.2 = X.env.qual ++ "<lambda>"
def Good (G : Glb) (sc : Sc) (X : Cx) (fr : Fr) (i : I) : Syn → Prop
  | .e x => PE X x (TV fr (vk fr.p.K (kdOf sc i)) (den G.exm G.cl i).v)
  | .t x => PT X x (TB fr (den G.exm G.cl i).b) ∧ ∀ op vs p, x = .BoolOp op vs p → PW X x (TB fr (den G.exm G.cl i).b)
  | .aA xs => PA X xs (TLg fr (lA fr.p.K) (den G.exm G.cl i).l)
  | .aZ xs => PA X xs (TLg fr (lZ fr.p.K) (den G.exm G.cl i).l)
  | .aM ms xs => PA X xs (TLg fr (lM fr.p.K ms) (den G.exm G.cl i).l)
  | .o x => PO X x (TO' fr (den G.exm G.cl i).o)
  | .i any tg x => PI X tg x (TIt fr any (den G.exm G.cl i).l)
  | .ts => (den G.exm G.cl i).b = yesB
  | .s x => PS X x (TSt fr (vk fr.p.K sc.rk) (den G.exm G.cl i).s)
  | .b xs => PSs X xs (TSt fr (vk fr.p.K sc.rk) (den G.exm G.cl i).s)
  | .h xs => HdsOk X xs (hdT fr (vk fr.p.K sc.rk) (den G.exm G.cl i).h)
  | .p ks vs => ∃ trs, PPd X fr ks vs (den G.exm G.cl i).p trs
section
variable {G : Glb} {sc : Sc} {X : Cx} {fr : Fr}
theorem nmOk_iff {x : Str} (h : nmOk x = true) : (x == ("__debug__" : Str)) = false ∧ (x == ("__classdict__" : Str)) = false ∧ x ≠ "__name__" := by
  unfold nmOk at h
  simp only [Bool.and_eq_true, Bool.not_eq_true'] at h
  exact ⟨h.1.1, h.1.2, fun e => by rw [e] at h; simp at h⟩
theorem Ctx.vis (c : Ctx G sc X fr) {x : Str} (h : sc.vis x = true) : Vis X.env.scope x := by
  rw [c.hs]
  unfold Sc.vis at h
  unfold Vis
  split at h <;> first | exact .inl (by assumption) | exact .inr (.inl (by assumption)) | exact .inr (.inr (by assumption)) | cases h
theorem Ctx.loc (c : Ctx G sc X fr) {x : Str} (h : sc.loc x = true) : L2.Loc X.env.scope x := by
  rw [c.hs]
  unfold Sc.loc at h
  unfold L2.Loc
  split at h <;> first | exact .inl (by assumption) | exact .inr (by assumption) | cases h
theorem Ctx.gl (c : Ctx G sc X fr) {x : Str} (h : sc.gl x = true) : Gl X x := by
  unfold Gl Env.kindOf
  rw [c.hs]
  unfold Sc.gl at h
  split at h <;> first | assumption | cases h
theorem Ctx.var (c : Ctx G sc X fr) {i : Nat} {x : Str} (h : sc.var i x = true) : X.N[i]? = some x ∧ Vis X.env.scope x ∧ (x == ("__debug__" : Str)) = false ∧ (x == ("__classdict__" : Str)) = false := by
  unfold Sc.var at h
  simp only [Bool.and_eq_true, decide_eq_true_eq] at h
  exact ⟨by rw [c.hN]; exact h.1.1, c.vis h.1.2, (nmOk_iff h.2).1, (nmOk_iff h.2).2.1⟩
theorem Ctx.blt (c : Ctx G sc X fr) {pg : Pg} (F : Facts G pg) {x y : Str} (hy : y ∈ bltNames) (h : sc.blt x y = true) : x = y ∧ Gl X x ∧ X.mg x = none ∧ x ≠ "__name__" ∧ (x == ("__debug__" : Str)) = false := by
  unfold Sc.blt at h
  simp only [Bool.and_eq_true, decide_eq_true_eq] at h
  obtain ⟨⟨rfl, h2⟩, h3⟩ := h
  exact ⟨rfl, c.gl h2, by rw [c.mg]; exact F.blt _ hy, (nmOk_iff h3).2.2, (nmOk_iff h3).1⟩
theorem Ctx.hK' (c : Ctx G sc X fr) : X.K = fr.p.K := by rw [c.p]; exact c.hK
theorem Bi.bi_ok {x : Str} {e : Expr} {es : List Expr} {p pos : Pos} {fs : En → M (List D)} (c : Ctx G sc X fr) (hh : sc.hot = false) (b : Bi) (hx : x = b.nm) (hg : Gl X x) (hm : X.mg x = none) (hn : x ≠ "__name__") (hdb : (x == ("__debug__" : Str)) = false)
    (ha : PA X (e :: es) (TLg fr (lA fr.p.K) fs)) (he : starEach (e :: es) X.env = (false, eval e X.env) :: starEach es X.env) (hpl : (backTo pos (starEach es X.env)).any (·.1) = false) :
    PE X (.Call (.Name x p) (e :: es) [] pos) (TV fr (vF fr.p.K) (evB b.sem fs)) := by
  subst hx
  have hc := c.calm hh
  cases b with
  | len => exact e_callB c.hK' o_len im_len hg hm rfl ha hn hdb he hpl
  | sum => exact e_callB c.hK' (o_sum hc) im_sum hg hm rfl ha hn hdb he hpl
  | max => exact e_callB c.hK' (o_max hc) (im_mm true) hg hm rfl ha hn hdb he hpl
  | min => exact e_callB c.hK' (o_min hc) (im_mm false) hg hm rfl ha hn hdb he hpl
  | list => exact e_callTy c.hK' call_list_of im_list hg hm rfl ha hn hdb he hpl
  | tuple => exact e_callTy c.hK' call_tuple_of im_tuple hg hm rfl ha hn hdb he hpl
  | int => exact e_callTy c.hK' o_int1 im_int1 hg hm rfl ha hn hdb he hpl
  | sorted => exact e_callB c.hK' o_sorted im_sorted hg hm rfl ha hn hdb he hpl
  | str => exact e_callTy c.hK' call_str_int im_str1 hg hm rfl ha hn hdb he hpl
theorem Ctx.blk (c : Ctx G sc X fr) (hh : sc.hot = false) {scope : Scope} (hk : scope.kind = .function) (s : Shared) (H : Hp) (C : Addr) (cl : List (Str × Addr)) (fp : List Addr) : Ctx G (sc.blk scope) (X.blk s H scope (compEnvC scope cl C X.env) fp) fr.still where
  p := c.p
  hK := c.hK
  hN := c.hN
  nd := c.nd
  hs := by
    show relS scope X.env.scope = relS scope sc.scope
    rw [c.hs]
  kind := hk
  mg := c.mg
  base := c.base
  prog := c.prog
  w := c.w
  un := c.un
  calm := fun _ => c.calm hh
  room := fun _ => c.room hh
  tk := takes_none5
  md := c.md
  fn := fun z => by
    rcases z with z | z
    · cases z
    · rw [show (sc.blk scope).hot = sc.hot from rfl, hh] at z; cases z
  top := fun z => by cases z
  srt := fun z => by cases z
theorem Ctx.tr (c : Ctx G sc X fr) (hh : sc.top = true) (W : WX) (pn : List (Addr × Obj)) (xe : Value → Shared → Prop) (tk : Takes (X.tr pn xe) W) (po : PassesOwn (model X.prog X.w) X.A X.env xe) : Ctx G sc (X.tr pn xe) (fr.wish W) where
  p := c.p
  hK := c.hK
  hN := c.hN
  nd := c.nd
  hs := c.hs
  kind := c.kind
  mg := c.mg
  base := c.base
  prog := c.prog
  w := c.w
  un := c.un
  calm := c.calm
  room := c.room
  tk := tk
  md := c.md
  fn := c.fn
  top := fun z => ⟨(c.top z).1, po, (c.top z).2.2⟩
  srt := c.srt
theorem Ctx.suite (c : Ctx G sc X fr) (hh : sc.top = true) (a : Addr) (pn : List (Addr × Obj)) : Ctx G sc.suite (X.suite a pn) fr.still where
  p := c.p
  hK := c.hK
  hN := c.hN
  nd := c.nd
  hs := c.hs
  kind := c.kind
  mg := c.mg
  base := c.base
  prog := c.prog
  w := c.w
  un := c.un
  calm := fun z => by cases z
  room := fun z => by cases z
  tk := takes_none5
  md := c.md
  fn := fun _ => c.fn (.inl hh)
  top := fun z => by cases z
  srt := fun z => by cases z
theorem tg_one {fn : Str → Bool} (c : Ctx G sc X fr) (hfn : ∀ x, fn x = true → X.fn x = true) {i : Nat} {x : Str} {p : Pos}
    (h : (decide (sc.N[i]? = some x) && (decide (sc.scope.names.lookup x = some .local) || (decide (sc.scope.names.lookup x = some .cell) && fn x)) && decide (sc.mdf i = .frz)) = true) : PG X (.Name x p) (gName i) ∧ fr.md i = .frz := by
  simp only [Bool.and_eq_true, Bool.or_eq_true, decide_eq_true_eq] at h
  obtain ⟨⟨h1, h2⟩, h3⟩ := h
  refine ⟨pg_name (by rw [c.hN]; exact c.nd) (by rw [c.hN]; exact h1) ?_ ?_, by rw [c.md]; exact h3⟩
  · unfold L2.Loc
    rw [c.hs]
    exact h2.imp id fun z => z.1
  · rw [c.hs]
    exact h2.elim .inr fun z => .inl (hfn x z.2)
theorem tgs_ok {fn : Str → Bool} (c : Ctx G sc X fr) (hfn : ∀ x, fn x = true → X.fn x = true) : ∀ {is : List Nat} {es : List Expr}, is.length = es.length → ((is.zip es).all fun q => match q.2 with
    | .Name x _ => decide (sc.N[q.1]? = some x) && (decide (sc.scope.names.lookup x = some .local) || (decide (sc.scope.names.lookup x = some .cell) && fn x)) && decide (sc.mdf q.1 = .frz)
    | _ => false) = true → PGs X es (gNames is) ∧ (∀ i ∈ is, fr.md i = .frz) ∧ (assignEach es X.env).length = is.length ∧ (assignEach es X.env).findIdx? (·.1) = none
  | [], [], _, _ => ⟨pgs_nil, (fun i hi => by cases hi), rfl, rfl⟩
  | i :: is, e :: es, hl, h => by
    rw [List.zip_cons_cons, List.all_cons, Bool.and_eq_true] at h
    obtain ⟨h1, h2⟩ := h
    obtain ⟨q1, q2, q3, q4⟩ := tgs_ok c hfn (Nat.succ.inj hl) h2
    cases e with
    | Name x p =>
      obtain ⟨a1, a2⟩ := tg_one (p := p) c hfn h1
      refine ⟨pgs_cons a1 q1 rfl, fun j hj => ?_, ?_, ?_⟩
      · rcases List.mem_cons.mp hj with z | z
        · rw [z]; exact a2
        · exact q2 j z
      · show (assignEach es X.env).length + 1 = _
        rw [q3]
        rfl
      · show ((false, assign (.Name x p) X.env) :: assignEach es X.env).findIdx? (·.1) = none
        rw [List.findIdx?_cons, q4]
        rfl
    | _ => exact Bool.noConfusion (show false = true from h1)
  | [], _ :: _, hl, _ => by cases hl
  | _ :: _, [], hl, _ => by cases hl
theorem tg_ok {fn : Str → Bool} (c : Ctx G sc X fr) (hc : X.calm = true) (hfn : ∀ x, fn x = true → X.fn x = true) {t : Tg} {e : Expr} (h : tgB sc fn t e = true) : ∃ g, PG X e g ∧ TgOk fr g t := by
  unfold tgB at h
  split at h
  · obtain ⟨h1, h2⟩ := tg_one (p := by assumption) c hfn h
    exact ⟨_, h1, tg_nm h2⟩
  · rw [Bool.and_eq_true, decide_eq_true_eq] at h
    obtain ⟨q1, q2, q3, q4⟩ := tgs_ok c hfn h.1 h.2
    refine ⟨_, pg_tup hc q1 q3 q4, ?_⟩
    rw [c.hK']
    exact tg_tp q2
  · obtain ⟨h1, h2⟩ := Bool.and_eq_true_iff.mp h
    obtain ⟨h3, h4⟩ := Bool.and_eq_true_iff.mp h2
    have a1 := fun p => (tg_one (p := p) c hfn h1).1
    have a2 := (tg_one (p := ⟨0, 0, 0, 0⟩) c hfn h1).2
    obtain ⟨q1, q2, q3, q4⟩ := tgs_ok c hfn (of_decide_eq_true h3) h4
    refine ⟨_, pg_tup (n := 2) hc (pgs_cons (a1 _) (pgs_cons (pg_tup hc q1 q3 q4) pgs_nil rfl) rfl) rfl rfl, ?_⟩
    rw [c.hK']
    exact tg_tn a2 q2
  · cases h
theorem par_eq (c : Ctx G sc X fr) {x y : Str} {px py pt pt2 : Pos} {kt k2 : Nat} {a b : Expr} (h : parB sc x y px py a b = true) : swappedStores [.Tuple [.Name x px, .Name y py] kt pt] (.Tuple [a, b] k2 pt2) X.env = pure (some [x, y]) := by
  unfold parB at h
  simp only [Bool.and_eq_true, decide_eq_true_eq, Bool.not_eq_true'] at h
  obtain ⟨⟨⟨⟨⟨⟨⟨h1, h2⟩, h3⟩, h4⟩, h5⟩, h6⟩, h7⟩, h8⟩ := h
  have e1 : X.env.blockKind = .function := by
    unfold Env.blockKind
    rw [c.hs, c.kind]
    rfl
  have ex : X.env.kindOf x = some .local := by unfold Env.kindOf; rw [c.hs]; exact h1
  have ey : X.env.kindOf y = some .local := by unfold Env.kindOf; rw [c.hs]; exact h2
  have sa : ([a, b].any fun e => match e with | .Starred .. => true | _ => false) = false := by
    rw [List.any_cons, List.any_cons, List.any_nil]
    have fa : (fun e : Expr => match e with | .Starred .. => true | _ => false) a = false := by cases a <;> first | rfl | cases h5
    have fb : (fun e : Expr => match e with | .Starred .. => true | _ => false) b = false := by cases b <;> first | rfl | cases h6
    exact Bool.or_eq_false_iff.mpr ⟨fa, Bool.or_eq_false_iff.mpr ⟨fb, rfl⟩⟩
  have xy : (x == y) = false := beq_eq_false_iff_ne.mpr h4
  unfold swappedStores
  simp only [e1, sa, List.filterMap_cons, List.filterMap_nil, ex, ey, h7, h8, List.head?_cons, Option.map_some, Option.getD_some, Expr.pos, h3]
  have ll : (some NameKind.local == some NameKind.local && px.line == px.line) = true := by simp
  have ed : [x, y].eraseDups = [x, y] := by
    have yx : (y == x) = false := beq_eq_false_iff_ne.mpr fun z => h4 z.symm
    simp [List.eraseDups_cons, yx]
  simp only [ll, if_true, ed]
  refine (if_neg (by intro z; cases z)).trans ((if_neg (fun z => ?_)).trans ((if_neg (by simp)).trans rfl))
  exact Bool.noConfusion (sa.symm.trans z)
theorem cell_none (c : Ctx G sc X fr) {es : List Expr} {e : Expr} {kt : Nat} {pt : Pos} (h : anyCell sc es = true) : swappedStores [.Tuple es kt pt] e X.env = pure none := by
  unfold swappedStores
  cases e with
  | Tuple vs k2 p2 =>
    have key : ∀ (line : Nat), (es.filterMap fun e => match e with
      | .Name id pos => if (X.env.kindOf id == some .local && pos.line == line) = true then some id else none
      | _ => none).length ≠ es.length := fun line => by
      unfold anyCell at h
      have h := h
      intro z
      have nn : ∀ {l : List Expr}, (l.filterMap fun e => match e with
        | .Name id pos => if (X.env.kindOf id == some .local && pos.line == line) = true then some id else none
        | _ => none).length ≤ l.length := List.length_filterMap_le _ _
      clear pt
      induction es with
      | nil => cases h
      | cons e es ih =>
        rw [List.any_cons, Bool.or_eq_true] at h
        rw [List.filterMap_cons] at z
        rcases h with h | h
        · cases e with
          | Name x p =>
            have hx := of_decide_eq_true h
            have e2 : X.env.kindOf x = some .cell := by
              unfold Env.kindOf
              rw [c.hs]
              exact hx
            have n := nn (l := es)
            simp only [e2] at z
            have f : (some NameKind.cell == some NameKind.local && p.line == line) = false := rfl
            simp only [f] at z
            simp only [List.length_cons] at z
            have z2 : (es.filterMap fun e => match e with
              | .Name id pos => if (X.env.kindOf id == some .local && pos.line == line) = true then some id else none
              | _ => none).length = es.length + 1 := z
            omega
          | _ => cases h
        · have n := nn (l := es)
          refine ih h h ?_
          split at z
          · simp only [List.length_cons] at z
            omega
          · simp only [List.length_cons] at z
            omega
    dsimp only
    split
    · rfl
    · split
      · rfl
      · refine (if_pos ?_).trans rfl
        rw [Bool.or_eq_true]
        exact .inl (bne_iff_ne.mpr (key _))
  | _ => rfl
end
end PF
namespace PF
open PySem L2
theorem ret_own {X : Cx} {fr : Fr} {st : Stmt} {f : En → M D} (k : Nat) (h : PS X st (TSt fr (vF fr.p.K) (retS f))) : PS X st (TSt fr (vk fr.p.K k) (retS f)) := ps_weak h fun Dn s H ⟨rho, g, m, r, w⟩ => ⟨rho, g, m, r, by
  unfold retS exS at *
  cases q : f rho m with
  | ok d m' =>
    rw [q] at w
    intro v g' H' e o z
    match k with
    | 0 => exact w v g' H' e o z
    | 1 =>
      obtain ⟨g2, o2, e2, z2⟩ := RepF.frz o e z
      exact w v g2 H' e2 o2 z2
    | _ + 2 => exact w v g' H' e o (RepF.any z)
  | exc c m' => rw [q] at w; exact w
  | bad => rw [q] at w; exact w⟩
theorem comp_static {G : Glb} {sc : Sc} {X : Cx} {fr : Fr} (c : Ctx G sc X fr) (hh : sc.hot = false) {scope : Scope} {vs : List Nat} {t : Tg} {tg : Expr} (h2 : blkC sc.N sc.scope scope (ownOf sc vs) = true) (h3 : tgB (sc.blk scope) (fun x => scope.names.lookup x == some .cell) t tg = true) :
    BlkOk X.N X.env.scope scope (ownOf sc vs) ∧ (ownOf sc vs).map (·.2) = vs ∧ scope.kind = .function ∧ ∃ g, TgOk fr.still g t ∧ ∀ (s : Shared) (H : Hp) (C : Addr) (cl : List (Str × Addr)) (fp : List Addr), PG (X.blk s H scope (compEnvC scope cl C X.env) fp) tg g := by
  have b := blkOk_by h2
  refine ⟨by rw [c.hN, c.hs]; exact b, ?_, b.kind, ?_⟩
  · unfold ownOf
    rw [List.map_map]
    exact List.map_id _
  · have key : ∀ (s : Shared) (H : Hp) (C : Addr) (cl : List (Str × Addr)) (fp : List Addr), ∃ g, PG (X.blk s H scope (compEnvC scope cl C X.env) fp) tg g ∧ TgOk fr.still g t := fun s H C cl fp => tg_ok (c.blk hh b.kind s H C cl fp) (c.calm hh) (fun x z => z) h3
    unfold tgB at h3
    split at h3
    · refine ⟨_, tg_nm (by simp only [Bool.and_eq_true, decide_eq_true_eq] at h3; rw [c.md]; exact h3.2), fun s H C cl fp => (tg_one (c.blk hh b.kind s H C cl fp) (fun x z => z) h3).1⟩
    · rw [Bool.and_eq_true, decide_eq_true_eq] at h3
      refine ⟨gTup fr.p.K _ (gNames _), tg_tp ?_, fun s H C cl fp => ?_⟩
      · exact (tgs_ok (c.blk hh b.kind X.s_0 X.H_0 0 [] []) (fun x z => z) h3.1 h3.2).2.1
      · obtain ⟨q1, q2, q3, q4⟩ := tgs_ok (c.blk hh b.kind s H C cl fp) (fun x z => z) h3.1 h3.2
        rw [← c.hK']
        exact pg_tup (c.calm hh) q1 q3 q4
    · obtain ⟨k1, k2⟩ := Bool.and_eq_true_iff.mp h3
      obtain ⟨k3, k4⟩ := Bool.and_eq_true_iff.mp k2
      have k3 := of_decide_eq_true k3
      refine ⟨gTup fr.p.K 2 (gCons (gName _) (gCons (gTup fr.p.K _ (gNames _)) gNil)), tg_tn (by have h0 := k1; simp only [Bool.and_eq_true, decide_eq_true_eq] at h0; rw [c.md]; exact h0.2) ?_, fun s H C cl fp => ?_⟩
      · exact (tgs_ok (c.blk hh b.kind X.s_0 X.H_0 0 [] []) (fun x z => z) k3 k4).2.1
      · obtain ⟨q1, q2, q3, q4⟩ := tgs_ok (c.blk hh b.kind s H C cl fp) (fun x z => z) k3 k4
        have a1 := fun p => (tg_one (p := p) (c.blk hh b.kind s H C cl fp) (fun x z => z) k1).1
        rw [← c.hK']
        exact pg_tup (X := X.blk s H scope (compEnvC scope cl C X.env) fp) (n := 2) (c.calm hh) (pgs_cons (a1 _) (pgs_cons (pg_tup (X := X.blk s H scope (compEnvC scope cl C X.env) fp) (c.calm hh) q1 q3 q4) pgs_nil rfl) rfl) rfl rfl
    · cases h3
theorem sw_any {G : Glb} {sc : Sc} {X : Cx} {fr : Fr} (c : Ctx G sc X fr) {a : Expr} {gs : List Comprehension} {scope : Scope} {q p : Pos} {x : Str} {l : Nat} : swapsWith (.ListComp a gs scope q) (some (.Name x p)) l X.env = pure (swB sc scope x (p.line == q.line)) := by
  have e1 : X.env.blockKind = .function := by
    unfold Env.blockKind
    rw [c.hs, c.kind]
    rfl
  have e2 : X.env.kindOf x = sc.scope.names.lookup x := by
    unfold Env.kindOf
    rw [c.hs]
  show (pure (X.env.blockKind == .function && X.env.kindOf x == some .local && p.line == q.line && !(scope.names.any fun (n, k) => n == x && (k == .local || k == .cell))) : Sem Bool) = _
  rw [e1, e2]
  unfold swB
  congr 1
  cases h : sc.scope.names.lookup x with
  | none => rfl
  | some k => cases k <;> rfl
theorem sw_eq {G : Glb} {sc : Sc} {X : Cx} {fr : Fr} (c : Ctx G sc X fr) {a : Expr} {gs : List Comprehension} {scope : Scope} {q p : Pos} {x : Str} {l : Nat} (h : (!swB sc scope x (p.line == q.line)) = true) : swapsWith (.ListComp a gs scope q) (some (.Name x p)) l X.env = pure false := by
  rw [sw_any c]
  rw [Bool.not_eq_true'] at h
  rw [h]
theorem sw_eqT {G : Glb} {sc : Sc} {X : Cx} {fr : Fr} (c : Ctx G sc X fr) {a : Expr} {gs : List Comprehension} {scope : Scope} {q p : Pos} {x : Str} {l : Nat} (h : swB sc scope x (p.line == q.line) = true) : swapsWith (.ListComp a gs scope q) (some (.Name x p)) l X.env = pure true := by
  rw [sw_any c, h]
theorem noSl_eq {e : Expr} (h : pln e = true) : NoSl e := by cases e <;> first | rfl | (intro o i; rfl) | trivial | cases h
theorem e_lset {X : Cx} {fr : Fr} {a : Expr} {p p2 q pos : Pos} {fa : En → M D} (hK : X.K = fr.p.K) (hc : X.calm = true) (hg : Gl X "len") (hm : X.mg "len" = none) (hg2 : Gl X "set") (hm2 : X.mg "set" = none) (ha : PE X a (TV fr (vA fr.p.K) fa)) (na : starEach [a] X.env = (false, eval a X.env) :: starEach [] X.env) :
    PE X (.Call (.Name "len" p) [.Call (.Name "set" p2) [a] [] q] [] pos) (TV fr (vF fr.p.K) (ev1 lsetD fa)) := pe_weak (PF.pe_lenSet hg hm hg2 hm2 ha hc na) fun s H Q ⟨rho, g, m, rl, w⟩ => by
  refine ⟨rho, g, m, rl, wp_mono (wp_bnd.mp w) (fun dx m1 w1 v g1 H1 e1 o1 r1 => ?_) fun _ _ z => z⟩
  obtain ⟨d, hd, q⟩ := wp_lift.mp w1
  unfold lsetD at hd
  cases hn : lstInts dx with
  | none => rw [hn] at hd; cases hd
  | some ns =>
    rw [hn] at hd
    have hd : (if ns.length ≤ 4000 ∧ (distN ns).length ≤ 4000 then some (D.int ((distN ns).length : Nat)) else none) = some d := hd
    split at hd
    · rename_i hl
      cases hd
      obtain ⟨a, rfl, h⟩ := lstInts_rep r1 hn
      rw [hK]
      exact ⟨a, ns, rfl, h, hl.1, hl.2, q _ g1 H1 e1 o1 (show Rep _ _ _ _ from .int _)⟩
    · cases hd
theorem sound {G : Glb} {pg : Pg} (F : Facts G pg) : ∀ (i : I) (sc : Sc) (X : Cx) (fr : Fr) (y : Syn), sc.pg = pg → Ctx G sc X fr → m i sc y = true → Good G sc X fr i y := by
  intro i
  induction i with
  | var i =>
    intro sc X fr y hp c h
    simp only [m] at h
    split at h
    · obtain ⟨h1, h2, h3, h4⟩ := c.var h
      show PE _ _ (TV fr (vk fr.p.K (if sc.mdf i = .frz then 1 else 2)) (evVar i))
      split
      · exact e_varZ (by rw [c.md]; assumption) h1 h2 h3 h4
      · exact e_var h1 h2 h3 h4
    · cases h
  | int n =>
    intro sc X fr y hp c h
    simp only [m] at h
    split at h
    · rw [decide_eq_true_eq] at h
      subst h
      exact e_int
    · cases h
  | bl n =>
    intro sc X fr y hp c h
    simp only [m] at h
    split at h
    · rw [decide_eq_true_eq] at h
      subst h
      exact e_bl
    · cases h
  | str n =>
    intro sc X fr y hp c h
    simp only [m] at h
    split at h
    · rw [decide_eq_true_eq] at h
      subst h
      exact e_str
    · cases h
  | non =>
    intro sc X fr y hp c h
    simp only [m] at h
    split at h
    · exact e_non
    · cases h
  | gint z n =>
    intro sc X fr y hp c h
    simp only [m] at h
    split at h
    · simp only [Bool.and_eq_true, decide_eq_true_eq] at h
      obtain ⟨⟨⟨rfl, h2⟩, h3⟩, h4⟩ := h
      obtain ⟨t, ht⟩ := F.gi _ (by rw [← hp]; exact h4)
      exact e_gint (c.gl h2) (by rw [c.mg]; exact ht) (nmOk_iff h3).1
    · cases h
  | bin o a b iha ihb =>
    intro sc X fr y hp c h
    simp only [m] at h
    split at h
    · simp only [Bool.and_eq_true, decide_eq_true_eq] at h
      obtain ⟨⟨rfl, h2⟩, h3⟩ := h
      obtain ⟨r, r1, r2⟩ := Bop.ok (X := X) o
      exact e_bin c.hK' r1 r2 (upA (iha sc X fr _ hp c h2)) (upA (ihb sc X fr _ hp c h3))
    · cases h
  | neg a iha =>
    intro sc X fr y hp c h
    simp only [m] at h
    split at h
    · exact e_neg (upA (iha sc X fr _ hp c h))
    · cases h
  | not a iha =>
    intro sc X fr y hp c h
    simp only [m] at h
    split at h
    · exact e_not c.hK' (upA (iha sc X fr _ hp c h))
    · cases h
  | cmp o a b iha ihb =>
    intro sc X fr y hp c h
    simp only [m] at h
    split at h
    · simp only [Bool.and_eq_true, decide_eq_true_eq] at h
      obtain ⟨⟨⟨rfl, h1⟩, h2⟩, h3⟩ := h
      obtain ⟨r, r1, r2⟩ := Cop.ok (X := X) (by have := c.un; omega) o
      exact e_cmp c.hK' r1 r2 (upA (iha sc X fr _ hp c h2)) (upA (ihb sc X fr _ hp c h3)) (marks_eq h1)
    · cases h
  | chain o p a b d iha ihb ihd =>
    intro sc X fr y hp c h
    simp only [m] at h
    split at h
    · simp only [Bool.and_eq_true, decide_eq_true_eq] at h
      obtain ⟨⟨⟨⟨⟨⟨rfl, rfl⟩, h1⟩, h2⟩, h3⟩, h4⟩, h5⟩ := h
      obtain ⟨r, r1, r2⟩ := Cop.ok (X := X) (by have := c.un; omega) o
      obtain ⟨r', r1', r2'⟩ := Cop.ok (X := X) (by have := c.un; omega) p
      exact e_chain c.hK' r1 r1' r2 r2' (upA (iha sc X fr _ hp c h3)) (upA (ihb sc X fr _ hp c h4)) (upA (ihd sc X fr _ hp c h5)) (marks_eq h2)
    · cases h
  | and a b iha ihb =>
    intro sc X fr y hp c h
    simp only [m] at h
    split at h
    · simp only [Bool.and_eq_true] at h
      exact e_and (kK _ _) (upA (iha sc X fr _ hp c h.1)) (pe_one (ihb sc X fr _ hp c h.2))
    · simp only [Bool.and_eq_true] at h
      exact e_and (kK _ _) (upA (iha sc X fr _ hp c h.1)) (ihb sc X fr _ hp c h.2)
    · cases h
  | or a b iha ihb =>
    intro sc X fr y hp c h
    simp only [m] at h
    split at h
    · simp only [Bool.and_eq_true] at h
      exact e_or (kK _ _) (upA (iha sc X fr _ hp c h.1)) (pe_one (ihb sc X fr _ hp c h.2))
    · simp only [Bool.and_eq_true] at h
      exact e_or (kK _ _) (upA (iha sc X fr _ hp c h.1)) (ihb sc X fr _ hp c h.2)
    · cases h
  | ife t a b iht iha ihb =>
    intro sc X fr y hp c h
    simp only [m] at h
    split at h
    · simp only [Bool.and_eq_true] at h
      exact e_if (kK _ _) (iht sc X fr _ hp c h.1.1).1 (up (Nat.le_max_left _ _) (iha sc X fr _ hp c h.1.2)) (up (Nat.le_max_right _ _) (ihb sc X fr _ hp c h.2))
    · cases h
  | tup a iha =>
    intro sc X fr y hp c h
    simp only [m] at h
    split at h
    · exact e_tup (iha sc X fr _ hp c h)
    · cases h
  | lst a iha =>
    intro sc X fr y hp c h
    simp only [m] at h
    split at h
    · exact e_lst (iha sc X fr _ hp c h)
    · cases h
  | ix a b iha ihb =>
    intro sc X fr y hp c h
    simp only [m] at h
    split at h
    · simp only [Bool.and_eq_true] at h
      exact e_ix c.hK' (upA (iha sc X fr _ hp c h.1.2)) (upA (ihb sc X fr _ hp c h.2)) (plainIx_eq h.1.1)
    · cases h
  | sl a lo hi iha ihl ihh =>
    intro sc X fr y hp c h
    simp only [m] at h
    split at h
    · simp only [Bool.and_eq_true] at h
      exact e_sl c.hK' (upA (iha sc X fr _ hp c h.1.1)) (ihl sc X fr _ hp c h.1.2) (ihh sc X fr _ hp c h.2)
    · cases h
  | sl3 a lo hi st iha ihl ihh ihk =>
    intro sc X fr y hp c h
    simp only [m] at h
    split at h
    · simp only [Bool.and_eq_true] at h
      exact e_sl3 c.hK' (upA (iha sc X fr _ hp c h.1.1.1)) (ihl sc X fr _ hp c h.1.1.2) (ihh sc X fr _ hp c h.1.2) (ihk sc X fr _ hp c h.2)
    · cases h
  | hole =>
    intro sc X fr y hp c h
    simp only [m] at h
    split at h
    · exact p_none
    · exact rfl
    · cases h
  | prt a iha =>
    intro sc X fr y hp c h
    simp only [m] at h
    split at h
    · exact p_some (upA (iha sc X fr _ hp c h))
    · cases h
  | call j a iha =>
    intro sc X fr y hp c h
    simp only [m] at h
    split at h
    · simp only [Bool.and_eq_true, Bool.not_eq_true'] at h
      obtain ⟨⟨⟨⟨h0, h1⟩, h2⟩, h3⟩, h4⟩ := h
      split at h4
      · rename_i f hf
        simp only [Bool.and_eq_true, decide_eq_true_eq, Bool.not_eq_true'] at h4
        obtain ⟨⟨rfl, hme⟩, h5⟩ := h4
        obtain ⟨ad, fd, e1, e2, e3, e4⟩ := F.fn j f (by rw [← hp]; exact hf) hme
        have hk : kdOf sc (.call j a) = f.kd := by
          show ((sc.pg.fns[j]?).map (·.kd)).getD 2 = _
          rw [hf]
          rfl
        show PE _ _ (TV fr (vk fr.p.K (kdOf sc (.call j a))) _)
        rw [hk]
        have ca := List.all_cons ▸ h3
        rw [Bool.and_eq_true] at ca
        refine e_call (kK _ _) ?_ (c.room h0) (c.gl h1) (by rw [c.mg]; exact e1) (by rw [c.hK]; exact e2) (by rw [c.hK]; exact e3) c.tk (iha sc X fr _ hp c h5) (nmOk_iff h2).1 (star_eq ca.1) (back_any ca.2)
        rw [c.prog, c.w, c.hK, c.mg, c.base, c.p]
        exact e4
      · cases h4
    · cases h
  | call0 j =>
    intro sc X fr y hp c h
    simp only [m] at h
    split at h
    · simp only [Bool.and_eq_true, Bool.not_eq_true'] at h
      obtain ⟨⟨⟨h0, h1⟩, h2⟩, h4⟩ := h
      split at h4
      · rename_i f hf
        simp only [Bool.and_eq_true, decide_eq_true_eq, Bool.not_eq_true'] at h4
        obtain ⟨⟨rfl, hme⟩, h5⟩ := h4
        obtain ⟨ad, fd, e1, e2, e3, e4⟩ := F.fn j f (by rw [← hp]; exact hf) hme
        have hk : kdOf sc (.call0 j) = f.kd := by
          show ((sc.pg.fns[j]?).map (·.kd)).getD 2 = _
          rw [hf]
          rfl
        show PE _ _ (TV fr (vk fr.p.K (kdOf sc (.call0 j))) _)
        rw [hk]
        rw [h5] at e4
        refine e_call0 (kK _ _) ?_ (c.room h0) (c.gl h1) (by rw [c.mg]; exact e1) (by rw [c.hK]; exact e2) (by rw [c.hK]; exact e3) (nmOk_iff h2).1
        rw [c.prog, c.w, c.hK, c.mg, c.base, c.p]
        exact e4
      · cases h4
    · cases h
  | bi b a iha =>
    intro sc X fr y hp c h
    simp only [m] at h
    split at h
    · simp only [Bool.and_eq_true, Bool.not_eq_true'] at h
      obtain ⟨⟨⟨h0, h1⟩, h3⟩, h4⟩ := h
      obtain ⟨rfl, e2, e3, e4, e5⟩ := c.blt F (by cases b <;> decide) h1
      have ca := List.all_cons ▸ h3
      rw [Bool.and_eq_true] at ca
      exact Bi.bi_ok c h0 b rfl e2 e3 e4 e5 (iha sc X fr _ hp c h4) (star_eq ca.1) (back_any ca.2)
    · cases h
  | isi t a iha =>
    intro sc X fr y hp c h
    simp only [m] at h
    split at h
    · simp only [Bool.and_eq_true, decide_eq_true_eq] at h
      obtain ⟨⟨⟨⟨⟨⟨h0, h1⟩, h2⟩, h3⟩, rfl⟩, h5⟩, h6⟩ := h
      obtain ⟨rfl, e2, e3, e4, e5⟩ := c.blt F (by decide) h0
      have q := nmOk_iff h2
      refine e_isi c.hK' ?_ e2 e3 rfl e4 e5 (c.gl h1) ?_ ?_ q.2.2 q.1 (upA (iha sc X fr _ hp c h6)) (star_eq h3)
      · cases t <;> first | exact absurd rfl h5 | decide
      · rw [c.mg]
        exact F.blt _ (by cases t <;> first | exact absurd rfl h5 | decide)
      · cases t <;> first | exact absurd rfl h5 | rfl
    · cases h
  | lrng a iha =>
    intro sc X fr y hp c h
    simp only [m] at h
    split at h
    · simp only [Bool.and_eq_true, Bool.not_eq_true'] at h
      obtain ⟨⟨⟨⟨h0, h1⟩, h2⟩, h3⟩, h4⟩ := h
      obtain ⟨rfl, e2, e3, e4, e5⟩ := c.blt F (by decide) h1
      obtain ⟨rfl, e2', e3', e4', e5'⟩ := c.blt F (by decide) h2
      exact e_lrng (c.calm h0) e2 e3 e2' e3' (upA (iha sc X fr _ hp c h4)) (star_eq h3)
    · cases h
  | idx a b iha ihb =>
    intro sc X fr y hp c h
    simp only [m] at h
    split at h
    · simp only [Bool.and_eq_true, decide_eq_true_eq] at h
      obtain ⟨⟨⟨⟨⟨rfl, h1⟩, h2⟩, h3⟩, h4⟩, h5⟩ := h
      refine e_index c.hK' (upA (iha sc X fr _ hp c h4)) (upA (ihb sc X fr _ hp c h5)) (star_eq h2) (base_eq h1) ?_ h3 rfl
      rw [star_eq h2]
      rfl
    · cases h
  | cntB a b iha ihb =>
    intro sc X fr y hp c h
    simp only [m] at h
    split at h
    · simp only [Bool.and_eq_true, decide_eq_true_eq] at h
      obtain ⟨⟨⟨⟨⟨rfl, h1⟩, h2⟩, h3⟩, h4⟩, h5⟩ := h
      refine e_count c.hK' (upA (iha sc X fr _ hp c h4)) (upA (ihb sc X fr _ hp c h5)) (star_eq h2) (base_eq h1) ?_ h3 rfl
      rw [star_eq h2]
      rfl
    · cases h
  | join a b iha ihb =>
    intro sc X fr y hp c h
    simp only [m] at h
    split at h
    · simp only [Bool.and_eq_true, decide_eq_true_eq] at h
      obtain ⟨⟨⟨⟨⟨rfl, h1⟩, h2⟩, h3⟩, h4⟩, h5⟩ := h
      refine e_join c.hK' (upA (iha sc X fr _ hp c h4)) (upA (ihb sc X fr _ hp c h5)) (star_eq h2) (base_eq h1) ?_ h3 rfl
      rw [star_eq h2]
      rfl
    · cases h
  | comp it t b f vs iht ihb ihf =>
    intro sc X fr y hp c h
    simp only [m] at h
    split at h
    · rename_i elt tg iter ifs scope pos
      simp only [Bool.and_eq_true, Bool.not_eq_true', decide_eq_true_eq] at h
      obtain ⟨⟨⟨⟨⟨⟨⟨⟨h0, h1⟩, h2⟩, h3⟩, h4⟩, h5⟩, h6⟩, h7⟩, h8⟩ := h
      obtain ⟨q1, q2, q3, g, q4, q5⟩ := comp_static c h0 h3 h4
      have ht : ∀ (s : Shared) (H : Hp) (C : Addr) (cl : List (Str × Addr)) (fp : List Addr), PTs (X.blk s H scope (compEnvC scope cl C X.env) fp) ifs (TB fr.still (den G.exm G.cl b).b) := fun s H C cl fp => by
        split at h6
        · have e : (den G.exm G.cl b).b = yesB := ihb (sc.blk _) _ _ _ hp (c.blk h0 q3 s H C cl fp) h6
          rw [e]
          exact ts_nil
        · exact pts_one (ihb (sc.blk _) _ _ _ hp (c.blk h0 q3 s H C cl fp) h6).1
        · cases h6
      have z := e_comp (pos := pos) (c.calm h0) (by rw [c.hN]; exact c.nd) (iht sc X fr _ hp c h2) q1 q4 (by rw [q2]; exact h5) q5 ht (fun s H C cl fp => upZ h8 (ihf (sc.blk _) _ _ _ hp (c.blk h0 q3 s H C cl fp) h7)) (folded_eq h1)
      rw [q2] at z
      exact z
    · cases h
  | srt a b d e =>
    intro sc X fr y hp c h
    simp only [m] at h
    split at h
    · rename_i x
      unfold lamB at h
      split at h
      · simp only [Bool.and_eq_true, Bool.not_eq_true', decide_eq_true_eq] at h
        obtain ⟨⟨⟨⟨⟨⟨⟨⟨⟨⟨⟨⟨⟨h0, h1⟩, h2⟩, h3⟩, rfl⟩, h5⟩, h6⟩, h7⟩, h8⟩, h9⟩, h10⟩, h11⟩, h12⟩, h13⟩ := h
        obtain ⟨rfl, e2, e3, e4, e5⟩ := c.blt F (by decide) h2
        obtain ⟨v1, v2, v3, v4⟩ := c.var h3
        obtain ⟨cc, PP, t1, t2, t3, t4⟩ := c.srt h0
        split at h11
        · rw [decide_eq_true_eq] at h11
          subst h11
          split at h12
          · simp only [Bool.and_eq_true, decide_eq_true_eq] at h12
            obtain ⟨⟨⟨rfl, rfl⟩, rfl⟩, rfl⟩ := h12
            split at h13
            · simp only [Bool.and_eq_true, decide_eq_true_eq] at h13
              obtain ⟨⟨⟨⟨rfl, rfl⟩, rfl⟩, rfl⟩, rfl⟩ := h13
              exact e_sort (p := ⟨_, _, _, _, _, _, _, _, _, _⟩) c.hK' e2 e3 t1 t2 t3 t4 (c.room h1) v1 v2 v3 v4 (by rw [c.hN]; exact h5) (by rw [c.hN]; exact h6) (by rw [c.hN]; exact h7) (by rw [c.hs]; exact h8) (by rw [c.hs]; exact h9) (by rw [c.hs]; exact h10) rfl rfl
            · cases h13
          · cases h12
        · cases h11
      · cases h
    · cases h
  | nil =>
    intro sc X fr y hp c h
    simp only [m] at h
    split at h
    · exact a_nil (P := lA fr.p.K) fun _ _ => Paired.nil
    · exact a_nil (P := lZ fr.p.K) fun _ _ => RepL.nil
    · exact a_nilM
    · exact b_nil
    · exact HdsOk.nil
    · exact ⟨_, .nil⟩
    · cases h
  | cons a as iha ihs =>
    intro sc X fr y hp c h
    simp only [m] at h
    split at h
    · simp only [Bool.and_eq_true] at h
      exact a_consA (upA (iha sc X fr _ hp c h.1.2)) (ihs sc X fr _ hp c h.2) (star_eq h.1.1)
    · simp only [Bool.and_eq_true, decide_eq_true_eq] at h
      exact a_consZ (upZ h.1.2 (iha sc X fr _ hp c h.1.1.2)) (ihs sc X fr _ hp c h.2) (star_eq h.1.1.1)
    · simp only [Bool.and_eq_true] at h
      obtain ⟨⟨⟨h1, h2⟩, h3⟩, h4⟩ := h
      split at h3
      · rw [decide_eq_true_eq] at h3
        exact a_consMZ (upZ h3 (iha sc X fr _ hp c h2)) (ihs sc X fr _ hp c h4) (star_eq h1)
      · exact a_consMA (upA (iha sc X fr _ hp c h2)) (ihs sc X fr _ hp c h4) (star_eq h1)
      · cases h3
    · simp only [Bool.and_eq_true] at h
      exact b_cons (iha sc X fr _ hp c h.1) (ihs sc X fr _ hp c h.2)
    · cases h
  | tst a iha =>
    intro sc X fr y hp c h
    simp only [m] at h
    split at h
    · simp only [Bool.and_eq_true] at h
      refine ⟨t_truth c.hK' (upA (iha sc X fr _ hp c h.2)) (tru_eq h.1), fun op vs p e => ?_⟩
      rw [e] at h
      exact Bool.noConfusion (show false = true from h.1)
    · cases h
  | tcmp o a b iha ihb =>
    intro sc X fr y hp c h
    simp only [m] at h
    split at h
    · simp only [Bool.and_eq_true, decide_eq_true_eq] at h
      obtain ⟨⟨⟨rfl, h1⟩, h2⟩, h3⟩ := h
      obtain ⟨r, r1, r2⟩ := Cop.ok (X := X) (by have := c.un; omega) o
      exact ⟨t_cmp c.hK' r1 r2 (upA (iha sc X fr _ hp c h2)) (upA (ihb sc X fr _ hp c h3)) (marks_eq h1), fun op vs p e => by cases e⟩
    · cases h
  | tchn o p a b d iha ihb ihd =>
    intro sc X fr y hp c h
    simp only [m] at h
    split at h
    · simp only [Bool.and_eq_true, decide_eq_true_eq] at h
      obtain ⟨⟨⟨⟨⟨⟨rfl, rfl⟩, h1⟩, h2⟩, h3⟩, h4⟩, h5⟩ := h
      obtain ⟨r, r1, r2⟩ := Cop.ok (X := X) (by have := c.un; omega) o
      obtain ⟨r', r1', r2'⟩ := Cop.ok (X := X) (by have := c.un; omega) p
      exact ⟨t_chain c.hK' r1 r1' r2 r2' (upA (iha sc X fr _ hp c h3)) (upA (ihb sc X fr _ hp c h4)) (upA (ihd sc X fr _ hp c h5)) (marks_eq h2), fun op vs p e => by cases e⟩
    · cases h
  | tnot a iha =>
    intro sc X fr y hp c h
    simp only [m] at h
    split at h
    · exact ⟨t_not (iha sc X fr _ hp c h).1, fun op vs p e => by cases e⟩
    · cases h
  | tand a b iha ihb =>
    intro sc X fr y hp c h
    simp only [m] at h
    split at h
    · simp only [Bool.and_eq_true] at h
      have z := t_and (iha sc X fr _ hp c h.1).1 (pw_and1 (pos := by assumption) (ihb sc X fr _ hp c h.2).1)
      exact ⟨z.pt, fun _ _ _ _ => z⟩
    · simp only [Bool.and_eq_true] at h
      have z := t_and (iha sc X fr _ hp c h.1).1 ((ihb sc X fr _ hp c h.2).2 _ _ _ rfl)
      exact ⟨z.pt, fun _ _ _ _ => z⟩
    · cases h
  | tor a b iha ihb =>
    intro sc X fr y hp c h
    simp only [m] at h
    split at h
    · simp only [Bool.and_eq_true] at h
      have z := t_or (iha sc X fr _ hp c h.1).1 (pw_or1 (pos := by assumption) (ihb sc X fr _ hp c h.2).1)
      exact ⟨z.pt, fun _ _ _ _ => z⟩
    · simp only [Bool.and_eq_true] at h
      have z := t_or (iha sc X fr _ hp c h.1).1 ((ihb sc X fr _ hp c h.2).2 _ _ _ rfl)
      exact ⟨z.pt, fun _ _ _ _ => z⟩
    · cases h
  | iseq a iha =>
    intro sc X fr y hp c h
    simp only [m] at h
    split at h
    · simp only [Bool.and_eq_true, Bool.or_eq_true, decide_eq_true_eq] at h
      rcases h.2 with (z | z) | z
      · subst z
        exact i_seqA c.hK' (upA (iha sc X fr _ hp c h.1))
      · exact i_seqZ c.hK' (upZ z (iha sc X fr _ hp c h.1))
      · have h1 := h.1
        unfold borV at z
        split at z
        · rw [decide_eq_true_eq] at z
          simp only [m] at h1
          split at h1
          · rename_i e0
            obtain ⟨v1, v2, v3, v4⟩ := c.var h1
            cases e0
            exact i_seqB c.hK' (by rw [c.md]; exact z) v1 v2 v3 v4
          · cases h1
        · cases z
    · cases h
  | irng1 a iha =>
    intro sc X fr y hp c h
    simp only [m] at h
    split at h
    · simp only [Bool.and_eq_true] at h
      obtain ⟨⟨h1, h2⟩, h3⟩ := h
      obtain ⟨rfl, e2, e3, e4, e5⟩ := c.blt F (by decide) h1
      exact i_rng1 e2 e3 (iha sc X fr _ hp c h3) (star_eq h2)
    · cases h
  | irng2 a iha =>
    intro sc X fr y hp c h
    simp only [m] at h
    split at h
    · simp only [Bool.and_eq_true] at h
      obtain ⟨⟨⟨h1, h2⟩, h2'⟩, h3⟩ := h
      obtain ⟨rfl, e2, e3, e4, e5⟩ := c.blt F (by decide) h1
      exact i_rng2 e2 e3 (iha sc X fr _ hp c h3) (by rw [star_eq h2, star_eq h2']; rfl) (star_eq h2')
    · cases h
  | ienm a iha =>
    intro sc X fr y hp c h
    simp only [m] at h
    split at h
    · simp only [Bool.and_eq_true] at h
      obtain ⟨⟨h1, h2⟩, h3⟩ := h
      obtain ⟨rfl, e2, e3, e4, e5⟩ := c.blt F (by decide) h1
      split at h3
      · rename_i hany
        rw [hany]
        exact i_enumA c.hK' e2 e3 (iha sc X fr _ hp c h3) (star_eq h2)
      · exact i_enumZ c.hK' e2 e3 (iha sc X fr _ hp c h3) (star_eq h2)
    · cases h
  | izip a iha =>
    intro sc X fr y hp c h
    simp only [m] at h
    split at h
    · simp only [Bool.and_eq_true] at h
      obtain ⟨⟨⟨h1, h2⟩, h2'⟩, h3⟩ := h
      obtain ⟨rfl, e2, e3, e4, e5⟩ := c.blt F (by decide) h1
      split at h3
      · rename_i hany
        rw [hany]
        exact i_zipA c.hK' e2 e3 (iha sc X fr _ hp c h3) (star_eq h2) (back_any (by simp [h2']))
      · exact i_zipZ c.hK' e2 e3 (iha sc X fr _ hp c h3) (star_eq h2) (back_any (by simp [h2']))
    · cases h
  | pass =>
    intro sc X fr y hp c h
    simp only [m] at h
    split at h
    · exact s_pass
    · cases h
  | brk =>
    intro sc X fr y hp c h
    simp only [m] at h
    split at h
    · exact s_break
    · cases h
  | cnt =>
    intro sc X fr y hp c h
    simp only [m] at h
    split at h
    · exact s_continue
    · cases h
  | expr a iha =>
    intro sc X fr y hp c h
    simp only [m] at h
    split at h
    · simp only [Bool.and_eq_true] at h
      exact s_expr (upA (iha sc X fr _ hp c h.2)) (swaps_eq h.1)
    · cases h
  | set i a iha =>
    intro sc X fr y hp c h
    simp only [m] at h
    split at h
    · rename_i x p e pos
      simp only [Bool.and_eq_true, Bool.or_eq_true, decide_eq_true_eq] at h
      obtain ⟨⟨⟨⟨⟨h0, h1⟩, h2⟩, h3⟩, h4⟩, h5⟩ := h
      have hN : X.N.Nodup := by rw [c.hN]; exact c.nd
      have hi : X.N[i]? = some x := by rw [c.hN]; exact h1
      have hf : X.fn x = true := by rw [c.fn h0]
      have hw : swapsWith e (some (.Name x p)) pos.line X.env = pure false := by
        split at h3
        · exact sw_eq c h3
        · exact swaps_eq h3
      split at h5
      · rw [decide_eq_true_eq] at h5
        exact s_setZ (by rw [c.md]; assumption) hN hi (c.loc h2) (upZ h5 (iha sc X fr _ hp c h4)) hw (.inl hf)
      · rw [decide_eq_true_eq] at h5
        have z := iha sc X fr _ hp c h4
        have z : PE X e (TV fr (vk fr.p.K (kdOf sc a)) (den G.exm G.cl a).v) := z
        rw [h5] at z
        exact s_setF (by rw [c.md]; assumption) hN hi (c.loc h2) z hw (.inl hf)
      · cases h5
    · cases h
  | aug sub i a iha =>
    intro sc X fr y hp c h
    simp only [m] at h
    split at h
    · simp only [Bool.and_eq_true, Bool.or_eq_true, decide_eq_true_eq] at h
      obtain ⟨⟨⟨⟨⟨h0, h1⟩, h2⟩, h3⟩, h4⟩, h5⟩ := h
      have hf : X.fn = fun _ => true := c.fn h0
      have ha := upA (iha sc X fr _ hp c h5)
      cases sub with
      | true =>
        rw [if_pos rfl] at h3
        subst h3
        exact s_augM (by rw [c.md]; exact h4) (by rw [c.hN]; exact c.nd) (by rw [c.hN]; exact h1) (c.loc h2) ha (.inl (by rw [hf]))
      | false =>
        rw [if_neg (by decide)] at h3
        subst h3
        exact s_augA (by rw [c.md]; exact h4) (by rw [c.hN]; exact c.nd) (by rw [c.hN]; exact h1) (c.loc h2) ha (.inl (by rw [hf]))
    · cases h
  | ret a iha =>
    intro sc X fr y hp c h
    simp only [m] at h
    split at h
    · simp only [Bool.and_eq_true, decide_eq_true_eq] at h
      exact s_ret (kK _ _) (up h.2 (iha sc X fr _ hp c h.1))
    · cases h
  | retv i =>
    intro sc X fr y hp c h
    simp only [m] at h
    split at h
    · simp only [Bool.and_eq_true, decide_eq_true_eq] at h
      obtain ⟨v1, v2, v3, v4⟩ := c.var h.1
      exact ret_own _ (s_retOwn (by rw [c.md]; exact h.2) v1 v2 v3 v4)
    · cases h
  | iff t p q iht ihp ihq =>
    intro sc X fr y hp c h
    simp only [m] at h
    split at h
    · simp only [Bool.and_eq_true] at h
      exact s_if (iht sc X fr _ hp c h.1.1).1 (ihp sc X fr _ hp c h.1.2) (ihq sc X fr _ hp c h.2)
    · cases h
  | whl n t p iht ihp =>
    intro sc X fr y hp c h
    simp only [m] at h
    split at h
    · simp only [Bool.and_eq_true] at h
      exact s_while (c.top h.1.1).2.1 (iht sc X fr _ hp c h.1.2).1 (ihp sc X fr _ hp c h.2)
    · cases h
  | «for» it t p iht ihp =>
    intro sc X fr y hp c h
    simp only [m] at h
    split at h
    · simp only [Bool.and_eq_true] at h
      obtain ⟨⟨⟨⟨h0, h1⟩, h2⟩, h3⟩, h4⟩ := h
      have hc := c.calm (c.top h0).1
      obtain ⟨g, g1, g2⟩ := tg_ok c hc (fun x _ => by rw [c.fn (.inl h0)]) h3
      exact s_for (c.top h0).2.1 hc (iht sc X fr _ hp c h2) g1 g2 (ihp sc X fr _ hp c h4) (folded_eq h1)
    · cases h
  | app i a iha =>
    intro sc X fr y hp c h
    simp only [m] at h
    split at h
    · simp only [Bool.and_eq_true, decide_eq_true_eq] at h
      obtain ⟨⟨⟨⟨⟨⟨h0, h1⟩, rfl⟩, h3⟩, h4⟩, h5⟩, h6⟩ := h
      obtain ⟨v1, v2, v3, v4⟩ := c.var h0
      refine s_append (by rw [c.md]; exact h1) v1 v2 v3 v4 (upZ h6 (iha sc X fr _ hp c h5)) (star_eq h4) rfl ?_ h3 rfl (swaps_eq rfl)
      rw [star_eq h4]
      rfl
    · cases h
  | ext i a iha =>
    intro sc X fr y hp c h
    simp only [m] at h
    split at h
    · simp only [Bool.and_eq_true, decide_eq_true_eq] at h
      obtain ⟨⟨⟨⟨⟨h0, h1⟩, rfl⟩, h3⟩, h4⟩, h5⟩ := h
      obtain ⟨v1, v2, v3, v4⟩ := c.var h0
      refine s_extend (by rw [c.md]; exact h1) v1 v2 v3 v4 (upA (iha sc X fr _ hp c h5)) (star_eq h4) rfl ?_ h3 rfl (swaps_eq rfl)
      rw [star_eq h4]
      rfl
    · cases h
  | put i k a ihk iha =>
    intro sc X fr y hp c h
    simp only [m] at h
    split at h
    · simp only [Bool.and_eq_true, decide_eq_true_eq] at h
      obtain ⟨⟨⟨⟨⟨⟨h0, h1⟩, h2⟩, h3⟩, h4⟩, h5⟩, h6⟩ := h
      obtain ⟨v1, v2, v3, v4⟩ := c.var h0
      exact s_put (by rw [c.md]; exact h1) v1 v2 v3 v4 (upZ h6 (iha sc X fr _ hp c h5)) (upA (ihk sc X fr _ hp c h4)) (set_eq h2) (by unfold swapsWithSole; exact swaps_eq h3) rfl rfl
    · cases h
  | augput sub i k a ihk iha =>
    intro sc X fr y hp c h
    simp only [m] at h
    split at h
    · simp only [Bool.and_eq_true, decide_eq_true_eq] at h
      obtain ⟨⟨⟨⟨⟨h0, h1⟩, h2⟩, h3⟩, h4⟩, h5⟩ := h
      obtain ⟨v1, v2, v3, v4⟩ := c.var h0
      cases sub with
      | true =>
        rw [if_pos rfl] at h3
        subst h3
        exact s_augPutM c.hK' (by rw [c.md]; exact h1) v1 v2 v3 v4 (upA (iha sc X fr _ hp c h5)) (upA (ihk sc X fr _ hp c h4)) (aug_eq h2)
      | false =>
        rw [if_neg (by decide)] at h3
        subst h3
        exact s_augPutA c.hK' (by rw [c.md]; exact h1) v1 v2 v3 v4 (upA (iha sc X fr _ hp c h5)) (upA (ihk sc X fr _ hp c h4)) (aug_eq h2)
    · cases h
  | unp t a iha =>
    intro sc X fr y hp c h
    simp only [m] at h
    split at h
    · simp only [Bool.and_eq_true, decide_eq_true_eq] at h
      obtain ⟨⟨⟨⟨⟨h0, h1⟩, h2⟩, h3⟩, h4⟩, h5⟩ := h
      obtain ⟨g, g1, g2⟩ := tg_ok c (c.calm (c.top h0).1) (fun x _ => by rw [c.fn (.inl h0)]) h1
      refine s_unpack g2 g1 (upZ h5 (iha sc X fr _ hp c h4)) (by unfold swapsWithSole; exact swaps_eq h2) ?_ rfl
      rename_i y _
      rw [Bool.or_eq_true] at h3
      rcases h3 with h3 | h3
      · cases y <;> first | rfl | cases h3
      · exact cell_none c h3
    · cases h
  | par i j a b iha ihb =>
    intro sc X fr y hp c h
    simp only [m] at h
    split at h
    · rename_i x px z py kt pt u w k2 pt2 pos
      simp only [Bool.and_eq_true, decide_eq_true_eq] at h
      obtain ⟨⟨⟨⟨⟨⟨⟨⟨⟨⟨h0, h1⟩, h2⟩, h3⟩, h4⟩, h5⟩, h6⟩, h7⟩, h8⟩, h9⟩, h10⟩ := h
      have q := h6
      unfold parB at q
      simp only [Bool.and_eq_true, decide_eq_true_eq, Bool.not_eq_true'] at q
      obtain ⟨⟨⟨⟨⟨⟨⟨q1, q2⟩, _⟩, _⟩, q5⟩, q6⟩, _⟩, _⟩ := q
      exact s_par (c.calm (c.top h0).1) (by rw [c.md]; exact h4) (by rw [c.md]; exact h5) (by rw [c.hN]; exact c.nd) (by rw [c.hN]; exact h1) (by rw [c.hN]; exact h2) h3 (by rw [c.hs]; exact q1) (by rw [c.hs]; exact q2) (upZ h8 (iha sc X fr _ hp c h7)) (upZ h10 (ihb sc X fr _ hp c h9)) (star_eq q5) (star_eq q6) (par_eq c h6) (by unfold swapsWithSole; exact swaps_eq rfl)
    · cases h
  | raise n =>
    intro sc X fr y hp c h
    simp only [m] at h
    split at h
    · simp only [Bool.and_eq_true, decide_eq_true_eq] at h
      obtain ⟨⟨⟨h0, h1⟩, h2⟩, h3⟩ := h
      obtain ⟨C, bmB, B, nI, iI, f1, f2, f3, f4, f5, f6⟩ := F.exc n _ (by rw [← hp]; exact h3)
      exact s_raise (c.calm (c.top h0).1) c.tk f1 (by rw [c.hK]; exact f2) (by rw [c.mg]; exact f3) (by rw [c.hK]; exact f4) (f5 X c.hK) (c.gl h1) (nmOk_iff h2).1 (by rw [c.p]; exact f6)
    · cases h
  | «try» b g ihb ihg =>
    intro sc X fr y hp c h
    simp only [m] at h
    split at h
    · simp only [Bool.and_eq_true] at h
      obtain ⟨⟨h0, h1⟩, h2⟩ := h
      refine s_try c.hK' (c.top h0).2.2.1 (c.top h0).2.2.2 c.tk (fun a b _ => by rw [c.p]; exact F.exm a b) (fun a q _ => ⟨_, by rw [c.p]; exact F.exm a q.1⟩) (fun W pn xe tk po => ihb sc _ _ _ hp (c.tr h0 W pn xe tk po) h1) (ihg sc X fr _ hp c h2)
    · cases h
  | hnd n b r ihb ihr =>
    intro sc X fr y hp c h
    simp only [m] at h
    split at h
    · simp only [Bool.and_eq_true, decide_eq_true_eq] at h
      obtain ⟨⟨⟨⟨⟨h0', h0⟩, h1⟩, h2⟩, h3⟩, h4⟩ := h
      obtain ⟨C, bmB, B, nI, iI, f1, f2, f3, f4, f5, f6⟩ := F.exc n _ (by rw [← hp]; exact h2)
      refine HdsOk.cons ⟨c.gl h0, (nmOk_iff h1).1, .inl ?_⟩ (fun a oe cls d pn _ _ => ihb sc.suite _ _ _ hp (c.suite h0' a _) h3) (ihr sc X fr _ hp c h4)
      rw [c.mg, c.p, f6]
      exact f3
    · cases h
  | setc i it t b f vs iht ihb ihf =>
    intro sc X fr y hp c h
    simp only [m] at h
    split at h
    · rename_i x p elt tg iter ifs scope q pos
      simp only [Bool.and_eq_true, Bool.not_eq_true', decide_eq_true_eq] at h
      obtain ⟨⟨⟨⟨⟨j0, j1⟩, j2⟩, j3⟩, j4⟩, ⟨⟨⟨⟨⟨⟨⟨h1, h2⟩, h3⟩, h4⟩, h5⟩, h6⟩, h7⟩, h8⟩⟩ := h
      have h0 := (c.top j0).1
      obtain ⟨q1, q2, q3, g, q4, q5⟩ := comp_static c h0 h3 h4
      have ht : ∀ (s : Shared) (H : Hp) (C : Addr) (cl : List (Str × Addr)) (fp : List Addr), PTs (X.blk s H scope (compEnvC scope cl C X.env) fp) ifs (TB fr.still (den G.exm G.cl b).b) := fun s H C cl fp => by
        split at h6
        · have e : (den G.exm G.cl b).b = yesB := ihb (sc.blk _) _ _ _ hp (c.blk h0 q3 s H C cl fp) h6
          rw [e]
          exact ts_nil
        · exact pts_one (ihb (sc.blk _) _ _ _ hp (c.blk h0 q3 s H C cl fp) h6).1
        · cases h6
      have hN : X.N.Nodup := by rw [c.hN]; exact c.nd
      have hi : X.N[i]? = some x := by rw [c.hN]; exact j1
      have hl : X.env.scope.names.lookup x = some .local := by rw [c.hs]; exact j2
      have he : ∀ (s : Shared) (H : Hp) (C : Addr) (cl : List (Str × Addr)) (fp : List Addr), PE (X.blk s H scope (compEnvC scope cl C X.env) fp) elt (TV fr.still (vZ fr.p.K) (den G.exm G.cl f).v) := fun s H C cl fp => upZ h8 (ihf (sc.blk _) _ _ _ hp (c.blk h0 q3 s H C cl fp) h7)
      split at j4
      · have z := s_setLcZ (rk := vk fr.p.K sc.rk) (py := p) (pos := q) (spos := pos) (by rw [c.md]; assumption) (c.calm h0) hN hi hl (sw_eqT c j3) (iht sc X fr _ hp c h2) q1 q4 (by rw [q2]; exact h5) q5 ht he (folded_eq h1)
        rw [q2] at z
        exact z
      · have z := s_setLcF (rk := vk fr.p.K sc.rk) (py := p) (pos := q) (spos := pos) (by rw [c.md]; assumption) (c.calm h0) hN hi hl (sw_eqT c j3) (iht sc X fr _ hp c h2) q1 q4 (by rw [q2]; exact h5) q5 ht he (folded_eq h1)
        rw [q2] at z
        exact z
      · cases j4
    · cases h
  | gstr z w =>
    intro sc X fr y hp c h
    simp only [m] at h
    split at h
    · simp only [Bool.and_eq_true, decide_eq_true_eq] at h
      obtain ⟨⟨⟨rfl, h2⟩, h3⟩, h4⟩ := h
      obtain ⟨t, ht⟩ := F.gs _ (by rw [← hp]; exact h4)
      exact e_gstr (c.gl h2) (by rw [c.mg]; exact ht) (nmOk_iff h3).1
    · cases h
  | gin neg z t a iha =>
    intro sc X fr y hp c h
    simp only [m] at h
    split at h
    · simp only [Bool.and_eq_true, decide_eq_true_eq] at h
      obtain ⟨⟨⟨⟨⟨h1, rfl⟩, h2⟩, h3⟩, h4⟩, h5⟩ := h
      obtain ⟨d, hd, T⟩ := F.gd _ (by rw [← hp]; exact h4)
      exact e_gin h1 (by rw [c.hK, c.w]; exact T) (upA (iha sc X fr _ hp c h5)) (c.gl h2) (by rw [c.mg]; exact hd) (nmOk_iff h3).1
    · cases h
  | tgin neg z t a iha =>
    intro sc X fr y hp c h
    simp only [m] at h
    split at h
    · simp only [Bool.and_eq_true, decide_eq_true_eq] at h
      obtain ⟨⟨⟨⟨⟨h1, rfl⟩, h2⟩, h3⟩, h4⟩, h5⟩ := h
      obtain ⟨d, hd, T⟩ := F.gd _ (by rw [← hp]; exact h4)
      exact ⟨t_gin h1 (by rw [c.hK, c.w]; exact T) (upA (iha sc X fr _ hp c h5)) (c.gl h2) (by rw [c.mg]; exact hd) (nmOk_iff h3).1, fun op vs p e => by cases e⟩
    · cases h
  | gix z t a iha =>
    intro sc X fr y hp c h
    simp only [m] at h
    split at h
    · simp only [Bool.and_eq_true, decide_eq_true_eq] at h
      obtain ⟨⟨⟨⟨⟨h1, rfl⟩, h2⟩, h3⟩, h4⟩, h5⟩ := h
      obtain ⟨d, hd, T⟩ := F.gd _ (by rw [← hp]; exact h4)
      exact e_gix (by rw [c.hK, c.w]; exact T) (upA (iha sc X fr _ hp c h5)) (c.gl h2) (by rw [c.mg]; exact hd) (nmOk_iff h3).1 (plainIx_eq h1)
    · cases h
  | gget z t a b iha ihb =>
    intro sc X fr y hp c h
    simp only [m] at h
    split at h
    · simp only [Bool.and_eq_true, decide_eq_true_eq] at h
      obtain ⟨⟨⟨⟨⟨⟨⟨⟨⟨⟨rfl, rfl⟩, h2⟩, h3⟩, h4⟩, h5⟩, h6⟩, h7⟩, h8⟩, h9⟩, h10⟩ := h
      obtain ⟨d, hd, T⟩ := F.gd _ (by rw [← hp]; exact h4)
      refine e_gget (by have := c.un; omega) (by rw [c.hK, c.w]; exact T) (c.gl h2) (by rw [c.mg]; exact hd) (nmOk_iff h3).1 (upA (iha sc X fr _ hp c h8)) (upZ h10 (ihb sc X fr _ hp c h9)) ⟨rfl, ?_, h7, ?_⟩
      · rw [star_eq h5, star_eq h6]; rfl
      · rw [star_eq h5, star_eq h6]; rfl
    · cases h
  | lset a iha =>
    intro sc X fr y hp c h
    simp only [m] at h
    split at h
    · simp only [Bool.and_eq_true, Bool.not_eq_true'] at h
      obtain ⟨⟨⟨⟨h0, h1⟩, h2⟩, h3⟩, h4⟩ := h
      obtain ⟨rfl, e2, e3, e4, e5⟩ := c.blt F (by decide) h1
      obtain ⟨rfl, e2', e3', e4', e5'⟩ := c.blt F (by decide) h2
      exact e_lset c.hK' (c.calm h0) e2 e3 e2' e3' (upA (iha sc X fr _ hp c h4)) (star_eq h3)
    · cases h
  | ddis a iha =>
    intro sc X fr y hp c h
    simp only [m] at h
    split at h
    · simp only [Bool.and_eq_true, decide_eq_true_eq] at h
      obtain ⟨trs, h2⟩ := iha sc X fr _ hp c h.2
      exact e_disp h2 (by simp) h.1
    · cases h
  | pcons k v r ihk ihv ihr =>
    intro sc X fr y hp c h
    simp only [m] at h
    split at h
    · simp only [Bool.and_eq_true, decide_eq_true_eq] at h
      obtain ⟨⟨⟨h1, h2⟩, h3⟩, h4⟩ := h
      obtain ⟨trs, h5⟩ := ihr sc X fr _ hp c h4
      exact ⟨_, .cons (upA (ihk sc X fr _ hp c h1)) (upZ h3 (ihv sc X fr _ hp c h2)) h5⟩
    · cases h
  | dix a b iha ihb =>
    intro sc X fr y hp c h
    simp only [m] at h
    split at h
    · simp only [Bool.and_eq_true] at h
      obtain ⟨⟨h1, h2⟩, h3⟩ := h
      exact e_dix (by have := c.un; omega) (upA (iha sc X fr _ hp c h2)) (upA (ihb sc X fr _ hp c h3)) (noSl_eq h1)
    · cases h
  | dget a b d iha ihb ihd =>
    intro sc X fr y hp c h
    simp only [m] at h
    split at h
    · simp only [Bool.and_eq_true, decide_eq_true_eq] at h
      obtain ⟨⟨⟨⟨⟨⟨⟨⟨rfl, h1⟩, h2⟩, h3⟩, h4⟩, h5⟩, h6⟩, h7⟩, h8⟩ := h
      refine e_dget (by have := c.un; omega) (upA (iha sc X fr _ hp c h5)) (upA (ihb sc X fr _ hp c h6)) (upZ h8 (ihd sc X fr _ hp c h7)) ⟨base_eq h1, ?_, h4, ?_⟩
      · rw [star_eq h2, star_eq h3]; rfl
      · rw [star_eq h2, star_eq h3]; rfl
    · cases h
  | dprs a iha =>
    intro sc X fr y hp c h
    simp only [m] at h
    split at h
    · simp only [Bool.and_eq_true, Bool.not_eq_true'] at h
      obtain ⟨⟨⟨h0, h1⟩, h2⟩, h3⟩ := h
      obtain ⟨rfl, e2, e3, e4, e5⟩ := c.blt F (by decide) h1
      exact e_callTy c.hK' (call_dictP (c.calm h0)) im_dprs e2 e3 rfl (iha sc X fr _ hp c h3) e4 e5 (star_eq h2) rfl
    · cases h
  | dlen a iha =>
    intro sc X fr y hp c h
    simp only [m] at h
    split at h
    · simp only [Bool.and_eq_true, Bool.not_eq_true'] at h
      obtain ⟨⟨⟨h0, h1⟩, h2⟩, h3⟩ := h
      obtain ⟨rfl, e2, e3, e4, e5⟩ := c.blt F (by decide) h1
      exact e_callB c.hK' call_lenD im_dlen e2 e3 rfl (iha sc X fr _ hp c h3) e4 e5 (star_eq h2) rfl
    · cases h
  | fld a f iha =>
    intro sc X fr y hp c h
    simp only [m] at h
    split at h
    · simp only [Bool.and_eq_true, decide_eq_true_eq] at h
      obtain ⟨⟨⟨rfl, h1⟩, h2⟩, h3⟩ := h
      obtain ⟨f1, f2⟩ := F.fl _ (by rw [← hp]; exact h2)
      exact e_fld c.hK' (by rw [c.p]; exact f1) (by rw [c.p]; exact f2) (upA (iha sc X fr _ hp c h3)) h1
    · cases h
  | flast i f =>
    intro sc X fr y hp c h
    simp only [m] at h
    split at h
    · simp only [Bool.and_eq_true, decide_eq_true_eq] at h
      obtain ⟨⟨⟨rfl, rfl⟩, h1⟩, h2⟩ := h
      obtain ⟨f1, f2⟩ := F.fl _ (by rw [← hp]; exact h2)
      obtain ⟨v1, v2, v3, v4⟩ := c.var h1
      exact e_flast c.hK' (by rw [c.p]; exact f1) (by rw [c.p]; exact f2) v1 v2 v3 v4
    · cases h
  | ftru i f =>
    intro sc X fr y hp c h
    simp only [m] at h
    split at h
    · simp only [Bool.and_eq_true, decide_eq_true_eq] at h
      obtain ⟨⟨rfl, h1⟩, h2⟩ := h
      obtain ⟨f1, f2⟩ := F.fl _ (by rw [← hp]; exact h2)
      obtain ⟨v1, v2, v3, v4⟩ := c.var h1
      exact ⟨t_ftru c.hK' (by rw [c.p]; exact f1) (by rw [c.p]; exact f2) v1 v2 v3 v4, fun op vs p e => by cases e⟩
    · cases h
  | fapp i f g =>
    intro sc X fr y hp c h
    simp only [m] at h
    split at h
    · simp only [Bool.and_eq_true, decide_eq_true_eq] at h
      obtain ⟨⟨⟨⟨⟨⟨⟨rfl, rfl⟩, rfl⟩, rfl⟩, h1⟩, h2⟩, h3⟩, h4⟩ := h
      obtain ⟨f1, f2⟩ := F.fl _ (by rw [← hp]; exact h2)
      obtain ⟨f3, f4⟩ := F.fl _ (by rw [← hp]; exact h3)
      obtain ⟨v1, v2, v3, v4⟩ := c.var h1
      exact s_fapp c.hK' (by rw [c.p]; exact f1) (by rw [c.p]; exact f2) (by rw [c.p]; exact f4) v1 v2 v3 v4 h4
    · cases h
  | fset i f a iha =>
    intro sc X fr y hp c h
    simp only [m] at h
    split at h
    · simp only [Bool.and_eq_true, decide_eq_true_eq] at h
      obtain ⟨⟨⟨⟨⟨rfl, h1⟩, h2⟩, h3⟩, h4⟩, h5⟩ := h
      obtain ⟨f1, f2⟩ := F.fl _ (by rw [← hp]; exact h2)
      obtain ⟨v1, v2, v3, v4⟩ := c.var h1
      exact s_fset c.hK' (by rw [c.p]; exact f1) (by rw [c.p]; exact f2) v1 v2 v3 v4 (upZ h5 (iha sc X fr _ hp c h4)) (swaps_eq h3)
    · cases h
  | fnew i f =>
    intro sc X fr y hp c h
    simp only [m] at h
    split at h
    · simp only [Bool.and_eq_true, decide_eq_true_eq] at h
      obtain ⟨⟨rfl, h1⟩, h2⟩ := h
      obtain ⟨f1, f2⟩ := F.fl _ (by rw [← hp]; exact h2)
      obtain ⟨v1, v2, v3, v4⟩ := c.var h1
      exact s_fnew c.hK' (by rw [c.p]; exact f1) (by rw [c.p]; exact f2) v1 v2 v3 v4
    · cases h
  | fpop i f g =>
    intro sc X fr y hp c h
    simp only [m] at h
    split at h
    · simp only [Bool.and_eq_true, decide_eq_true_eq] at h
      obtain ⟨⟨⟨⟨⟨⟨⟨rfl, rfl⟩, rfl⟩, rfl⟩, h1⟩, h2⟩, h3⟩, h4⟩ := h
      obtain ⟨f1, f2⟩ := F.fl _ (by rw [← hp]; exact h2)
      obtain ⟨f3, f4⟩ := F.fl _ (by rw [← hp]; exact h3)
      obtain ⟨v1, v2, v3, v4⟩ := c.var h1
      exact s_fpop c.hK' (by rw [c.p]; exact f1) (by rw [c.p]; exact f2) (by rw [c.p]; exact f4) v1 v2 v3 v4 h4
    · cases h
  | meth mt j a as iha ihs =>
    intro sc X fr y hp c h
    simp only [m] at h
    split at h
    · rename_i ex nm apos ey eys cpos
      simp only [Bool.and_eq_true, Bool.not_eq_true', decide_eq_true_eq] at h
      obtain ⟨⟨⟨⟨⟨⟨⟨h0, rfl⟩, h2⟩, h3⟩, h4⟩, h5⟩, h6⟩, h7⟩ := h
      split at h7
      · rename_i f hf
        simp only [Bool.and_eq_true, decide_eq_true_eq] at h7
        obtain ⟨⟨h8, h9⟩, h10⟩ := h7
        obtain ⟨ad, fd, e1, e2, e3, e4⟩ := F.mt j f (by rw [← hp]; exact hf) h9
        have hk : kdOf sc (.meth nm j a as) = f.kd := by
          show ((sc.pg.fns[j]?).map (·.kd)).getD 2 = _
          rw [hf]
          rfl
        show PE _ _ (TV fr (vk fr.p.K (kdOf sc (.meth nm j a as))) _)
        rw [hk]
        split at h10
        · rename_i ms hms
          refine e_meth (kK _ _) c.hK' (by rw [c.p]; exact e1) (by rw [c.p, ← h8]; exact e2) ?_ (c.room h0) (by rw [c.hK]; exact e3) c.tk (upA (iha sc X fr _ hp c h6)) (ihs sc X fr _ hp c h10) h3 h4 h2 h5
          rw [c.prog, c.w, c.hK, c.mg, c.base, c.p, ← hms]
          exact e4
        · cases h10
      · cases h7
    · cases h
  | meth0 mt j a iha =>
    intro sc X fr y hp c h
    simp only [m] at h
    split at h
    · rename_i ex nm apos cpos
      simp only [Bool.and_eq_true, Bool.not_eq_true', decide_eq_true_eq] at h
      obtain ⟨⟨⟨⟨⟨h0, rfl⟩, h2⟩, h5⟩, h6⟩, h7⟩ := h
      split at h7
      · rename_i f hf
        simp only [Bool.and_eq_true, decide_eq_true_eq] at h7
        obtain ⟨⟨h8, h9⟩, h10⟩ := h7
        obtain ⟨ad, fd, e1, e2, e3, e4⟩ := F.mt j f (by rw [← hp]; exact hf) h9
        have hk : kdOf sc (.meth0 nm j a) = f.kd := by
          show ((sc.pg.fns[j]?).map (·.kd)).getD 2 = _
          rw [hf]
          rfl
        show PE _ _ (TV fr (vk fr.p.K (kdOf sc (.meth0 nm j a))) _)
        rw [hk]
        refine e_meth0 (kK _ _) c.hK' (by rw [c.p]; exact e1) (by rw [c.p, ← h8]; exact e2) ?_ (c.room h0) (by rw [c.hK]; exact e3) c.tk (upA (iha sc X fr _ hp c h6)) h2 h5
        rw [c.prog, c.w, c.hK, c.mg, c.base, c.p, ← h10]
        exact e4
      · cases h7
    · cases h
  | make j a iha =>
    intro sc X fr y hp c h
    simp only [m] at h
    split at h
    · simp only [Bool.and_eq_true, Bool.not_eq_true', decide_eq_true_eq] at h
      obtain ⟨⟨⟨⟨⟨h0, h1⟩, h2⟩, h3⟩, h4⟩, h7⟩ := h
      split at h7
      · rename_i f hf
        simp only [Bool.and_eq_true, decide_eq_true_eq] at h7
        obtain ⟨⟨h8, h9⟩, h10⟩ := h7
        obtain ⟨k', ad, fd, e0, e1, e2, e3, e4⟩ := F.mkr j f (by rw [← hp]; exact hf) h9 h8
        split at h10
        · rename_i ms hms
          have ca := List.all_cons ▸ h4
          rw [Bool.and_eq_true] at ca
          refine e_make (fn := ad) (fd := fd) (ps := f.ps) (ms := ms) (j := k') (vr := vk fr.p.K f.kd) c.hK' (by rw [c.p]; exact e1) ?_ (fun H0 g H v z => ?_) (by rw [← e0]; exact c.room h0) (c.gl h1) (by rw [c.mg, c.p, h3, hp]; exact e2) (by rw [c.hK]; exact e3) c.tk (iha sc X fr _ hp c h10) (nmOk_iff h2).1 (star_eq ca.1) (back_any ca.2)
          · rw [c.prog, c.w, c.hK, c.mg, c.base, c.p, ← hms]
            exact e4
          · revert z
            match f.kd with
            | 0 => exact fun z => by have z : Rep _ g v .non := z; cases z; rfl
            | 1 => exact fun z => by have z : Rep _ g v .non := z; cases z; rfl
            | _ + 2 => exact fun z => by have z : Rep _ g v .non := z; cases z; rfl
        · cases h10
      · cases h7
    · cases h
end PF
namespace PF
open PySem L2
/-! ### binding of plain parameters -/
theorem fm_congr {α β : Type} {f g : α → Option β} : ∀ {l : List α}, (∀ x ∈ l, f x = g x) → l.filterMap f = l.filterMap g
  | [], _ => rfl
  | a :: l, h => by
    rw [List.filterMap_cons, List.filterMap_cons, h a (List.mem_cons_self ..), fm_congr fun x hx => h x (List.mem_cons_of_mem _ hx)]
theorem zip_lookup : ∀ {ps : List Str} {us : List Value}, ps.Nodup → us.length = ps.length → ps.filterMap (fun n => ((ps.zip us).lookup n).map (n, ·)) = ps.zip us ∧ (ps.filter fun n => ((ps.zip us).lookup n).isNone) = []
  | [], [], _, _ => ⟨rfl, rfl⟩
  | p :: ps, u :: us, nd, hl => by
    obtain ⟨h1, h2⟩ := zip_lookup (List.nodup_cons.mp nd).2 (Nat.succ.inj hl)
    have hn : ∀ n ∈ ps, ((p :: ps).zip (u :: us)).lookup n = (ps.zip us).lookup n := fun n hn => by
      rw [List.zip_cons_cons, List.lookup_cons]
      have : (n == p) = false := by
        rw [beq_eq_false_iff_ne]
        intro e
        rw [e] at hn
        exact (List.nodup_cons.mp nd).1 hn
      rw [this]
    have h0 : ((p :: ps).zip (u :: us)).lookup p = some u := by
      rw [List.zip_cons_cons, List.lookup_cons, beq_self_eq_true]
    constructor
    · rw [List.filterMap_cons, h0]
      show (p, u) :: ps.filterMap _ = (p, u) :: ps.zip us
      have e : ps.filterMap (fun n => (((p :: ps).zip (u :: us)).lookup n).map (n, ·)) = ps.filterMap (fun n => ((ps.zip us).lookup n).map (n, ·)) := fm_congr fun n hn' => by rw [hn n hn']
      rw [e, h1]
    · rw [List.filter_cons, h0]
      show (ps.filter _) = []
      rw [← h2]
      exact List.filter_congr fun n hn' => by rw [hn n hn']
theorem bind_plain {x qual : Str} {body : List Stmt} {scope : Scope} {as : List Arg} {kV doc pm : Value} {an : Option Addr} {cdv ct : Value} {us : List Value} {ps : List Str} (hp : as.map (·.arg) = ps) (nd : ps.Nodup) (hl : us.length = ps.length) :
    bindArgs (PySem.W.fnOf x qual ⟨[], as, none, [], [], none, []⟩ body scope .none kV doc pm an cdv ct) ⟨us, []⟩ = pure (ps.zip us) := by
  obtain ⟨h1, h2⟩ := zip_lookup nd hl
  unfold bindArgs
  have e1 : seqItems? Value.none = pure none := rfl
  simp only [PySem.W.fnOf, List.map_nil, List.nil_append, hp, List.forIn_nil, pure_bind, e1, Option.getD_none, List.drop_nil, List.length_nil, Nat.sub_zero, List.append_nil, List.take_length, h2, List.zip_nil_right, h1, hl]
  simp
end PF
namespace PF
open PySem L2
/-! ### a def, as data -/
structure FD where
  name : Str
  ps : List Str
  N : List Str
  md : List Md
  ms : List Md
  rk : Nat
  srt : Bool
  me : Bool
  ir : I
def FD.qual (d : FD) : Str := if d.me = true then "Wall." ++ d.name else d.name
def FD.sc (pg : Pg) (d : FD) (scope : Scope) : Sc := ⟨pg, d.N, scope, d.md, d.rk, true, d.srt, false⟩
def fscB (N ps : List Str) (sc : Scope) : Bool := (match sc.kind with
  | .function => true
  | _ => false) && !sc.isCoroutine && !sc.isGenerator && decide N.Nodup && decide (N.take ps.length = ps) && (ps.all fun x => match sc.names.lookup x with
  | some .local => true
  | some .cell => true
  | _ => false) && sc.names.all fun y => match y.2 with
  | .free => false
  | _ => true
theorem fscB_ok {N ps : List Str} {sc : Scope} (h : fscB N ps sc = true) : FnScope N ps sc := by
  unfold fscB at h
  simp only [Bool.and_eq_true, Bool.not_eq_true', decide_eq_true_eq, List.all_eq_true] at h
  obtain ⟨⟨⟨⟨⟨⟨h1, h2⟩, h3⟩, h4⟩, h5⟩, h6⟩, h7⟩ := h
  refine ⟨?_, h2, h3, h4, h5, fun x hx => ?_, fun y hy e => ?_⟩
  · split at h1
    · assumption
    · cases h1
  · have q := h6 x hx
    split at q
    · exact .inl (by assumption)
    · exact .inr (by assumption)
    · cases q
  · have q := h7 y hy
    rw [e] at q
    cases q
def plainArgs (ps : List Str) : Arguments → Bool
  | ⟨[], as, none, [], [], none, []⟩ => decide (as.map (·.arg) = ps)
  | _ => false
def msB (d : FD) : Bool := decide (d.ms.length = d.ps.length) && decide (d.md.take d.ms.length = d.ms) && d.ms.all (fun x => decide (x ≠ .own)) && decide (d.ps.length ≤ d.N.length)
theorem msB_ok {d : FD} (h : msB d = true) : d.ms.length = d.ps.length ∧ (∀ i x, d.ms[i]? = some x → d.md.getD i .frz = x ∧ x ≠ .own) ∧ d.ps.length ≤ d.N.length := by
  unfold msB at h
  simp only [Bool.and_eq_true, decide_eq_true_eq, List.all_eq_true] at h
  obtain ⟨⟨⟨h1, h2⟩, h3⟩, h4⟩ := h
  refine ⟨h1, fun i x hx => ⟨?_, h3 x (List.mem_of_getElem? hx)⟩, h4⟩
  rw [← h2, List.getElem?_take] at hx
  split at hx
  · rw [List.getD_eq_getElem?_getD, hx]
    rfl
  · cases hx
def fdB (pg : Pg) (d : FD) (params : Arguments) (body : List Stmt) (scope : Scope) : Bool := plainArgs d.ps params && fscB d.N d.ps scope && msB d && m d.ir (d.sc pg scope) (.b body)
def lamT (x : Str) : Str := (x ++ ".<locals>.") ++ "<lambda>"
theorem fd_ok {G : Glb} {pg : Pg} (F : Facts G pg) {d : FD} {params : Arguments} {body : List Stmt} {scope : Scope} {fn : Addr} {fd : FuncData} (Fd : FunD G.p.K d.name d.qual params body scope [] [] fn fd) (h : fdB pg d params body scope = true)
    (hs : d.srt = true → ∃ c P, LamX.TabB G.base G.mg c P ∧ fd.code = .ref c ∧ G.p.T = [(P, lamT d.qual)]) :
    FnOk G.P G.w G.p.K G.mg G.base (L2.CX G.P G.w) (G.k + 1) fn fd d.ps (spD G.p d.ms (vk G.p.K d.rk) (callF d.N.length (den G.exm G.cl d.ir).s)) := by
  unfold fdB at h
  simp only [Bool.and_eq_true] at h
  obtain ⟨⟨⟨_, h2⟩, h3⟩, h4⟩ := h
  have S := fscB_ok h2
  obtain ⟨m1, m2, m3⟩ := msB_ok h3
  obtain ⟨oc, od, dV, kV, doc, pm, an, cdv, ct, osl, rfl, lk, hcd, _, _⟩ := Fd.ex
  refine fn_of lk hcd S (fun vs H Q E h => ?_) fun A outer s H vs Q E hr h => ?_
  · obtain ⟨ds, g, m, _, r, _⟩ := h
    rw [r.length.1, m1]
  · obtain ⟨ds, g, m, o, r, q⟩ := h
    have cx : Ctx G (d.sc pg scope) (cxOf (L2.CX G.P G.w) G.P G.w G.p.K G.mg G.base d.N d.qual scope fn cdv A outer s H E) ⟨G.p, (d.sc pg scope).mdf, g, H, fun cls d _ H => E cls d H⟩ := by
      refine ⟨rfl, rfl, rfl, S.nd, rfl, S.kind, rfl, rfl, rfl, rfl, ?_, fun _ => rfl, fun _ => hr, takes_of rfl rfl rfl rfl, fun _ => rfl, fun _ => rfl, fun _ => ⟨rfl, passes_of rfl, rfl, rfl⟩, fun z => ?_⟩
      · have := hr.un
        show (A.deeper _).units + 200 < _
        omega
      · obtain ⟨c, P, t1, t2, t3⟩ := hs z
        refine ⟨c, P, t1, t2, ?_, fun p hp _ => ?_⟩
        · rw [t3]
          exact List.mem_cons_self ..
        · rw [t3] at hp
          rw [List.mem_singleton.mp hp]
          rfl
    refine ⟨_, sound F d.ir (d.sc pg scope) _ _ (.b body) rfl cx h4, _, g, m, rl_start o r m2 (by rw [r.length.2, m1]; exact m3), ?_⟩
    unfold callF at q
    cases z : (den G.exm G.cl d.ir).s (ds.map some ++ List.replicate (d.N.length - ds.length) none) m with
    | nx rho' m' =>
      rw [z] at q
      intro s' g' H' _ r'
      exact q .non g' H' r'.ent r'.ok (kK _ _).non
    | rt d m' => rw [z] at q; exact fun v g' H' e o rv => q v g' H' e o rv
    | exc c rho' m' => rw [z] at q; exact fun s' g' H' _ r' => q g' H' r'.ent r'.ok
    | bk rho' m' => rw [z] at q; exact absurd q (fun z => z)
    | ct rho' m' => rw [z] at q; exact absurd q (fun z => z)
    | bad => rw [z] at q; exact absurd q (fun z => z)
theorem fd_binds {K : PySem.W.Frag} {pg : Pg} {d : FD} {params : Arguments} {body : List Stmt} {scope : Scope} {fn : Addr} {fd : FuncData} (Fd : FunD K d.name d.qual params body scope [] [] fn fd) (h : fdB pg d params body scope = true) :
    Binds K fd d.ps [] ∧ ∀ (s : Shared) (us : List Value), us.length = d.ps.length → BindsTo s fd ⟨us, []⟩ (d.ps.zip us) := by
  unfold fdB at h
  simp only [Bool.and_eq_true] at h
  obtain ⟨⟨⟨h1, h2⟩, h3⟩, h4⟩ := h
  have S := fscB_ok h2
  have nd : d.ps.Nodup := by
    rw [← S.pre]
    exact S.nd.sublist (List.take_sublist _ _)
  unfold plainArgs at h1
  split at h1
  · rw [decide_eq_true_eq] at h1
    exact ⟨Fd.bindsN fun _ _ _ _ _ _ us hl => bind_plain h1 nd hl, fun s us hl => Fd.bindsA (fun _ _ _ _ _ _ us hl => bind_plain h1 nd hl) s us hl⟩
  · cases h1
/-! ### all defs, by levels -/
def run (exm : Nat → Nat → Bool) (fds : List FD) : Nat → Nat → List D → M D
  | 0, _ => fun _ => bad
  | 1, _ => fun _ => bad
  | k + 2, j => match fds[j]? with
    | some d => callF d.N.length (den exm (fun i => if i < 1000 then run exm fds (k + 1) i else run exm fds k (i - 1000)) d.ir).s
    | none => fun _ => bad
/-- what a def's body calls, at its level -/
def run2 (exm : Nat → Nat → Bool) (fds : List FD) (k : Nat) (i : Nat) : List D → M D := if i < 1000 then run exm fds (k + 1) i else run exm fds k (i - 1000)
theorem run_at {exm : Nat → Nat → Bool} {fds : List FD} {k j : Nat} {d : FD} (h : fds[j]? = some d) : run exm fds (k + 2) j = callF d.N.length (den exm (run2 exm fds k) d.ir).s := by
  show (match fds[j]? with
    | some d => callF d.N.length (den exm (fun i => if i < 1000 then run exm fds (k + 1) i else run exm fds k (i - 1000)) d.ir).s
    | none => fun _ => bad) = _
  rw [h]
  rfl
theorem run2_lo {exm : Nat → Nat → Bool} {fds : List FD} {k j : Nat} (h : j < 1000) : run2 exm fds k j = run exm fds (k + 1) j := if_pos h
theorem run2_hi {exm : Nat → Nat → Bool} {fds : List FD} {k j : Nat} : run2 exm fds k (j + 1000) = run exm fds k j := by
  unfold run2
  rw [if_neg (by omega), Nat.add_sub_cancel]
structure Cs where
  gis : List (Str × Int)
  excs : List Str
  gss : List (Str × Str)
  gds : List (Str × List (Str × Lt))
  flds : List Str
  cls : Str
def pgOf (fds : List FD) (c : Cs) : Pg := ⟨fds.map fun d => ⟨d.name, d.ps, d.ms, d.rk, d.me⟩, c.gis, c.excs, c.gss, c.gds, c.flds, c.cls⟩
structure Base (P : Program) (w : World) (mg : Str → Option Value) (base : Heap) (p : Par) (exm : Nat → Nat → Bool) (fds : List FD) (c : Cs) : Prop where
  len : fds.length < 1000
  fn : ∀ (j : Nat) (d : FD), fds[j]? = some d → ∃ (a : Addr) (fd : FuncData) (params : Arguments) (body : List Stmt) (scope : Scope), (d.me = false → mg d.name = some (.ref a)) ∧ (d.me = true → Cls p.K p.C ∧ Meth p.K p.C d.name a ∧ (d.name = ("__init__" : Str) → Mk p.K p.C a ∧ mg c.cls = some (.ref p.C))) ∧
    FunD p.K d.name d.qual params body scope [] [] a fd ∧ fdB (pgOf fds c) d params body scope = true ∧ (d.srt = true → ∃ c P, LamX.TabB base mg c P ∧ fd.code = .ref c ∧ p.T = [(P, lamT d.qual)])
  blt : ∀ x ∈ bltNames, mg x = none
  gi : ∀ q ∈ c.gis, ∃ t, mg q.1 = some (.int q.2 t)
  exc : ∀ (n : Nat) (x : Str), c.excs[n]? = some x → ∃ (C : Addr) (bmB : List Value) (B newId initId : String), ExcBaseFacts B newId initId bmB ∧ PySem.W.excIn p.K C bmB newId = true ∧ mg x = some (.ref C) ∧ PySem.W.keepIn p.K (.ref C) = true ∧ (∀ X : Cx, X.K = p.K → Raises X (.ref C)) ∧ p.cls n = .ref C
  exm : ∀ c h, PySem.W.exmOne p.K (p.cls c) (p.cls h) = some (exm c h)
  gs : ∀ q ∈ c.gss, ∃ t, mg q.1 = some (.str q.2 t)
  gd : ∀ q ∈ c.gds, ∃ d, mg q.1 = some (.ref d) ∧ KTab p.K w d q.2
  fl : ∀ f ∈ c.flds, Cls p.K p.C ∧ NoAttr p.K p.C f
section
variable {P : Program} {w : World} {mg : Str → Option Value} {base : Heap} {p : Par} {exm : Nat → Nat → Bool} {fds : List FD} {c : Cs}
/-- all defs keep their word at a level -/
def AllOk (P : Program) (w : World) (mg : Str → Option Value) (base : Heap) (p : Par) (exm : Nat → Nat → Bool) (fds : List FD) (c : Cs) (k : Nat) : Prop :=
  ∀ (j : Nat) (d : FD), fds[j]? = some d → ∀ (a : Addr) (fd : FuncData) (params : Arguments) (body : List Stmt) (scope : Scope), FunD p.K d.name d.qual params body scope [] [] a fd → fdB (pgOf fds c) d params body scope = true →
      (d.srt = true → ∃ c P, LamX.TabB base mg c P ∧ fd.code = .ref c ∧ p.T = [(P, lamT d.qual)]) → FnOk P w p.K mg base (L2.CX P w) k a fd d.ps (spD p d.ms (vk p.K d.rk) (run exm fds k j))
theorem ok_bad {k : Nat} {a : Addr} {fd : FuncData} {ps : List Str} {ms : List Md} {vr : VR} {K : PySem.W.Frag} : FnOk P w K mg base (L2.CX P w) k a fd ps (spD p ms vr fun _ => bad) := by
  refine ⟨fun vs H Q E h => ?_, fun A outer s H args us vs Q E _ _ _ _ h => ?_⟩
  · obtain ⟨ds, g, m, _, _, z⟩ := h
    exact (show False from z).elim
  · obtain ⟨ds, g, m, _, _, z⟩ := h
    exact (show False from z).elim
theorem facts1 (B : Base P w mg base p exm fds c) {k : Nat} (h1 : AllOk P w mg base p exm fds c (k + 1)) (h0 : AllOk P w mg base p exm fds c k) : Facts ⟨P, w, mg, base, p, k + 1, run2 exm fds k, exm⟩ (pgOf fds c) := by
  have get : ∀ (j : Nat) (f : FI), (pgOf fds c).fns[j]? = some f → ∃ d, fds[j]? = some d ∧ f = ⟨d.name, d.ps, d.ms, d.rk, d.me⟩ ∧ j < 1000 := fun j f hf => by
    have hf : (fds.map fun d => (⟨d.name, d.ps, d.ms, d.rk, d.me⟩ : FI))[j]? = some f := hf
    rw [List.getElem?_map] at hf
    cases q : fds[j]? with
    | none => rw [q] at hf; cases hf
    | some d =>
      rw [q] at hf
      cases hf
      have := (List.getElem?_eq_some_iff.mp q).1
      have := B.len
      exact ⟨d, rfl, rfl, by omega⟩
  refine ⟨fun j f hf hme => ?_, B.blt, B.gi, B.exc, B.exm, B.gs, B.gd, B.fl, fun j f hf hme => ?_, fun j f hf hme hn => ?_⟩
  · obtain ⟨d, hd, rfl, hj⟩ := get j f hf
    obtain ⟨a, fd, params, body, scope, e1, e2, e3, e4, e5⟩ := B.fn j d hd
    refine ⟨a, fd, e1 hme, e3.kp, (fd_binds e3 e4).1, ?_⟩
    show FnOk P w p.K mg base (L2.CX P w) (k + 1) a fd d.ps (spD p d.ms (vk p.K d.rk) (run2 exm fds k j))
    rw [run2_lo hj]
    exact h1 j d hd a fd params body scope e3 e4 e5
  · obtain ⟨d, hd, rfl, hj⟩ := get j f hf
    obtain ⟨a, fd, params, body, scope, e1, e2, e3, e4, e5⟩ := B.fn j d hd
    obtain ⟨m1, m2, _⟩ := e2 hme
    refine ⟨a, fd, m1, m2, (fd_binds e3 e4).1, ?_⟩
    show FnOk P w p.K mg base (L2.CX P w) (k + 1) a fd d.ps (spD p d.ms (vk p.K d.rk) (run2 exm fds k j))
    rw [run2_lo hj]
    exact h1 j d hd a fd params body scope e3 e4 e5
  · obtain ⟨d, hd, rfl, hj⟩ := get j f hf
    obtain ⟨a, fd, params, body, scope, e1, e2, e3, e4, e5⟩ := B.fn j d hd
    obtain ⟨m1, m2, m3⟩ := e2 hme
    obtain ⟨m4, m5⟩ := m3 hn
    refine ⟨k, a, fd, rfl, m4, m5, (fd_binds e3 e4).1, ?_⟩
    show FnOk P w p.K mg base (L2.CX P w) k a fd d.ps (spD p d.ms (vk p.K d.rk) (run2 exm fds k (j + 1000)))
    rw [run2_hi]
    exact h0 j d hd a fd params body scope e3 e4 e5
theorem allOk (B : Base P w mg base p exm fds c) : ∀ k, AllOk P w mg base p exm fds c k ∧ AllOk P w mg base p exm fds c (k + 1)
  | 0 => ⟨fun _ _ _ _ _ _ _ _ _ _ _ => ok_bad, fun _ _ _ _ _ _ _ _ _ _ _ => ok_bad⟩
  | k + 1 => by
    obtain ⟨h0, h1⟩ := allOk B k
    refine ⟨h1, fun j d hd a fd params body scope e3 e4 e5 => ?_⟩
    have z := fd_ok (facts1 B h1 h0) e3 e4 e5
    rw [run_at hd]
    exact z
end
end PF
namespace PF
open PySem L2
/-! ### a law, as data -/
def clsAt (s : Stmt) (k : Nat) : Stmt := match s with
  | .ClassDef _ _ _ body _ _ _ _ _ _ _ => body.getD k (.Pass ⟨0, 0, 0, 0⟩)
  | s => s
structure LawD where
  fds : List FD
  st : List Stmt
  cs : Cs
  tab : List (List Bool)
  lam : List Str
  law : Nat
def exmT (n : Nat) (t : List (List Bool)) (c h : Nat) : Bool := (t.getD (if c < n then c else 0) []).getD (if h < n then h else 0) false
def LawD.exm (L : LawD) : Nat → Nat → Bool := exmT L.cs.excs.length L.tab
def FD.at_ (cls : Str) (d : FD) : Str × Option Str := if d.me = true then (cls, some d.name) else (d.name, none)
def LawD.fn (L : LawD) : List He.DefD := (L.fds.zip L.st).map fun q => ⟨q.1.at_ L.cs.cls, q.1.name, q.1.qual, defArgs q.2, defBody q.2, defScope q.2, [], []⟩
def LawD.fa1 (L : LawD) : List He.Fa := ((L.fds.filter fun d => !d.me).map fun d => .glo d.name) ++ ((bltNames.map .free) ++ ((L.cs.gis.map fun q => .int q.1 q.2) ++ ((L.cs.excs.map .glo) ++ ((L.cs.excs.map .exc) ++ (L.cs.excs.zipIdx.flatMap fun q => L.cs.excs.zipIdx.map fun r => .exm q.1 r.1 (L.exm q.2 r.2))))))
def LawD.fa2 (L : LawD) : List He.Fa := (if L.cs.flds = [] then [] else [.glo L.cs.cls, .cls L.cs.cls, .mkr L.cs.cls]) ++ (((L.fds.filter fun d => d.me).map fun d => .meth L.cs.cls d.name) ++ ((L.cs.flds.map fun f => .noat L.cs.cls f) ++ ((L.cs.gss.map fun q => .str q.1 q.2) ++ (L.cs.gds.map fun q => .glo q.1))))
def LawD.fa (L : LawD) : List He.Fa := L.fa1 ++ L.fa2
def LawD.tf (L : LawD) : List He.Defn := L.lam.map fun x => (x, none)
def LawD.ts (L : LawD) : List He.Tab := L.cs.gds.map fun q => (fun K => He.ga K q.1, q.2.map (·.1))
def entB : List DictEntry → List (Str × Lt) → Bool
  | [], [] => true
  | e :: es, (k, l) :: t => (match e.key with
    | .str x _ => decide (x = k)
    | _ => false) && He.relB l.v e.val && entB es t
  | _, _ => false
def tabB (K : PySem.W.Frag) (a : Addr) (t : List (Str × Lt)) : Bool := match K.lookup a with
  | some ⟨_, _, .dict es _, _⟩ => entB es.toList t
  | _ => false
def LawD.ex (L : LawD) (K : PySem.W.Frag) : Bool := L.cs.gds.all fun q => tabB K (He.ga K q.1) q.2
theorem entB_ok : ∀ {es : List DictEntry} {t : List (Str × Lt)}, entB es t = true → es.any (·.refKey) = false ∧ ∀ z, (∀ l, t.lookup z = some l → ∃ e, es.find? (·.key.isStr z) = some e ∧ RelV l.v e.val) ∧ (t.lookup z = none → es.find? (·.key.isStr z) = none)
  | [], [], _ => ⟨rfl, fun z => ⟨fun l h => by (cases h), fun _ => rfl⟩⟩
  | e :: es, (k, l) :: t, h => by
    have h : ((match e.key with
      | .str x _ => decide (x = k)
      | _ => false) && He.relB l.v e.val && entB es t) = true := h
    rw [Bool.and_eq_true, Bool.and_eq_true] at h
    obtain ⟨⟨h1, h2⟩, h3⟩ := h
    obtain ⟨i1, i2⟩ := entB_ok h3
    split at h1
    · rename_i x tk hk
      have h1 := of_decide_eq_true h1
      subst h1
      refine ⟨?_, fun z => ?_⟩
      · rw [List.any_cons, i1, Bool.or_false]
        unfold DictEntry.refKey
        rw [hk]
      · rw [List.lookup_cons, List.find?_cons]
        have e1 : e.key.isStr z = (x == z) := by rw [hk]; rfl
        rw [e1]
        by_cases y : z = x
        · subst y
          rw [beq_self_eq_true]
          exact ⟨fun l' hl => by
            cases hl
            exact ⟨e, rfl, He.relB_ok h2⟩, fun hl => by cases hl⟩
        · rw [beq_eq_false_iff_ne.mpr y, beq_eq_false_iff_ne.mpr (Ne.symm y)]
          exact i2 z
    · cases h1
  | [], _ :: _, h => by cases h
  | _ :: _, [], h => by cases h
theorem ktab_of {K : PySem.W.Frag} {w : World} {d : Addr} {t : List (Str × Lt)} (h : tabB K d t = true) (hd : ∃ es n, KDict K w d es n) : KTab K w d t := by
  obtain ⟨es, n, D⟩ := hd
  unfold tabB at h
  rw [D.at_] at h
  obtain ⟨i1, i2⟩ := entB_ok (show entB es.toList t = true from h)
  have ns : ∀ z, PySem.W.nsIn K d z = (match es.toList.find? (·.key.isStr z) with
      | some e => some (some e.val)
      | none => if es.toList.any (·.refKey) then none else some none) := fun z => by
    unfold PySem.W.nsIn
    rw [D.at_]
    rfl
  refine ⟨⟨es, n, D⟩, fun z l hl => ?_, fun z hz => ?_⟩
  · obtain ⟨e, e1, e2⟩ := (i2 z).1 l hl
    exact ⟨e.val, by rw [ns, e1], e2⟩
  · rw [ns, (i2 z).2 hz, i1]
    rfl
def LawD.ok (L : LawD) : Bool := decide (L.fds.length = L.st.length) && ((L.fds.zip L.st).all fun q => fdB (pgOf L.fds L.cs) q.1 (defArgs q.2) (defBody q.2) (defScope q.2) && (!q.1.srt || (decide (L.lam = [q.1.name]) && !q.1.me)) && (!q.1.me || decide (L.cs.flds ≠ []))) && decide (0 < L.cs.excs.length) && decide (L.fds.length < 1000) &&
  (match L.fds[L.law]? with
    | some d => decide (d.ps = [("script" : Str)]) && decide (d.ms = [.frz]) && !d.srt && !d.me
    | none => false)
def LawD.par (L : LawD) (K : PySem.W.Frag) : Par := ⟨K, L.lam.map fun x => ((He.cT K (x, none)).2, lamT x), He.ga K L.cs.cls, fun c => .ref (He.ga K (L.cs.excs.getD (if c < L.cs.excs.length then c else 0) ""))⟩
theorem zipIdx_mem {α : Type} {l : List α} {i : Nat} {x : α} (h : l[i]? = some x) : (x, i) ∈ l.zipIdx := by
  rw [List.mem_zipIdx_iff_getElem?]
  exact h
theorem qual_no {d : FD} (h : d.me = false) : d.qual = d.name := by unfold FD.qual; rw [h]; rfl
theorem LawD.base (L : LawD) (hL : L.ok = true) {P : Program} {w : World} {K : PySem.W.Frag} {mg : Str → Option Value} {h : Heap} (KX : K.In h) (G : h.Ns mainGlobals mg) (c : He.SaysX L.fa L.fn L.ts L.tf L.ex w h K) (base : Heap)
    (hT : ∀ p ∈ (L.tf.map fun q => He.cT K q), LamX.TabB base mg p.1 p.2) : Base P w mg base (L.par K) L.exm L.fds L.cs := by
  unfold LawD.ok at hL
  simp only [Bool.and_eq_true, decide_eq_true_eq, List.all_eq_true, Bool.or_eq_true, Bool.not_eq_true'] at hL
  obtain ⟨⟨⟨⟨h1, h2⟩, h3⟩, hlen⟩, h4⟩ := hL
  have cd := c.t.d
  have in1 : ∀ {f : He.Fa}, f ∈ L.fa1 → f.ok K = true := fun {f} hf => cd.facts (List.mem_append_left _ hf)
  have in2 : ∀ {f : He.Fa}, f ∈ L.fa2 → f.ok K = true := fun {f} hf => cd.facts (List.mem_append_right _ hf)
  have glo : ∀ x, (He.Fa.glo x).ok K = true → mg x = some (.ref (He.ga K x)) := fun x hx => He.glo_ok KX G hx
  have inC : ∀ {f : He.Fa}, L.cs.flds ≠ [] → f ∈ [He.Fa.glo L.cs.cls, .cls L.cs.cls, .mkr L.cs.cls] → f.ok K = true := fun {f} hne hf => in2 (by
    unfold LawD.fa2
    rw [if_neg hne]
    exact List.mem_append_left _ hf)
  have inE : ∀ {x : Str}, x ∈ L.cs.excs → mg x = some (.ref (He.ga K x)) ∧ (He.Fa.exc x).ok K = true := fun {x} hx => ⟨glo x (in1 (by
      unfold LawD.fa1
      exact List.mem_append_right _ (List.mem_append_right _ (List.mem_append_right _ (List.mem_append_left _ (List.mem_map.mpr ⟨x, hx, rfl⟩)))))), in1 (by
      unfold LawD.fa1
      exact List.mem_append_right _ (List.mem_append_right _ (List.mem_append_right _ (List.mem_append_right _ (List.mem_append_left _ (List.mem_map.mpr ⟨x, hx, rfl⟩))))))⟩
  refine ⟨hlen, fun j d hd => ?_, fun x hx => ?_, fun q hq => ?_, fun n x hx => ?_, fun a b => ?_, fun q hq => ?_, fun q hq => ?_, fun f hf => ?_⟩
  · have hj : j < L.fds.length := (List.getElem?_eq_some_iff.mp hd).1
    have hs : L.st[j]? = some (L.st[j]'(by omega)) := List.getElem?_eq_getElem (by omega)
    have hz : (d, L.st[j]'(by omega)) ∈ L.fds.zip L.st := List.mem_of_getElem? (i := j) (by rw [List.getElem?_zip_eq_some]; exact ⟨hd, hs⟩)
    obtain ⟨fd, F⟩ := cd.defs (d := ⟨d.at_ L.cs.cls, d.name, d.qual, defArgs (L.st[j]'(by omega)), defBody (L.st[j]'(by omega)), defScope (L.st[j]'(by omega)), [], []⟩) (by
      unfold LawD.fn
      exact List.mem_map.mpr ⟨_, hz, rfl⟩)
    obtain ⟨⟨k1, k2⟩, k3⟩ := h2 _ hz
    have mem := List.mem_of_getElem? hd
    refine ⟨_, fd, _, _, _, fun hme => ?_, fun hme => ?_, F, k1, fun hsr => ?_⟩
    · have e : He.fAd K (d.at_ L.cs.cls) = He.ga K d.name := by
        unfold FD.at_
        rw [hme]
        rfl
      rw [e]
      exact glo _ (in1 (by
        unfold LawD.fa1
        exact List.mem_append_left _ (List.mem_map.mpr ⟨d, List.mem_filter.mpr ⟨mem, by rw [hme]; rfl⟩, rfl⟩)))
    · have hne : L.cs.flds ≠ [] := by
        rcases k3 with z | z
        · rw [hme] at z; cases z
        · exact z
      have e : He.fAd K (d.at_ L.cs.cls) = He.ma K (He.ga K L.cs.cls) d.name := by
        unfold FD.at_
        rw [hme]
        rfl
      rw [e]
      refine ⟨He.cls_ok (inC hne (by simp)), He.meth_ok (in2 ?_), fun hn => ⟨?_, glo _ (inC hne (by simp))⟩⟩
      · unfold LawD.fa2
        exact List.mem_append_right _ (List.mem_append_left _ (List.mem_map.mpr ⟨d, List.mem_filter.mpr ⟨mem, hme⟩, rfl⟩))
      · rw [hn]
        exact He.mkr_ok (inC hne (by simp))
    · rcases k2 with z | ⟨z, hme⟩
      · rw [z] at hsr; cases hsr
      have hat : d.at_ L.cs.cls = (d.name, none) := by unfold FD.at_; rw [hme]; rfl
      have F' := F
      obtain ⟨oc, od, dV, kV, doc, pm, an, cdv, ct, osl, rfl, lk, hcd, _, _⟩ := F'.ex
      obtain ⟨cc, e⟩ := He.codeIn_ref hcd
      have lk' := lk
      change K.lookup (He.fAd K (d.at_ L.cs.cls)) = _ at lk'
      rw [hat] at lk'
      have ec : He.codeOf K (d.name, none) = cc := He.codeOf_eq (p := (d.name, none)) lk' e
      refine ⟨cc, (He.cT K (d.name, none)).2, ?_, e, ?_⟩
      · have t := hT (He.cT K (d.name, none)) (by
          unfold LawD.tf
          rw [z]
          exact List.mem_cons_self ..)
        rw [← ec]
        exact t
      · show L.lam.map _ = _
        rw [z, qual_no hme]
        rfl
  · exact He.free_ok KX G (in1 (by
      unfold LawD.fa1
      exact List.mem_append_right _ (List.mem_append_left _ (List.mem_map.mpr ⟨x, hx, rfl⟩))))
  · exact He.int_ok KX G (in1 (by
      unfold LawD.fa1
      exact List.mem_append_right _ (List.mem_append_right _ (List.mem_append_left _ (List.mem_map.mpr ⟨q, hq, rfl⟩)))))
  · obtain ⟨e1, e2⟩ := inE (List.mem_of_getElem? hx)
    obtain ⟨f1, f2, f3, f4⟩ := He.exc_ok e2
    refine ⟨He.ga K x, He.veBase, _, _, _, PySem.F.excBase_ValueError, f1, e1, f2, fun X hX => raises_own (by rw [hX]; exact f3) (by rw [hX]; exact f4), ?_⟩
    show Value.ref (He.ga K (L.cs.excs.getD (if n < L.cs.excs.length then n else 0) "")) = _
    rw [if_pos (List.getElem?_eq_some_iff.mp hx).1, List.getD_eq_getElem?_getD, hx]
    rfl
  · have key : ∀ n : Nat, ∃ x, L.cs.excs[if n < L.cs.excs.length then n else 0]? = some x ∧ L.cs.excs.getD (if n < L.cs.excs.length then n else 0) "" = x := fun n => by
      have hlt : (if n < L.cs.excs.length then n else 0) < L.cs.excs.length := by split <;> omega
      exact ⟨_, List.getElem?_eq_getElem hlt, by rw [List.getD_eq_getElem?_getD, List.getElem?_eq_getElem hlt]; rfl⟩
    obtain ⟨x, x1, x2⟩ := key a
    obtain ⟨y, y1, y2⟩ := key b
    show PySem.W.exmOne K (.ref (He.ga K (L.cs.excs.getD (if a < L.cs.excs.length then a else 0) ""))) (.ref (He.ga K (L.cs.excs.getD (if b < L.cs.excs.length then b else 0) ""))) = some (exmT _ _ a b)
    have f := He.exm_ok (in1 (f := .exm x y (L.exm (if a < L.cs.excs.length then a else 0) (if b < L.cs.excs.length then b else 0))) (by
      unfold LawD.fa1
      exact List.mem_append_right _ (List.mem_append_right _ (List.mem_append_right _ (List.mem_append_right _ (List.mem_append_right _ (List.mem_flatMap.mpr ⟨_, zipIdx_mem x1, List.mem_map.mpr ⟨_, zipIdx_mem y1, rfl⟩⟩)))))))
    rw [x2, y2, f]
    unfold LawD.exm exmT
    have id : ∀ n : Nat, (if (if n < L.cs.excs.length then n else 0) < L.cs.excs.length then (if n < L.cs.excs.length then n else 0) else 0) = (if n < L.cs.excs.length then n else 0) := fun n => by
      by_cases z : n < L.cs.excs.length <;> simp [z]
    rw [id, id]
  · exact He.str_ok KX G (in2 (by
      unfold LawD.fa2
      exact List.mem_append_right _ (List.mem_append_right _ (List.mem_append_right _ (List.mem_append_left _ (List.mem_map.mpr ⟨q, hq, rfl⟩))))))
  · refine ⟨He.ga K q.1, glo _ (in2 (by
      unfold LawD.fa2
      exact List.mem_append_right _ (List.mem_append_right _ (List.mem_append_right _ (List.mem_append_right _ (List.mem_map.mpr ⟨q, hq, rfl⟩)))))), ktab_of ?_ ?_⟩
    · have z := c.more
      unfold LawD.ex at z
      exact List.all_eq_true.mp z q hq
    · obtain ⟨i, hi, e⟩ := List.mem_iff_getElem.mp hq
      have z := c.t.tab i (t := (fun K => He.ga K q.1, q.2.map (·.1))) (by
        unfold LawD.ts
        rw [List.getElem?_map, List.getElem?_eq_getElem hi, e]
        rfl)
      exact z
  · have hne : L.cs.flds ≠ [] := fun z => by rw [z] at hf; cases hf
    exact ⟨He.cls_ok (inC hne (by simp)), He.noat_ok (in2 (by
      unfold LawD.fa2
      exact List.mem_append_right _ (List.mem_append_right _ (List.mem_append_left _ (List.mem_map.mpr ⟨f, hf, rfl⟩)))))⟩
theorem wall_start {p : Par} {H : Hp} {a : Addr} {ns : List Int} (hS : SqL p.K H a (ns.map V.int)) (hT : ∀ q ∈ p.T, H q.1 = some (.tbl #[])) : ∃ g, Ok p g [] H ∧ Rep p.K g (.ref a) (.scr ns) := by
  let B : Addr → Option Own := fun b => if b ∈ p.T.map (·.1) then some .tab else none
  have hB : ∀ b, B b ≠ none → H b = some (.tbl #[]) := fun b z => by
    by_cases y : b ∈ p.T.map (·.1)
    · obtain ⟨q, hq, e⟩ := List.mem_map.mp y
      rw [← e]
      exact hT q hq
    · exact absurd (if_neg y) z
  have tabs : LamX.Tabs p.T H := fun q hq => LamX.TabS.nil (hT q hq)
  have tabB : ∀ q ∈ p.T, B q.1 = some .tab := fun q hq => if_pos (List.mem_map.mpr ⟨q, hq, rfl⟩)
  rcases hS with h | h
  · refine ⟨⟨fun b => if b = a then H a else none, B, []⟩, ⟨fun b o z => ?_, fun b z => ?_, fun b z => ?_, tabs, tabB, rfl, (fun n fs z => by simp at z)⟩, ?_⟩
    · have z : (if b = a then H a else none) = some o := z
      split at z
      · rename_i e
        rw [e]
        exact z
      · cases z
    · show (if b = a then H a else none) = none
      split
      · rename_i e
        have k := hB b z
        rw [e] at k
        rcases h with h | ⟨_, h⟩
        · rw [h] at k; cases k
        · rw [h] at k; cases k
      · rfl
    · rw [hB b z]
      simp
    · refine .scr (.inl ?_)
      rcases h with h | ⟨o, h⟩
      · exact .inl ((if_pos rfl).trans h)
      · exact .inr ⟨o, (if_pos rfl).trans h⟩
  · refine ⟨⟨fun _ => none, B, []⟩, ⟨(fun b o z => by cases z), (fun b z => rfl), (fun b z => ?_), tabs, tabB, rfl, (fun n fs z => by simp at z)⟩, .scr (.inr h)⟩
    rw [hB b z]
    simp
/-- the law's def, at its level -/
theorem LawD.at_ (L : LawD) (hL : L.ok = true) {l : PySem.W.OpenLaw} {w : World} {K : PySem.W.Frag} {mg : Str → Option Value} {h : Heap} {fa : Addr} {k n : Nat} (KX : K.In h) (G : h.Ns mainGlobals mg) (c : He.SaysX L.fa L.fn L.ts L.tf L.ex w h K)
    {d : FD} (hd : L.fds[L.law]? = some d) (hmg : mg d.name = some (.ref fa))
    (hrun : ∀ ns : List Int, ns.length ≤ n → (∀ z ∈ ns, Builtin.Int.intBits z ≤ 1048576) → ∃ m, run L.exm L.fds k L.law [.scr ns] [] = .ok (.bl true) m) : LamX.LawAtS l w K (L2.CX l.prog w) k n "script" mg fa h := by
  have hL2 := hL
  unfold LawD.ok at hL2
  simp only [Bool.and_eq_true] at hL2
  have h4 := hL2.2
  rw [hd] at h4
  simp only [Bool.and_eq_true, decide_eq_true_eq, Bool.not_eq_true'] at h4
  obtain ⟨⟨⟨p1, p2⟩, p3⟩, p4⟩ := h4
  have mem : ∀ q ∈ (L.tf.map fun q => He.cT K q), ∃ x ∈ L.tf, He.cT K x = q := fun q hq => by
    obtain ⟨x, hx, e⟩ := List.mem_map.mp hq
    exact ⟨x, hx, e⟩
  have b0 : ∀ base : Heap, (∀ p ∈ (L.tf.map fun q => He.cT K q), LamX.TabB base mg p.1 p.2) → Base l.prog w mg base (L.par K) L.exm L.fds L.cs := fun base hT => L.base hL KX G c base hT
  -- the def's own data, by the hook alone
  have hj : L.law < L.fds.length := (List.getElem?_eq_some_iff.mp hd).1
  have cd := c.t.d
  have hl : L.fds.length = L.st.length := by
    have z := hL2.1.1.1.1
    rw [decide_eq_true_eq] at z
    exact z
  have hs : L.st[L.law]? = some (L.st[L.law]'(by omega)) := List.getElem?_eq_getElem (by omega)
  have hz : (d, L.st[L.law]'(by omega)) ∈ L.fds.zip L.st := List.mem_of_getElem? (i := L.law) (by rw [List.getElem?_zip_eq_some]; exact ⟨hd, hs⟩)
  obtain ⟨fd, F⟩ := cd.defs (d := ⟨d.at_ L.cs.cls, d.name, d.qual, defArgs (L.st[L.law]'(by omega)), defBody (L.st[L.law]'(by omega)), defScope (L.st[L.law]'(by omega)), [], []⟩) (by
    unfold LawD.fn
    exact List.mem_map.mpr ⟨_, hz, rfl⟩)
  have e0 : mg d.name = some (.ref (He.ga K d.name)) := He.glo_ok KX G (cd.facts (List.mem_append_left _ (by
    unfold LawD.fa1
    exact List.mem_append_left _ (List.mem_map.mpr ⟨d, List.mem_filter.mpr ⟨List.mem_of_getElem? hd, by rw [p4]; rfl⟩, rfl⟩))))
  have ea0 : He.ga K d.name = fa := by
    rw [e0] at hmg
    injection hmg with hmg
    injection hmg
  have ea : He.fAd K (d.at_ L.cs.cls) = fa := by
    unfold FD.at_
    rw [p4]
    exact ea0
  have k1 := hL2.1.1.1.2
  rw [List.all_eq_true] at k1
  have k2 := k1 _ hz
  rw [Bool.and_eq_true, Bool.and_eq_true] at k2
  have bs := (fd_binds F k2.1.1).2
  refine ⟨fd, L.tf.map fun q => He.cT K q, spD (L.par K) [.frz] (vk K d.rk) (run L.exm L.fds k L.law), fun p hp => ?_, fun p hp => ?_, fun p hp => ?_, fun s u => ?_, fun H a ns h1 h2 hT hS => ?_, fun base KB GB hT => ?_⟩
  · obtain ⟨x, hx, e⟩ := mem p hp
    rw [← e]
    exact c.empty x hx
  · obtain ⟨x, hx, e⟩ := mem p hp
    rw [← e]
    exact c.out x hx
  · obtain ⟨x, hx, e⟩ := mem p hp
    rw [← e]
    exact PySem.W.codeHd_of_K KX (c.hd x hx)
  · have z := bs s [u] (by rw [p1]; rfl)
    rw [p1] at z
    exact z
  · obtain ⟨g, o, r⟩ := wall_start (p := L.par K) hS fun q hq => by
      obtain ⟨x, hx, e⟩ := List.mem_map.mp (show q ∈ L.lam.map fun x => ((He.cT K (x, none)).2, lamT x) from hq)
      rw [← e]
      exact hT (He.cT K (x, none)) (List.mem_map.mpr ⟨(x, none), List.mem_map.mpr ⟨x, hx, rfl⟩, rfl⟩)
    obtain ⟨m, hm⟩ := hrun ns h1 h2
    refine ⟨[.scr ns], g, [], o, ⟨r, trivial⟩, ?_⟩
    rw [hm]
    intro v g' H' _ o' rv
    have rv : vk K d.rk H g' H' v (.bl true) := rv
    have q : RepA K g' H' v (.bl true) := by
      match d.rk, rv with
      | 0, z => exact RepF.any (H0 := H) z
      | 1, z => exact z
      | _ + 2, z => exact z
    exact q.bl
  · have z := (allOk (b0 base hT) k).1 L.law d hd _ fd _ _ _ F k2.1.1 (fun z => by rw [p3] at z; cases z)
    rw [ea, p1, p2] at z
    exact z
end PF
namespace PF
open PySem L2
def d_is_within : FD := ⟨"is_within", ["thing", "low", "high"], ["thing", "low", "high"], [.frz, .frz, .frz], [.frz, .frz, .frz], 0, false, false,
  (.cons (.ret (.and (.isi .int (.var 0)) (.and (.not (.isi .bool (.var 0))) (.chain .le .le (.var 1) (.var 0) (.var 2))))) .nil)⟩
def d_is_pane (j_is_within : Nat) : FD := ⟨"is_pane", ["thing"], ["thing"], [.frz], [.frz], 0, false, false,
  (.cons (.iff (.tor (.tnot (.tst (.isi .tuple (.var 0)))) (.tor (.tcmp .ne (.bi .len (.cons (.var 0) .nil)) (.int 4)) (.tor (.tnot (.tst (.isi .str (.ix (.var 0) (.int 0))))) (.tcmp .ne (.ix (.var 0) (.int 0)) (.str "pane"))))) (.cons (.ret (.bl false)) .nil) .nil) (.cons (.ret (.and (.call j_is_within (.cons (.ix (.var 0) (.int 1)) (.cons (.int 0) (.cons (.gint "MOST_NUMBER" 99) .nil)))) (.and (.call j_is_within (.cons (.ix (.var 0) (.int 2)) (.cons (.int 1) (.cons (.int 99) .nil)))) (.call j_is_within (.cons (.ix (.var 0) (.int 3)) (.cons (.int 1) (.cons (.int 99) .nil))))))) .nil))⟩
def d_is_stack (j_is_pane j_is_within : Nat) : FD := ⟨"is_stack", ["thing"], ["thing", "one"], [.frz, .frz], [.frz], 0, false, false,
  (.cons (.iff (.tor (.tnot (.tst (.isi .tuple (.var 0)))) (.tor (.tcmp .ne (.bi .len (.cons (.var 0) .nil)) (.int 3)) (.tor (.tnot (.tst (.isi .str (.ix (.var 0) (.int 0))))) (.tcmp .ne (.ix (.var 0) (.int 0)) (.str "stack"))))) (.cons (.ret (.bl false)) .nil) .nil) (.cons (.iff (.tor (.tnot (.tst (.isi .tuple (.ix (.var 0) (.int 1))))) (.tnot (.tchn .le .le (.int 2) (.bi .len (.cons (.ix (.var 0) (.int 1)) .nil)) (.gint "MOST_PARTS" 6)))) (.cons (.ret (.bl false)) .nil) .nil) (.cons (.ret (.and (.not (.comp (.iseq (.ix (.var 0) (.int 1))) (.nm 1) (.tnot (.tst (.call j_is_pane (.cons (.var 1) .nil)))) (.var 1) [1])) (.call j_is_within (.cons (.ix (.var 0) (.int 2)) (.cons (.int 0) (.cons (.bin .sub (.bi .len (.cons (.ix (.var 0) (.int 1)) .nil)) (.int 1)) .nil)))))) .nil)))⟩
def d_is_made (j_is_pane j_is_stack j_is_within j_is_made : Nat) : FD := ⟨"is_made", ["thing", "deep", "kind"], ["thing", "deep", "kind", "one", "part"], [.frz, .frz, .frz, .frz, .frz], [.frz, .frz, .frz], 0, false, false,
  (.cons (.iff (.tor (.tst (.call j_is_pane (.cons (.var 0) .nil))) (.tst (.call j_is_stack (.cons (.var 0) .nil)))) (.cons (.ret (.cmp .le (.var 1) (.gint "MOST_DEEP" 6))) .nil) .nil) (.cons (.iff (.tor (.tnot (.tst (.isi .tuple (.var 0)))) (.tor (.tcmp .ne (.bi .len (.cons (.var 0) .nil)) (.int 3)) (.tor (.tnot (.tst (.isi .str (.ix (.var 0) (.int 0))))) (.tcmp .gt (.var 1) (.gint "MOST_DEEP" 6))))) (.cons (.ret (.bl false)) .nil) .nil) (.cons (.iff (.tor (.tgin true "OTHER" [("row", .s "column"), ("column", .s "row")] (.ix (.var 0) (.int 0))) (.tor (.tcmp .eq (.ix (.var 0) (.int 0)) (.var 2)) (.tor (.tnot (.tst (.isi .tuple (.ix (.var 0) (.int 1))))) (.tnot (.tst (.isi .tuple (.ix (.var 0) (.int 2)))))))) (.cons (.ret (.bl false)) .nil) .nil) (.cons (.iff (.tor (.tnot (.tchn .le .le (.int 2) (.bi .len (.cons (.ix (.var 0) (.int 1)) .nil)) (.gint "MOST_PARTS" 6))) (.tcmp .ne (.bi .len (.cons (.ix (.var 0) (.int 2)) .nil)) (.bi .len (.cons (.ix (.var 0) (.int 1)) .nil)))) (.cons (.ret (.bl false)) .nil) .nil) (.cons (.iff (.tst (.comp (.iseq (.ix (.var 0) (.int 2))) (.nm 3) (.tnot (.tst (.call j_is_within (.cons (.var 3) (.cons (.int 1) (.cons (.gint "MOST_SHARE" 1000000000000000000000000000000) .nil)))))) (.var 3) [3])) (.cons (.ret (.bl false)) .nil) .nil) (.cons (.ret (.not (.comp (.iseq (.ix (.var 0) (.int 1))) (.nm 4) (.tnot (.tst (.call j_is_made (.cons (.var 4) (.cons (.bin .add (.var 1) (.int 1)) (.cons (.ix (.var 0) (.int 0)) .nil)))))) (.var 4) [4]))) .nil))))))⟩
def d_panes_of (j_panes_of : Nat) : FD := ⟨"panes_of", ["tree"], ["tree", "found", "part"], [.frz, .own, .frz], [.frz], 0, false, false,
  (.cons (.iff (.tcmp .eq (.ix (.var 0) (.int 0)) (.str "pane")) (.cons (.ret (.lst (.cons (.var 0) .nil))) .nil) .nil) (.cons (.set 1 (.lst .nil)) (.cons (.for (.iseq (.ix (.var 0) (.int 1))) (.nm 2) (.cons (.ext 1 (.call j_panes_of (.cons (.var 2) .nil))) .nil)) (.cons (.retv 1) .nil))))⟩
def d_is_tree (j_is_made j_panes_of : Nat) : FD := ⟨"is_tree", ["thing"], ["thing", "numbers", "pane"], [.frz, .frz, .frz], [.frz], 0, false, false,
  (.cons (.iff (.tnot (.tst (.call j_is_made (.cons (.var 0) (.cons (.int 1) (.cons (.str "") .nil)))))) (.cons (.ret (.bl false)) .nil) .nil) (.cons (.setc 1 (.iseq (.call j_panes_of (.cons (.var 0) .nil))) (.nm 2) .hole (.ix (.var 2) (.int 1)) [2]) (.cons (.ret (.and (.cmp .le (.bi .len (.cons (.var 1) .nil)) (.gint "MOST_PANES" 12)) (.cmp .eq (.lset (.var 1)) (.bi .len (.cons (.var 1) .nil))))) .nil)))⟩
def d_look (j_is_tree x_BadTree : Nat) : FD := ⟨"look", ["tree"], ["tree"], [.frz], [.frz], 0, false, false,
  (.cons (.iff (.tnot (.tst (.call j_is_tree (.cons (.var 0) .nil)))) (.cons (.raise x_BadTree) .nil) .nil) .nil)⟩
def d_least_of (j_least_of : Nat) : FD := ⟨"least_of", ["tree", "gap"], ["tree", "gap", "some", "part", "wide", "one", "high"], [.frz, .frz, .frz, .frz, .frz, .frz, .frz], [.frz, .frz], 0, false, false,
  (.cons (.iff (.tcmp .eq (.ix (.var 0) (.int 0)) (.str "pane")) (.cons (.ret (.tup (.cons (.ix (.var 0) (.int 2)) (.cons (.ix (.var 0) (.int 3)) .nil)))) .nil) .nil) (.cons (.setc 2 (.iseq (.ix (.var 0) (.int 1))) (.nm 3) .hole (.call j_least_of (.cons (.var 3) (.cons (.var 1) .nil))) [3]) (.cons (.setc 4 (.iseq (.var 2)) (.nm 5) .hole (.ix (.var 5) (.int 0)) [5]) (.cons (.setc 6 (.iseq (.var 2)) (.nm 5) .hole (.ix (.var 5) (.int 1)) [5]) (.cons (.iff (.tcmp .eq (.ix (.var 0) (.int 0)) (.str "row")) (.cons (.ret (.tup (.cons (.bin .add (.bi .sum (.cons (.var 4) .nil)) (.bin .mul (.var 1) (.bin .sub (.bi .len (.cons (.var 2) .nil)) (.int 1)))) (.cons (.bi .max (.cons (.var 6) .nil)) .nil)))) .nil) .nil) (.cons (.iff (.tcmp .eq (.ix (.var 0) (.int 0)) (.str "column")) (.cons (.ret (.tup (.cons (.bi .max (.cons (.var 4) .nil)) (.cons (.bin .add (.bi .sum (.cons (.var 6) .nil)) (.bin .mul (.var 1) (.bin .sub (.bi .len (.cons (.var 2) .nil)) (.int 1)))) .nil)))) .nil) .nil) (.cons (.ret (.tup (.cons (.bi .max (.cons (.var 4) .nil)) (.cons (.bi .max (.cons (.var 6) .nil)) .nil)))) .nil)))))))⟩
def d_held_least : FD := ⟨"held_least", ["room", "shares", "leasts"], ["room", "shares", "leasts", "held", "many", "rest", "at", "left", "every"], [.frz, .frz, .frz, .frz, .frz, .frz, .frz, .frz, .frz], [.frz, .frz, .frz], 1, false, false,
  (.cons (.set 3 (.lst .nil)) (.cons (.set 4 (.neg (.int 1))) (.cons (.whl 100 (.tcmp .ne (.var 4) (.bi .len (.cons (.var 3) .nil))) (.cons (.set 4 (.bi .len (.cons (.var 3) .nil))) (.cons (.setc 5 (.irng1 (.cons (.bi .len (.cons (.var 1) .nil)) .nil)) (.nm 6) (.tcmp .nin (.var 6) (.var 3)) (.var 6) [6]) (.cons (.set 7 (.bin .sub (.var 0) (.bi .sum (.cons (.comp (.iseq (.var 3)) (.nm 6) .hole (.ix (.var 2) (.var 6)) [6]) .nil)))) (.cons (.set 8 (.bi .sum (.cons (.comp (.iseq (.var 5)) (.nm 6) .hole (.ix (.var 1) (.var 6)) [6]) .nil))) (.cons (.set 3 (.bin .add (.var 3) (.comp (.iseq (.var 5)) (.nm 6) (.tcmp .lt (.bin .mul (.var 7) (.ix (.var 1) (.var 6))) (.bin .mul (.ix (.var 2) (.var 6)) (.var 8))) (.var 6) [6]))) .nil)))))) (.cons (.ret (.var 3)) .nil))))⟩
def d_shared_of (j_held_least : Nat) : FD := ⟨"shared_of", ["room", "shares", "leasts"], ["room", "shares", "leasts", "held", "found", "rest", "at", "left", "every", "more", "order"], [.frz, .frz, .frz, .frz, .own, .frz, .frz, .frz, .frz, .frz, .frz], [.frz, .frz, .frz], 0, true, false,
  (.cons (.set 3 (.call j_held_least (.cons (.var 0) (.cons (.var 1) (.cons (.var 2) .nil))))) (.cons (.set 4 (.bi .list (.cons (.var 2) .nil))) (.cons (.setc 5 (.irng1 (.cons (.bi .len (.cons (.var 1) .nil)) .nil)) (.nm 6) (.tcmp .nin (.var 6) (.var 3)) (.var 6) [6]) (.cons (.set 7 (.bin .sub (.var 0) (.bi .sum (.cons (.comp (.iseq (.var 3)) (.nm 6) .hole (.ix (.var 2) (.var 6)) [6]) .nil)))) (.cons (.set 8 (.bi .sum (.cons (.comp (.iseq (.var 5)) (.nm 6) .hole (.ix (.var 1) (.var 6)) [6]) .nil))) (.cons (.for (.iseq (.var 5)) (.nm 6) (.cons (.put 4 (.var 6) (.bin .div (.bin .mul (.var 7) (.ix (.var 1) (.var 6))) (.var 8))) .nil)) (.cons (.set 9 (.bin .sub (.var 0) (.bi .sum (.cons (.var 4) .nil)))) (.cons (.set 10 (.srt 5 7 1 8)) (.cons (.for (.iseq (.sl (.var 10) .hole (.prt (.var 9)))) (.nm 6) (.cons (.augput false 4 (.var 6) (.int 1)) .nil)) (.cons (.retv 4) .nil))))))))))⟩
def d_look_size (j_is_within x_BadSize : Nat) : FD := ⟨"look_size", ["width", "height", "gap"], ["width", "height", "gap"], [.frz, .frz, .frz], [.frz, .frz, .frz], 0, false, false,
  (.cons (.iff (.tor (.tnot (.tst (.call j_is_within (.cons (.var 0) (.cons (.int 1) (.cons (.gint "MOST_SIZE" 2000) .nil)))))) (.tor (.tnot (.tst (.call j_is_within (.cons (.var 1) (.cons (.int 1) (.cons (.gint "MOST_SIZE" 2000) .nil)))))) (.tnot (.tst (.call j_is_within (.cons (.var 2) (.cons (.int 0) (.cons (.gint "MOST_GAP" 9) .nil)))))))) (.cons (.raise x_BadSize) .nil) .nil) .nil)⟩
def d_look_room (j_least_of x_TooSmall : Nat) : FD := ⟨"look_room", ["tree", "width", "height", "gap"], ["tree", "width", "height", "gap", "least"], [.frz, .frz, .frz, .frz, .frz], [.frz, .frz, .frz, .frz], 0, false, false,
  (.cons (.set 4 (.call j_least_of (.cons (.var 0) (.cons (.var 3) .nil)))) (.cons (.iff (.tor (.tcmp .gt (.ix (.var 4) (.int 0)) (.var 1)) (.tcmp .gt (.ix (.var 4) (.int 1)) (.var 2))) (.cons (.raise x_TooSmall) .nil) .nil) .nil))⟩
def d_sizes_in (j_least_of j_shared_of : Nat) : FD := ⟨"sizes_in", ["tree", "width", "height", "gap"], ["tree", "width", "height", "gap", "side", "leasts", "part"], [.frz, .frz, .frz, .frz, .frz, .frz, .frz], [.frz, .frz, .frz, .frz], 0, false, false,
  (.cons (.set 4 (.bi .int (.cons (.cmp .eq (.ix (.var 0) (.int 0)) (.str "column")) .nil))) (.cons (.setc 5 (.iseq (.ix (.var 0) (.int 1))) (.nm 6) .hole (.ix (.call j_least_of (.cons (.var 6) (.cons (.var 3) .nil))) (.var 4)) [6]) (.cons (.ret (.call j_shared_of (.cons (.bin .sub (.ix (.lst (.cons (.var 1) (.cons (.var 2) .nil))) (.var 4)) (.bin .mul (.var 3) (.bin .sub (.bi .len (.cons (.var 5) .nil)) (.int 1)))) (.cons (.ix (.var 0) (.int 2)) (.cons (.var 5) .nil))))) .nil)))⟩
def d_places_of (j_places_of j_sizes_in : Nat) : FD := ⟨"places_of", ["tree", "box", "gap", "is_shown"], ["tree", "box", "gap", "is_shown", "left", "top", "width", "height", "found", "at", "part", "size"], [.frz, .frz, .frz, .frz, .frz, .frz, .frz, .frz, .own, .frz, .frz, .frz], [.frz, .frz, .frz, .frz], 0, false, false,
  (.cons (.unp (.tp [4, 5, 6, 7]) (.var 1)) (.cons (.iff (.tcmp .eq (.ix (.var 0) (.int 0)) (.str "pane")) (.cons (.ret (.lst (.cons (.tup (.cons (.ix (.var 0) (.int 1)) (.cons (.var 4) (.cons (.var 5) (.cons (.var 6) (.cons (.var 7) (.cons (.var 3) .nil))))))) .nil))) .nil) .nil) (.cons (.set 8 (.lst .nil)) (.cons (.iff (.tcmp .eq (.ix (.var 0) (.int 0)) (.str "stack")) (.cons (.for (.ienm (.cons (.ix (.var 0) (.int 1)) .nil)) (.tp [9, 10]) (.cons (.ext 8 (.call j_places_of (.cons (.var 10) (.cons (.var 1) (.cons (.var 2) (.cons (.and (.var 3) (.cmp .eq (.var 9) (.ix (.var 0) (.int 2)))) .nil)))))) .nil)) (.cons (.retv 8) .nil)) .nil) (.cons (.for (.izip (.cons (.ix (.var 0) (.int 1)) (.cons (.call j_sizes_in (.cons (.var 0) (.cons (.var 6) (.cons (.var 7) (.cons (.var 2) .nil))))) .nil))) (.tp [10, 11]) (.cons (.iff (.tcmp .eq (.ix (.var 0) (.int 0)) (.str "row")) (.cons (.ext 8 (.call j_places_of (.cons (.var 10) (.cons (.tup (.cons (.var 4) (.cons (.var 5) (.cons (.var 11) (.cons (.var 7) .nil))))) (.cons (.var 2) (.cons (.var 3) .nil)))))) (.cons (.aug false 4 (.bin .add (.var 11) (.var 2))) .nil)) (.cons (.ext 8 (.call j_places_of (.cons (.var 10) (.cons (.tup (.cons (.var 4) (.cons (.var 5) (.cons (.var 6) (.cons (.var 11) .nil))))) (.cons (.var 2) (.cons (.var 3) .nil)))))) (.cons (.aug false 5 (.bin .add (.var 11) (.var 2))) .nil))) .nil)) (.cons (.retv 8) .nil))))))⟩
def d_least (j_look j_look_size j_least_of : Nat) : FD := ⟨"least", ["tree", "gap"], ["tree", "gap"], [.frz, .frz], [.frz, .frz], 0, false, false,
  (.cons (.expr (.call j_look (.cons (.var 0) .nil))) (.cons (.expr (.call j_look_size (.cons (.int 1) (.cons (.int 1) (.cons (.var 1) .nil))))) (.cons (.ret (.call j_least_of (.cons (.var 0) (.cons (.var 1) .nil)))) .nil)))⟩
def d_places (j_look j_look_size j_look_room j_places_of : Nat) : FD := ⟨"places", ["tree", "width", "height", "gap"], ["tree", "width", "height", "gap"], [.frz, .frz, .frz, .frz], [.frz, .frz, .frz, .frz], 0, false, false,
  (.cons (.expr (.call j_look (.cons (.var 0) .nil))) (.cons (.expr (.call j_look_size (.cons (.var 1) (.cons (.var 2) (.cons (.var 3) .nil))))) (.cons (.expr (.call j_look_room (.cons (.var 0) (.cons (.var 1) (.cons (.var 2) (.cons (.var 3) .nil)))))) (.cons (.ret (.call j_places_of (.cons (.var 0) (.cons (.tup (.cons (.int 0) (.cons (.int 0) (.cons (.var 1) (.cons (.var 2) .nil))))) (.cons (.var 3) (.cons (.bl true) .nil)))))) .nil))))⟩
end PF
namespace PF
open PySem L2
def d__law_cell : FD := ⟨"_law_cell", ["script", "k"], ["script", "k"], [.frz, .frz], [.frz, .frz], 1, false, false,
  (.cons (.iff (.tcmp .lt (.var 1) (.bi .len (.cons (.var 0) .nil))) (.cons (.ret (.ix (.var 0) (.var 1))) .nil) .nil) (.cons (.ret (.int 0)) .nil))⟩
def d__law_seed : FD := ⟨"_law_seed", ["seed", "k"], ["seed", "k"], [.frz, .frz], [.frz, .frz], 0, false, false,
  (.cons (.ret (.bin .mod (.bin .pow (.bin .mod (.bin .add (.bin .add (.bin .mul (.var 0) (.int 1103515245)) (.bin .mul (.int 7919) (.var 1))) (.int 12345)) (.int 2147483647)) (.int 5)) (.int 2147483647))) .nil)⟩
def d__law_pick : FD := ⟨"_law_pick", ["seed", "many"], ["seed", "many"], [.frz, .frz], [.frz, .frz], 0, false, false,
  (.cons (.ret (.bin .mod (.bin .div (.var 0) (.int 97)) (.var 1))) .nil)⟩
end PF
namespace PF
open PySem L2
def d_panes (j_look j_panes_of : Nat) : FD := ⟨"panes", ["tree"], ["tree", "pane"], [.frz, .frz], [.frz], 0, false, false,
  (.cons (.expr (.call j_look (.cons (.var 0) .nil))) (.cons (.ret (.comp (.iseq (.call j_panes_of (.cons (.var 0) .nil))) (.nm 1) .hole (.ix (.var 1) (.int 1)) [1])) .nil))⟩
end PF
namespace PF
open PySem L2
def d_has (j_panes_of : Nat) : FD := ⟨"has", ["tree", "number"], ["tree", "number", "pane"], [.frz, .frz, .frz], [.frz, .frz], 0, false, false,
  (.cons (.ret (.cmp .inn (.var 1) (.comp (.iseq (.call j_panes_of (.cons (.var 0) .nil))) (.nm 2) .hole (.ix (.var 2) (.int 1)) [2]))) .nil)⟩
def d_reduced : FD := ⟨"reduced", ["shares"], ["shares", "part", "share"], [.frz, .frz, .frz], [.frz], 0, false, false,
  (.cons (.set 1 (.ix (.var 0) (.int 0))) (.cons (.for (.iseq (.var 0)) (.nm 2) (.cons (.whl 2000 (.tcmp .gt (.var 2) (.int 0)) (.cons (.unp (.tp [1, 2]) (.tup (.cons (.var 2) (.cons (.bin .mod (.var 1) (.var 2)) .nil)))) .nil)) .nil)) (.cons (.ret (.bi .tuple (.cons (.comp (.iseq (.var 0)) (.nm 2) .hole (.bin .div (.var 2) (.var 1)) [2]) .nil))) .nil)))⟩
def d_framed (j_reduced : Nat) : FD := ⟨"framed", ["kind", "parts", "shares"], ["kind", "parts", "shares", "found", "some", "at", "part", "times", "other", "share"], [.frz, .frz, .frz, .own, .own, .frz, .frz, .frz, .frz, .frz], [.frz, .frz, .frz], 1, false, false,
  (.cons (.iff (.tcmp .eq (.bi .len (.cons (.var 1) .nil)) (.int 1)) (.cons (.ret (.ix (.var 1) (.int 0))) .nil) .nil) (.cons (.set 3 (.lst .nil)) (.cons (.set 4 (.lst .nil)) (.cons (.for (.ienm (.cons (.var 1) .nil)) (.tp [5, 6]) (.cons (.set 7 (.int 1)) (.cons (.for (.irng1 (.cons (.bi .len (.cons (.var 1) .nil)) .nil)) (.nm 8) (.cons (.iff (.tand (.tcmp .ne (.var 8) (.var 5)) (.tcmp .eq (.ix (.ix (.var 1) (.var 8)) (.int 0)) (.var 0))) (.cons (.set 7 (.bin .mul (.var 7) (.bi .sum (.cons (.ix (.ix (.var 1) (.var 8)) (.int 2)) .nil)))) .nil) .nil) .nil)) (.cons (.iff (.tcmp .eq (.ix (.var 6) (.int 0)) (.var 0)) (.cons (.ext 3 (.ix (.var 6) (.int 1))) (.cons (.ext 4 (.comp (.iseq (.ix (.var 6) (.int 2))) (.nm 9) .hole (.bin .mul (.bin .mul (.ix (.var 2) (.var 5)) (.var 7)) (.var 9)) [9])) .nil)) (.cons (.app 3 (.var 6)) (.cons (.app 4 (.bin .mul (.ix (.var 2) (.var 5)) (.var 7))) .nil))) .nil)))) (.cons (.ret (.tup (.cons (.var 0) (.cons (.bi .tuple (.cons (.var 3) .nil)) (.cons (.call j_reduced (.cons (.bi .tuple (.cons (.var 4) .nil)) .nil)) .nil))))) .nil)))))⟩
def d_place_in (j_has : Nat) : FD := ⟨"place_in", ["tree", "number"], ["tree", "number", "at", "part"], [.frz, .frz, .frz, .frz], [.frz, .frz], 1, false, false,
  (.cons (.ret (.ix (.comp (.ienm (.cons (.ix (.var 0) (.int 1)) .nil)) (.tp [2, 3]) (.tst (.call j_has (.cons (.var 3) (.cons (.var 1) .nil)))) (.var 2) [2, 3]) (.int 0))) .nil)⟩
def d_is_frame : FD := ⟨"is_frame", ["tree"], ["tree"], [.frz], [.frz], 0, false, false,
  (.cons (.ret (.cmp .inn (.ix (.var 0) (.int 0)) (.tup (.cons (.str "row") (.cons (.str "column") .nil))))) .nil)⟩
def d_with_part (j_framed : Nat) : FD := ⟨"with_part", ["tree", "at", "part"], ["tree", "at", "part"], [.frz, .frz, .frz], [.frz, .frz, .frz], 1, false, false,
  (.cons (.ret (.call j_framed (.cons (.ix (.var 0) (.int 0)) (.cons (.bin .add (.bin .add (.sl (.ix (.var 0) (.int 1)) .hole (.prt (.var 1))) (.tup (.cons (.var 2) .nil))) (.sl (.ix (.var 0) (.int 1)) (.prt (.bin .add (.var 1) (.int 1))) .hole)) (.cons (.ix (.var 0) (.int 2)) .nil))))) .nil)⟩
def d_beside (j_is_frame j_framed j_place_in j_with_part j_beside : Nat) : FD := ⟨"beside", ["tree", "number", "side", "pane"], ["tree", "number", "side", "pane", "kind", "behind", "at", "here"], [.frz, .frz, .frz, .frz, .frz, .frz, .frz, .frz], [.frz, .frz, .frz, .frz], 1, false, false,
  (.cons (.set 4 (.gix "KINDS" [("left", .s "row"), ("right", .s "row"), ("above", .s "column"), ("below", .s "column")] (.var 2))) (.cons (.set 5 (.bi .int (.cons (.cmp .inn (.var 2) (.tup (.cons (.str "right") (.cons (.str "below") .nil)))) .nil))) (.cons (.iff (.tnot (.tst (.call j_is_frame (.cons (.var 0) .nil)))) (.cons (.ret (.call j_framed (.cons (.var 4) (.cons (.ix (.lst (.cons (.tup (.cons (.var 3) (.cons (.var 0) .nil))) (.cons (.tup (.cons (.var 0) (.cons (.var 3) .nil))) .nil))) (.var 5)) (.cons (.tup (.cons (.int 1) (.cons (.int 1) .nil))) .nil))))) .nil) .nil) (.cons (.set 6 (.call j_place_in (.cons (.var 0) (.cons (.var 1) .nil)))) (.cons (.iff (.tor (.tst (.call j_is_frame (.cons (.ix (.ix (.var 0) (.int 1)) (.var 6)) .nil))) (.tcmp .ne (.ix (.var 0) (.int 0)) (.var 4))) (.cons (.ret (.call j_with_part (.cons (.var 0) (.cons (.var 6) (.cons (.call j_beside (.cons (.ix (.ix (.var 0) (.int 1)) (.var 6)) (.cons (.var 1) (.cons (.var 2) (.cons (.var 3) .nil))))) .nil))))) .nil) .nil) (.cons (.set 7 (.bin .add (.var 6) (.var 5))) (.cons (.ret (.call j_framed (.cons (.var 4) (.cons (.bin .add (.bin .add (.sl (.ix (.var 0) (.int 1)) .hole (.prt (.var 7))) (.tup (.cons (.var 3) .nil))) (.sl (.ix (.var 0) (.int 1)) (.prt (.var 7)) .hole)) (.cons (.bin .add (.bin .add (.sl (.ix (.var 0) (.int 2)) .hole (.prt (.var 7))) (.tup (.cons (.ix (.ix (.var 0) (.int 2)) (.var 6)) .nil))) (.sl (.ix (.var 0) (.int 2)) (.prt (.var 7)) .hole)) .nil))))) .nil)))))))⟩
def d_stacked (j_place_in j_with_part j_stacked : Nat) : FD := ⟨"stacked", ["tree", "number", "pane"], ["tree", "number", "pane", "at"], [.frz, .frz, .frz, .frz], [.frz, .frz, .frz], 1, false, false,
  (.cons (.iff (.tcmp .eq (.ix (.var 0) (.int 0)) (.str "pane")) (.cons (.ret (.tup (.cons (.str "stack") (.cons (.tup (.cons (.var 0) (.cons (.var 2) .nil))) (.cons (.int 1) .nil))))) .nil) .nil) (.cons (.iff (.tcmp .eq (.ix (.var 0) (.int 0)) (.str "stack")) (.cons (.ret (.tup (.cons (.str "stack") (.cons (.bin .add (.ix (.var 0) (.int 1)) (.tup (.cons (.var 2) .nil))) (.cons (.bi .len (.cons (.ix (.var 0) (.int 1)) .nil)) .nil))))) .nil) .nil) (.cons (.set 3 (.call j_place_in (.cons (.var 0) (.cons (.var 1) .nil)))) (.cons (.ret (.call j_with_part (.cons (.var 0) (.cons (.var 3) (.cons (.call j_stacked (.cons (.ix (.ix (.var 0) (.int 1)) (.var 3)) (.cons (.var 1) (.cons (.var 2) .nil)))) .nil))))) .nil))))⟩
def d_raised (j_place_in j_raised : Nat) : FD := ⟨"raised", ["tree", "number"], ["tree", "number", "at"], [.frz, .frz, .frz], [.frz, .frz], 1, false, false,
  (.cons (.iff (.tcmp .eq (.ix (.var 0) (.int 0)) (.str "pane")) (.cons (.ret (.var 0)) .nil) .nil) (.cons (.set 2 (.call j_place_in (.cons (.var 0) (.cons (.var 1) .nil)))) (.cons (.iff (.tcmp .eq (.ix (.var 0) (.int 0)) (.str "stack")) (.cons (.ret (.tup (.cons (.str "stack") (.cons (.ix (.var 0) (.int 1)) (.cons (.var 2) .nil))))) .nil) .nil) (.cons (.ret (.tup (.cons (.ix (.var 0) (.int 0)) (.cons (.bin .add (.bin .add (.sl (.ix (.var 0) (.int 1)) .hole (.prt (.var 2))) (.tup (.cons (.call j_raised (.cons (.ix (.ix (.var 0) (.int 1)) (.var 2)) (.cons (.var 1) .nil))) .nil))) (.sl (.ix (.var 0) (.int 1)) (.prt (.bin .add (.var 2) (.int 1))) .hole)) (.cons (.ix (.var 0) (.int 2)) .nil))))) .nil))))⟩
def d_W___init__ (j_look_size : Nat) : FD := ⟨"__init__", ["self", "width", "height", "gap"], ["self", "width", "height", "gap"], [.frz, .frz, .frz, .frz], [.frz, .frz, .frz, .frz], 0, false, true,
  (.cons (.expr (.call j_look_size (.cons (.var 1) (.cons (.var 2) (.cons (.var 3) .nil))))) (.cons (.fset 0 "width" (.var 1)) (.cons (.fset 0 "height" (.var 2)) (.cons (.fset 0 "gap" (.var 3)) (.cons (.fset 0 "now" .non) (.cons (.fnew 0 "past") (.cons (.fnew 0 "undone") .nil)))))))⟩
def d_W_look_pane (j_is_within j_has x_NoPane : Nat) : FD := ⟨"look_pane", ["self", "number"], ["self", "number"], [.frz, .frz], [.frz, .frz], 0, false, true,
  (.cons (.iff (.tor (.tnot (.tst (.call j_is_within (.cons (.var 1) (.cons (.int 0) (.cons (.int 99) .nil)))))) (.tor (.tcmp .is (.fld (.var 0) "now") .non) (.tnot (.tst (.call j_has (.cons (.fld (.var 0) "now") (.cons (.var 1) .nil))))))) (.cons (.raise x_NoPane) .nil) .nil) .nil)⟩
def d_W_look_new (j_is_pane x_BadTree j_has x_There : Nat) : FD := ⟨"look_new", ["self", "pane"], ["self", "pane"], [.frz, .frz], [.frz, .frz], 0, false, true,
  (.cons (.iff (.tnot (.tst (.call j_is_pane (.cons (.var 1) .nil)))) (.cons (.raise x_BadTree) .nil) .nil) (.cons (.iff (.tand (.tcmp .isn (.fld (.var 0) "now") .non) (.tst (.call j_has (.cons (.fld (.var 0) "now") (.cons (.ix (.var 1) (.int 1)) .nil))))) (.cons (.raise x_There) .nil) .nil) .nil))⟩
def d_W_look_side (x_BadSide : Nat) : FD := ⟨"look_side", ["self", "side"], ["self", "side"], [.frz, .frz], [.frz, .frz], 0, false, true,
  (.cons (.iff (.tor (.tnot (.tst (.isi .str (.var 1)))) (.tgin true "KINDS" [("left", .s "row"), ("right", .s "row"), ("above", .s "column"), ("below", .s "column")] (.var 1))) (.cons (.raise x_BadSide) .nil) .nil) .nil)⟩
def d_W_turn_to (j_is_tree x_TooMany j_look_room : Nat) : FD := ⟨"turn_to", ["self", "tree"], ["self", "tree"], [.frz, .frz], [.frz, .frz], 0, false, true,
  (.cons (.iff (.tand (.tcmp .isn (.var 1) .non) (.tnot (.tst (.call j_is_tree (.cons (.var 1) .nil))))) (.cons (.raise x_TooMany) .nil) .nil) (.cons (.iff (.tcmp .isn (.var 1) .non) (.cons (.expr (.call j_look_room (.cons (.var 1) (.cons (.fld (.var 0) "width") (.cons (.fld (.var 0) "height") (.cons (.fld (.var 0) "gap") .nil)))))) .nil) .nil) (.cons (.iff (.tcmp .ne (.var 1) (.fld (.var 0) "now")) (.cons (.fapp 0 "past" "now") (.cons (.fnew 0 "undone") (.cons (.fset 0 "now" (.var 1)) .nil))) .nil) .nil)))⟩
def d_W_begin (j_W_look_new x_There j_W_turn_to : Nat) : FD := ⟨"begin", ["self", "pane"], ["self", "pane"], [.frz, .frz], [.frz, .frz], 0, false, true,
  (.cons (.expr (.meth "look_new" j_W_look_new (.var 0) (.cons (.var 1) .nil))) (.cons (.iff (.tcmp .isn (.fld (.var 0) "now") .non) (.cons (.raise x_There) .nil) .nil) (.cons (.expr (.meth "turn_to" j_W_turn_to (.var 0) (.cons (.var 1) .nil))) .nil)))⟩
def d_W_split (j_W_look_pane j_W_look_side j_W_look_new j_W_turn_to j_beside : Nat) : FD := ⟨"split", ["self", "number", "side", "pane"], ["self", "number", "side", "pane"], [.frz, .frz, .frz, .frz], [.frz, .frz, .frz, .frz], 0, false, true,
  (.cons (.expr (.meth "look_pane" j_W_look_pane (.var 0) (.cons (.var 1) .nil))) (.cons (.expr (.meth "look_side" j_W_look_side (.var 0) (.cons (.var 2) .nil))) (.cons (.expr (.meth "look_new" j_W_look_new (.var 0) (.cons (.var 3) .nil))) (.cons (.expr (.meth "turn_to" j_W_turn_to (.var 0) (.cons (.call j_beside (.cons (.fld (.var 0) "now") (.cons (.var 1) (.cons (.var 2) (.cons (.var 3) .nil))))) .nil))) .nil))))⟩
def d_W_stack (j_W_look_pane j_W_look_new j_W_turn_to j_stacked : Nat) : FD := ⟨"stack", ["self", "number", "pane"], ["self", "number", "pane"], [.frz, .frz, .frz], [.frz, .frz, .frz], 0, false, true,
  (.cons (.expr (.meth "look_pane" j_W_look_pane (.var 0) (.cons (.var 1) .nil))) (.cons (.expr (.meth "look_new" j_W_look_new (.var 0) (.cons (.var 2) .nil))) (.cons (.expr (.meth "turn_to" j_W_turn_to (.var 0) (.cons (.call j_stacked (.cons (.fld (.var 0) "now") (.cons (.var 1) (.cons (.var 2) .nil)))) .nil))) .nil)))⟩
def d_W_show (j_W_look_pane j_W_turn_to j_raised : Nat) : FD := ⟨"show", ["self", "number"], ["self", "number"], [.frz, .frz], [.frz, .frz], 0, false, true,
  (.cons (.expr (.meth "look_pane" j_W_look_pane (.var 0) (.cons (.var 1) .nil))) (.cons (.expr (.meth "turn_to" j_W_turn_to (.var 0) (.cons (.call j_raised (.cons (.fld (.var 0) "now") (.cons (.var 1) .nil))) .nil))) .nil))⟩
def d_W_screen (j_look_size j_look_room : Nat) : FD := ⟨"screen", ["self", "width", "height"], ["self", "width", "height"], [.frz, .frz, .frz], [.frz, .frz, .frz], 0, false, true,
  (.cons (.expr (.call j_look_size (.cons (.var 1) (.cons (.var 2) (.cons (.fld (.var 0) "gap") .nil))))) (.cons (.iff (.tcmp .isn (.fld (.var 0) "now") .non) (.cons (.expr (.call j_look_room (.cons (.fld (.var 0) "now") (.cons (.var 1) (.cons (.var 2) (.cons (.fld (.var 0) "gap") .nil)))))) .nil) .nil) (.cons (.fset 0 "width" (.var 1)) (.cons (.fset 0 "height" (.var 2)) .nil))))⟩
def d_W_tree : FD := ⟨"tree", ["self"], ["self"], [.frz], [.frz], 1, false, true,
  (.cons (.ret (.fld (.var 0) "now")) .nil)⟩
def d_W_places (j_places_of : Nat) : FD := ⟨"places", ["self"], ["self"], [.frz], [.frz], 0, false, true,
  (.cons (.iff (.tcmp .is (.fld (.var 0) "now") .non) (.cons (.ret (.lst .nil)) .nil) .nil) (.cons (.ret (.call j_places_of (.cons (.fld (.var 0) "now") (.cons (.tup (.cons (.int 0) (.cons (.int 0) (.cons (.fld (.var 0) "width") (.cons (.fld (.var 0) "height") .nil))))) (.cons (.fld (.var 0) "gap") (.cons (.bl true) .nil)))))) .nil))⟩
end PF
namespace PF
open PySem L2
def d_W_pane (j_W_look_pane j_panes_of : Nat) : FD := ⟨"pane", ["self", "number"], ["self", "number", "one"], [.frz, .frz, .frz], [.frz, .frz], 1, false, true,
  (.cons (.expr (.meth "look_pane" j_W_look_pane (.var 0) (.cons (.var 1) .nil))) (.cons (.ret (.ix (.comp (.iseq (.call j_panes_of (.cons (.fld (.var 0) "now") .nil))) (.nm 2) (.tcmp .eq (.ix (.var 2) (.int 1)) (.var 1)) (.var 2) [2]) (.int 0))) .nil))⟩
def d_W_place (j_W_look_pane j_W_places : Nat) : FD := ⟨"place", ["self", "number"], ["self", "number", "one"], [.frz, .frz, .frz], [.frz, .frz], 1, false, true,
  (.cons (.expr (.meth "look_pane" j_W_look_pane (.var 0) (.cons (.var 1) .nil))) (.cons (.ret (.ix (.comp (.iseq (.meth0 "places" j_W_places (.var 0))) (.nm 2) (.tcmp .eq (.ix (.var 2) (.int 0)) (.var 1)) (.sl (.var 2) (.prt (.int 1)) .hole) [2]) (.int 0))) .nil))⟩
def d_W_shown (j_W_places : Nat) : FD := ⟨"shown", ["self"], ["self", "one"], [.frz, .frz], [.frz], 0, false, true,
  (.cons (.ret (.comp (.iseq (.meth0 "places" j_W_places (.var 0))) (.nm 1) (.tst (.ix (.var 1) (.int 5))) (.ix (.var 1) (.int 0)) [1])) .nil)⟩
def d_W_at (j_is_within x_BadSize j_W_places : Nat) : FD := ⟨"at", ["self", "across", "down"], ["self", "across", "down", "number", "left", "top", "width", "height", "is_shown"], [.frz, .frz, .frz, .frz, .frz, .frz, .frz, .frz, .frz], [.frz, .frz, .frz], 1, false, true,
  (.cons (.iff (.tor (.tnot (.tst (.call j_is_within (.cons (.var 1) (.cons (.int 0) (.cons (.bin .sub (.fld (.var 0) "width") (.int 1)) .nil)))))) (.tnot (.tst (.call j_is_within (.cons (.var 2) (.cons (.int 0) (.cons (.bin .sub (.fld (.var 0) "height") (.int 1)) .nil))))))) (.cons (.raise x_BadSize) .nil) .nil) (.cons (.for (.iseq (.meth0 "places" j_W_places (.var 0))) (.tp [3, 4, 5, 6, 7, 8]) (.cons (.iff (.tand (.tst (.var 8)) (.tand (.tchn .le .lt (.var 4) (.var 1) (.bin .add (.var 4) (.var 6))) (.tchn .le .lt (.var 5) (.var 2) (.bin .add (.var 5) (.var 7))))) (.cons (.ret (.var 3)) .nil) .nil) .nil)) (.cons (.ret .non) .nil)))⟩
def d_W_neighbour (j_W_look_pane j_W_look_side j_W_place j_W_places j_touching : Nat) : FD := ⟨"neighbour", ["self", "number", "side"], ["self", "number", "side", "mine", "found", "most", "one", "border"], [.frz, .frz, .frz, .frz, .frz, .frz, .frz, .frz], [.frz, .frz, .frz], 1, false, true,
  (.cons (.expr (.meth "look_pane" j_W_look_pane (.var 0) (.cons (.var 1) .nil))) (.cons (.expr (.meth "look_side" j_W_look_side (.var 0) (.cons (.var 2) .nil))) (.cons (.set 3 (.meth "place" j_W_place (.var 0) (.cons (.var 1) .nil))) (.cons (.set 4 .non) (.cons (.set 5 (.int 0)) (.cons (.for (.iseq (.meth0 "places" j_W_places (.var 0))) (.nm 6) (.cons (.iff (.tand (.tst (.ix (.var 6) (.int 5))) (.tcmp .ne (.ix (.var 6) (.int 0)) (.var 1))) (.cons (.set 7 (.call j_touching (.cons (.var 3) (.cons (.sl (.var 6) (.prt (.int 1)) .hole) (.cons (.var 2) (.cons (.fld (.var 0) "gap") .nil)))))) (.cons (.iff (.tcmp .gt (.var 7) (.var 5)) (.cons (.set 5 (.var 7)) (.cons (.set 4 (.ix (.var 6) (.int 0))) .nil)) .nil) .nil)) .nil) .nil)) (.cons (.ret (.var 4)) .nil)))))))⟩
def d_touching : FD := ⟨"touching", ["mine", "theirs", "side", "gap"], ["mine", "theirs", "side", "gap", "axis", "low", "high", "other", "begin", "end"], [.frz, .frz, .frz, .frz, .frz, .frz, .frz, .frz, .frz, .frz], [.frz, .frz, .frz, .frz], 0, false, false,
  (.cons (.set 4 (.bi .int (.cons (.cmp .eq (.gix "KINDS" [("left", .s "row"), ("right", .s "row"), ("above", .s "column"), ("below", .s "column")] (.var 2)) (.str "column")) .nil))) (.cons (.unp (.tp [5, 6]) (.ife (.tcmp .inn (.var 2) (.tup (.cons (.str "left") (.cons (.str "above") .nil)))) (.tup (.cons (.var 1) (.cons (.var 0) .nil))) (.tup (.cons (.var 0) (.cons (.var 1) .nil))))) (.cons (.iff (.tcmp .ne (.bin .add (.bin .add (.ix (.var 5) (.var 4)) (.ix (.var 5) (.bin .add (.int 2) (.var 4)))) (.var 3)) (.ix (.var 6) (.var 4))) (.cons (.ret (.int 0)) .nil) .nil) (.cons (.set 7 (.bin .sub (.int 1) (.var 4))) (.cons (.set 8 (.bi .max (.cons (.ix (.var 0) (.var 7)) (.cons (.ix (.var 1) (.var 7)) .nil)))) (.cons (.set 9 (.bi .min (.cons (.bin .add (.ix (.var 0) (.var 7)) (.ix (.var 0) (.bin .add (.int 2) (.var 7)))) (.cons (.bin .add (.ix (.var 1) (.var 7)) (.ix (.var 1) (.bin .add (.int 2) (.var 7)))) .nil)))) (.cons (.ret (.bi .max (.cons (.int 0) (.cons (.bin .sub (.var 9) (.var 8)) .nil)))) .nil)))))))⟩
end PF
namespace PF
open PySem L2
def d_unstacked (j_place_in : Nat) : FD := ⟨"unstacked", ["tree", "number"], ["tree", "number", "at", "left"], [.frz, .frz, .frz, .frz], [.frz, .frz], 1, false, false,
  (.cons (.set 2 (.call j_place_in (.cons (.var 0) (.cons (.var 1) .nil)))) (.cons (.set 3 (.bin .add (.sl (.ix (.var 0) (.int 1)) .hole (.prt (.var 2))) (.sl (.ix (.var 0) (.int 1)) (.prt (.bin .add (.var 2) (.int 1))) .hole))) (.cons (.iff (.tcmp .eq (.bi .len (.cons (.var 3) .nil)) (.int 1)) (.cons (.ret (.ix (.var 3) (.int 0))) .nil) .nil) (.cons (.ret (.tup (.cons (.str "stack") (.cons (.var 3) (.cons (.bi .min (.cons (.bin .sub (.ix (.var 0) (.int 2)) (.bi .int (.cons (.cmp .lt (.var 2) (.ix (.var 0) (.int 2))) .nil))) (.cons (.bin .sub (.bi .len (.cons (.var 3) .nil)) (.int 1)) .nil))) .nil))))) .nil))))⟩
def d_without (j_unstacked j_place_in j_without j_with_part j_framed : Nat) : FD := ⟨"without", ["tree", "number"], ["tree", "number", "at", "part"], [.frz, .frz, .frz, .frz], [.frz, .frz], 1, false, false,
  (.cons (.iff (.tcmp .eq (.ix (.var 0) (.int 0)) (.str "pane")) (.cons (.ret .non) .nil) .nil) (.cons (.iff (.tcmp .eq (.ix (.var 0) (.int 0)) (.str "stack")) (.cons (.ret (.call j_unstacked (.cons (.var 0) (.cons (.var 1) .nil)))) .nil) .nil) (.cons (.set 2 (.call j_place_in (.cons (.var 0) (.cons (.var 1) .nil)))) (.cons (.set 3 (.call j_without (.cons (.ix (.ix (.var 0) (.int 1)) (.var 2)) (.cons (.var 1) .nil)))) (.cons (.iff (.tcmp .isn (.var 3) .non) (.cons (.ret (.call j_with_part (.cons (.var 0) (.cons (.var 2) (.cons (.var 3) .nil))))) .nil) .nil) (.cons (.ret (.call j_framed (.cons (.ix (.var 0) (.int 0)) (.cons (.bin .add (.sl (.ix (.var 0) (.int 1)) .hole (.prt (.var 2))) (.sl (.ix (.var 0) (.int 1)) (.prt (.bin .add (.var 2) (.int 1))) .hole)) (.cons (.bin .add (.sl (.ix (.var 0) (.int 2)) .hole (.prt (.var 2))) (.sl (.ix (.var 0) (.int 2)) (.prt (.bin .add (.var 2) (.int 1))) .hole)) .nil))))) .nil))))))⟩
def d_W_close (j_W_look_pane j_W_turn_to j_without : Nat) : FD := ⟨"close", ["self", "number"], ["self", "number"], [.frz, .frz], [.frz, .frz], 0, false, true,
  (.cons (.expr (.meth "look_pane" j_W_look_pane (.var 0) (.cons (.var 1) .nil))) (.cons (.expr (.meth "turn_to" j_W_turn_to (.var 0) (.cons (.call j_without (.cons (.fld (.var 0) "now") (.cons (.var 1) .nil))) .nil))) .nil))⟩
end PF
namespace PF
open PySem L2
def d__wall : FD := ⟨"_wall", ["k"], ["k"], [.frz], [.frz], 0, false, false,
  (.cons (.whl 100 (.tst (.bl true)) (.cons .pass .nil)) .nil)⟩
def d_W_swap_w (j__wall : Nat) : FD := ⟨"swap", ["self", "one", "other"], ["self", "one", "other"], [.frz, .frz, .frz], [.frz, .frz, .frz], 0, false, true,
  (.cons (.expr (.call j__wall (.cons (.int 0) .nil))) .nil)⟩
def d_W_move_w (j__wall : Nat) : FD := ⟨"move", ["self", "number", "goal", "side"], ["self", "number", "goal", "side"], [.frz, .frz, .frz, .frz], [.frz, .frz, .frz, .frz], 0, false, true,
  (.cons (.expr (.call j__wall (.cons (.int 1) .nil))) .nil)⟩
def d_W_push_w (j__wall : Nat) : FD := ⟨"push", ["self", "number", "kind", "by"], ["self", "number", "kind", "by"], [.frz, .frz, .frz, .frz], [.frz, .frz, .frz, .frz], 0, false, true,
  (.cons (.expr (.call j__wall (.cons (.int 2) .nil))) .nil)⟩
def d_W_fits_w (j__wall : Nat) : FD := ⟨"fits", ["self", "tree"], ["self", "tree"], [.frz, .frz], [.frz, .frz], 0, false, true,
  (.cons (.expr (.call j__wall (.cons (.int 3) .nil))) .nil)⟩
def d_W_undo_w (j__wall : Nat) : FD := ⟨"undo", ["self"], ["self"], [.frz], [.frz], 0, false, true,
  (.cons (.expr (.call j__wall (.cons (.int 4) .nil))) .nil)⟩
def d_W_redo_w (j__wall : Nat) : FD := ⟨"redo", ["self"], ["self"], [.frz], [.frz], 0, false, true,
  (.cons (.expr (.call j__wall (.cons (.int 5) .nil))) .nil)⟩
def d_law (j_W___init__ j_W_begin j_W_split j__law_cell j__law_seed j_W_stack j_W_show j_W_close j_panes j_W_tree j_W_shown j_W_place j_W_at j_W_neighbour : Nat) : FD := ⟨"law", ["script"], ["script", "wall", "row", "top", "after", "k", "seed", "at", "boxes", "number"], [.frz, .frz, .frz, .frz, .frz, .frz, .frz, .frz, .frz, .frz], [.frz], 0, false, false,
  (.cons (.set 1 (.make j_W___init__ (.cons (.int 300) (.cons (.int 200) (.cons (.int 2) .nil))))) (.cons (.expr (.meth "begin" j_W_begin (.var 1) (.cons (.tup (.cons (.str "pane") (.cons (.int 0) (.cons (.int 1) (.cons (.int 1) .nil))))) .nil))) (.cons (.expr (.meth "split" j_W_split (.var 1) (.cons (.int 0) (.cons (.str "right") (.cons (.tup (.cons (.str "pane") (.cons (.int 99) (.cons (.int 2) (.cons (.int 2) .nil))))) .nil))))) (.cons (.set 2 (.lst (.cons (.int 0) .nil))) (.cons (.set 3 (.int 0)) (.cons (.set 4 (.int 1)) (.cons (.for (.irng1 (.cons (.bin .mod (.call j__law_cell (.cons (.var 0) (.cons (.int 0) .nil))) (.int 90)) .nil)) (.nm 5) (.cons (.set 6 (.call j__law_seed (.cons (.bin .add (.call j__law_cell (.cons (.var 0) (.cons (.bin .add (.int 1) (.bin .mod (.var 5) (.int 5))) .nil))) (.bin .mul (.int 41) (.var 5))) (.cons (.var 5) .nil)))) (.cons (.set 7 (.bin .mod (.bin .div (.var 6) (.int 7)) (.bi .len (.cons (.var 2) .nil)))) (.cons (.iff (.tand (.tcmp .eq (.bin .mod (.bin .div (.var 6) (.int 11)) (.int 3)) (.int 0)) (.tand (.tcmp .lt (.bi .len (.cons (.var 2) .nil)) (.int 6)) (.tcmp .lt (.var 4) (.int 99)))) (.cons (.expr (.meth "stack" j_W_stack (.var 1) (.cons (.ix (.var 2) (.var 7)) (.cons (.tup (.cons (.str "pane") (.cons (.var 4) (.cons (.bin .add (.int 1) (.bin .mod (.bin .div (.var 6) (.int 13)) (.int 9))) (.cons (.bin .add (.int 1) (.bin .mod (.bin .div (.var 6) (.int 17)) (.int 9))) .nil))))) .nil)))) (.cons (.set 2 (.bin .add (.var 2) (.lst (.cons (.var 4) .nil)))) (.cons (.set 3 (.bin .sub (.bi .len (.cons (.var 2) .nil)) (.int 1))) (.cons (.aug false 4 (.int 1)) .nil)))) (.cons (.iff (.tcmp .eq (.bin .mod (.bin .div (.var 6) (.int 11)) (.int 3)) (.int 1)) (.cons (.expr (.meth "show" j_W_show (.var 1) (.cons (.ix (.var 2) (.var 7)) .nil))) (.cons (.set 3 (.var 7)) .nil)) (.cons (.iff (.tcmp .gt (.bi .len (.cons (.var 2) .nil)) (.int 1)) (.cons (.expr (.meth "close" j_W_close (.var 1) (.cons (.ix (.var 2) (.var 7)) .nil))) (.cons (.set 2 (.bin .add (.sl (.var 2) .hole (.prt (.var 7))) (.sl (.var 2) (.prt (.bin .add (.var 7) (.int 1))) .hole))) (.cons (.set 3 (.ife (.tcmp .lt (.var 7) (.var 3)) (.bin .sub (.var 3) (.int 1)) (.bi .min (.cons (.var 3) (.cons (.bin .sub (.bi .len (.cons (.var 2) .nil)) (.int 1)) .nil))))) .nil))) .nil) .nil)) .nil)) (.cons (.iff (.tor (.tcmp .ne (.call j_panes (.cons (.meth0 "tree" j_W_tree (.var 1)) .nil)) (.bin .add (.var 2) (.lst (.cons (.int 99) .nil)))) (.tcmp .ne (.meth0 "shown" j_W_shown (.var 1)) (.lst (.cons (.ix (.var 2) (.var 3)) (.cons (.int 99) .nil))))) (.cons (.ret (.bl false)) .nil) .nil) (.cons (.setc 8 (.iseq (.var 2)) (.nm 9) .hole (.sl (.meth "place" j_W_place (.var 1) (.cons (.var 9) .nil)) .hole (.prt (.int 4))) [9]) (.cons (.iff (.tor (.tcmp .ne (.var 8) (.bin .mul (.lst (.cons (.ix (.var 8) (.int 0)) .nil)) (.bi .len (.cons (.var 2) .nil)))) (.tcmp .ne (.cntB (.comp (.iseq (.var 2)) (.nm 9) .hole (.ix (.meth "place" j_W_place (.var 1) (.cons (.var 9) .nil)) (.int 4)) [9]) (.bl true)) (.int 1))) (.cons (.ret (.bl false)) .nil) .nil) (.cons (.iff (.tor (.tcmp .isn (.ix (.meth "place" j_W_place (.var 1) (.cons (.ix (.var 2) (.var 3)) .nil)) (.int 4)) (.bl true)) (.tcmp .ne (.meth "at" j_W_at (.var 1) (.cons (.ix (.ix (.var 8) (.int 0)) (.int 0)) (.cons (.ix (.ix (.var 8) (.int 0)) (.int 1)) .nil))) (.ix (.var 2) (.var 3)))) (.cons (.ret (.bl false)) .nil) .nil) .nil)))))))) (.cons (.ret (.and (.cmp .eq (.meth "neighbour" j_W_neighbour (.var 1) (.cons (.int 99) (.cons (.str "left") .nil))) (.ix (.var 2) (.var 3))) (.cmp .eq (.meth "neighbour" j_W_neighbour (.var 1) (.cons (.ix (.var 2) (.int 0)) (.cons (.str "right") .nil))) (.int 99)))) .nil))))))))⟩
end PF
namespace PF
open PySem L2
def fdsL : List FD := [d__wall, d_is_within, (d_is_pane 1), (d_is_stack 2 1), (d_is_made 2 3 1 4), (d_panes_of 5), (d_is_tree 4 5), (d_look 6 1), (d_panes 7 5), (d_has 5), d_reduced, (d_framed 10), (d_least_of 12), d_held_least, (d_shared_of 13), (d_look_size 1 2), (d_look_room 12 3), (d_sizes_in 12 14), (d_places_of 18 17), (d_place_in 9), d_is_frame, (d_with_part 11), (d_beside 20 11 19 21 22), (d_stacked 19 21 23), (d_unstacked 19), (d_without 24 19 25 21 11), (d_raised 19 26), (d_W___init__ 15), (d_W_look_pane 1 9 5), (d_W_look_new 2 1 9 6), (d_W_look_side 4), (d_W_turn_to 6 7 16), (d_W_begin 29 6 31), (d_W_split 28 30 29 31 22), (d_W_stack 28 29 31 23), (d_W_close 28 31 25), (d_W_pane 28 5), (d_W_swap_w 0), (d_W_move_w 0), (d_W_show 28 31 26), (d_W_push_w 0), (d_W_screen 15 16), (d_W_fits_w 0), (d_W_undo_w 0), (d_W_redo_w 0), d_W_tree, (d_W_places 18), (d_W_place 28 46), (d_W_shown 46), (d_W_at 1 2 46), (d_W_neighbour 28 30 47 46 51), d_touching, d__law_cell, d__law_seed, (d_law 27 32 33 52 53 34 39 35 8 45 48 47 49 50)]
def top (i : Nat) : Stmt := PySem.Challenge.pw_paneframe_k08_stacks.main.body.getD i (.Pass ⟨0, 0, 0, 0⟩)
def csL : Cs := ⟨[("MOST_PARTS", 6), ("MOST_PANES", 12), ("MOST_DEEP", 6), ("MOST_NUMBER", 99), ("MOST_SHARE", 1000000000000000000000000000000), ("MOST_SIZE", 2000), ("MOST_GAP", 9)], ["PaneError", "BadTree", "BadSize", "TooSmall", "BadSide", "NoPane", "There", "TooMany"], [], [("OTHER", [("row", .s "column"), ("column", .s "row")]), ("KINDS", [("left", .s "row"), ("right", .s "row"), ("above", .s "column"), ("below", .s "column")])], ["width", "height", "gap", "now", "past", "undone"], "Wall"⟩
def lawD : LawD := ⟨fdsL, [top 0, top 17, top 18, top 19, top 20, top 21, top 22, top 23, top 24, top 25, top 26, top 27, top 31, top 32, top 33, top 34, top 35, top 36, top 37, top 40, top 41, top 42, top 43, top 44, top 45, top 46, top 47, clsAt (top 49) 0, clsAt (top 49) 1, clsAt (top 49) 2, clsAt (top 49) 3, clsAt (top 49) 4, clsAt (top 49) 5, clsAt (top 49) 6, clsAt (top 49) 7, clsAt (top 49) 8, clsAt (top 49) 9, clsAt (top 49) 10, clsAt (top 49) 11, clsAt (top 49) 12, clsAt (top 49) 13, clsAt (top 49) 14, clsAt (top 49) 15, clsAt (top 49) 16, clsAt (top 49) 17, clsAt (top 49) 18, clsAt (top 49) 19, clsAt (top 49) 20, clsAt (top 49) 21, clsAt (top 49) 22, clsAt (top 49) 23, top 50, top 52, top 53, top 54], csL, [[true, false, false, false, false, false, false, false], [true, true, false, false, false, false, false, false], [true, false, true, false, false, false, false, false], [true, false, false, true, false, false, false, false], [true, false, false, false, true, false, false, false], [true, false, false, false, false, true, false, false], [true, false, false, false, false, false, true, false], [true, false, false, false, false, false, false, true]], ["shared_of"], 54⟩
theorem lawD_ok : lawD.ok = true := by decide +kernel
abbrev hk : PySem.W.Hook := He.hookX 4 lawD.fa lawD.fn lawD.ts lawD.tf lawD.ex
def ob (s : PySem.W.SharedT) : He.AlX := He.obsX 4 lawD.fa lawD.fn lawD.ts lawD.tf lawD.ex (HandSHeadRun.getT s)
theorem ob_eq (s : PySem.W.SharedT) : ob s = hk.obs s.abs := He.obsX_eq (HandSHeadRun.getT_eq s)
abbrev Rw : PySem.W.OpenRow := PySem.W.OpenLaw.row PySem.Challenge.rw_paneframe_k08_stacks
abbrev looseL : List Str := [("_wall" : Str), ("PaneError" : Str), ("BadTree" : Str), ("BadSize" : Str), ("TooSmall" : Str), ("BadSide" : Str), ("NoPane" : Str), ("There" : Str), ("TooMany" : Str), ("MOST_PARTS" : Str), ("MOST_PANES" : Str), ("MOST_DEEP" : Str), ("MOST_NUMBER" : Str), ("MOST_SHARE" : Str), ("OTHER" : Str), ("is_within" : Str), ("is_pane" : Str), ("is_stack" : Str), ("is_made" : Str), ("panes_of" : Str), ("is_tree" : Str), ("look" : Str), ("panes" : Str), ("has" : Str), ("reduced" : Str), ("framed" : Str), ("MOST_SIZE" : Str), ("MOST_GAP" : Str), ("least_of" : Str), ("held_least" : Str), ("shared_of" : Str), ("look_size" : Str), ("look_room" : Str), ("sizes_in" : Str), ("places_of" : Str), ("KINDS" : Str), ("place_in" : Str), ("is_frame" : Str), ("with_part" : Str), ("beside" : Str), ("stacked" : Str), ("unstacked" : Str), ("without" : Str), ("raised" : Str), ("Wall" : Str), ("touching" : Str), ("_law_cell" : Str), ("_law_seed" : Str)]
theorem head_f (w : World) : HandSHeadRun.RunEq Rw (PySem.W.view Rw.prog [54]) hk ob 15000 looseL (w.withFollow "special-get-raises" false) := by intro os; kernel_rfl
theorem head_t (w : World) : HandSHeadRun.RunEq Rw (PySem.W.view Rw.prog [54]) hk ob 15000 looseL (w.withFollow "special-get-raises" true) := by intro os; kernel_rfl
theorem head_run (w : World) : HandSHeadRun.RunEq Rw (PySem.W.view Rw.prog [54]) hk ob 15000 looseL w :=
  PySem.W.byRow2 "special-get-raises" (P := fun w => HandSHeadRun.RunEq Rw (PySem.W.view Rw.prog [54]) hk ob 15000 looseL w) head_f head_t w
end PF
namespace PF
open PySem L2
/-! ### running the small language: one lemma a form -/
section
variable {α β : Type} {m m' m1 m2 m3 : Store} {rho r : En}
theorem bnd_ok {x : M α} {f : α → M β} {a : α} (h : x m = .ok a m') : bnd x f m = f a m' := by
  unfold bnd
  rw [h]
theorem exS_ok {x : M α} {k : α → Store → Rs} {a : α} (h : x m = .ok a m') : exS x rho k m = k a m' := by
  unfold exS
  rw [h]
theorem lift_ok {o : Option α} {a : α} (h : o = some a) : lift o m = .ok a m := by
  rw [h]
  rfl
theorem noX_ok {x : M α} {a : α} (h : x m = .ok a m') : noX x m = .ok a m' := by
  unfold noX
  rw [h]
theorem call_ok {nv : Nat} {F : SM} {ds : List D} {d : D} (h : F (ds.map some ++ List.replicate (nv - ds.length) none) m = .rt d m') : callF nv F ds m = .ok d m' := by
  unfold callF
  rw [h]
theorem call_nx {nv : Nat} {F : SM} {ds : List D} (h : F (ds.map some ++ List.replicate (nv - ds.length) none) m = .nx r m') : callF nv F ds m = .ok .non m' := by
  unfold callF
  rw [h]
end
section
variable {exm : Nat → Nat → Bool} {cl : Nat → List D → M D} {m m' m1 m2 m3 : Store} {rho r : En} {a b c as : I} {x y z d : D} {ds : List D} {k k1 k2 : Bool} {res : Rs} {i j n : Nat}
/-! expressions -/
theorem v_var (h : rho[i]? = some (some d)) : (den exm cl (.var i)).v rho m = .ok d m := by
  show lift (rho[i]?).join m = _
  rw [h]
  rfl
theorem v_int {n : Int} : (den exm cl (.int n)).v rho m = .ok (.int n) m := rfl
theorem v_bl {n : Bool} : (den exm cl (.bl n)).v rho m = .ok (.bl n) m := rfl
theorem v_str {n : Str} : (den exm cl (.str n)).v rho m = .ok (.str n) m := rfl
theorem v_non : (den exm cl .non).v rho m = .ok .non m := rfl
theorem v_gint {x : Str} {n : Int} : (den exm cl (.gint x n)).v rho m = .ok (.int n) m := rfl
theorem v_gstr {x n : Str} : (den exm cl (.gstr x n)).v rho m = .ok (.str n) m := rfl
theorem e2_ok {sem : D → D → Option D} {fa fb : En → M D} (ha : fa rho m = .ok x m1) (hb : fb rho m1 = .ok y m2) (h : sem x y = some d) : ev2 sem fa fb rho m = .ok d m2 := by
  unfold ev2
  rw [bnd_ok ha, bnd_ok hb, h]
  rfl
theorem e1_ok {sem : D → Option D} {fa : En → M D} (ha : fa rho m = .ok x m1) (h : sem x = some d) : ev1 sem fa rho m = .ok d m1 := by
  unfold ev1
  rw [bnd_ok ha, h]
  rfl
theorem v_bin {o : Bop} (ha : (den exm cl a).v rho m = .ok x m1) (hb : (den exm cl b).v rho m1 = .ok y m2) (h : o.sem x y = some d) : (den exm cl (.bin o a b)).v rho m = .ok d m2 := e2_ok ha hb h
theorem v_cmp {o : Cop} (ha : (den exm cl a).v rho m = .ok x m1) (hb : (den exm cl b).v rho m1 = .ok y m2) (h : o.sem x y = some d) : (den exm cl (.cmp o a b)).v rho m = .ok d m2 := e2_ok ha hb h
theorem v_ix (ha : (den exm cl a).v rho m = .ok x m1) (hb : (den exm cl b).v rho m1 = .ok y m2) (h : ixD x y = some d) : (den exm cl (.ix a b)).v rho m = .ok d m2 := e2_ok ha hb h
theorem v_neg (ha : (den exm cl a).v rho m = .ok x m1) (h : negD x = some d) : (den exm cl (.neg a)).v rho m = .ok d m1 := e1_ok ha h
theorem v_isi {t : Ty} (ha : (den exm cl a).v rho m = .ok x m1) (h : isiD t x = some d) : (den exm cl (.isi t a)).v rho m = .ok d m1 := e1_ok ha h
theorem v_lset (ha : (den exm cl a).v rho m = .ok x m1) (h : lsetD x = some d) : (den exm cl (.lset a)).v rho m = .ok d m1 := e1_ok ha h
theorem v_gix {g : Str} {t : List (Str × Lt)} (ha : (den exm cl a).v rho m = .ok x m1) (h : gixD t x = some d) : (den exm cl (.gix g t a)).v rho m = .ok d m1 := e1_ok ha h
theorem v_cntB (ha : (den exm cl a).v rho m = .ok x m1) (hx : isLst x = true) (hb : (den exm cl b).v rho m1 = .ok y m2) (h : countD x y = some d) : (den exm cl (.cntB a b)).v rho m = .ok d m2 := by
  show bnd _ _ m = _
  rw [bnd_ok ha, bnd_ok (lift_ok (if_pos hx)), bnd_ok hb]
  exact lift_ok h
theorem v_not (ha : (den exm cl a).v rho m = .ok x m1) (h : truthD x = some k) : (den exm cl (.not a)).v rho m = .ok (.bl (!k)) m1 := by
  show bnd _ _ m = _
  rw [bnd_ok ha, bnd_ok (show truthM x m1 = .ok k m1 from lift_ok h)]
  rfl
theorem v_andT (ha : (den exm cl a).v rho m = .ok (.bl k) m1) (hk : k = true) (hb : (den exm cl b).v rho m1 = .ok d m2) : (den exm cl (.and a b)).v rho m = .ok d m2 := by
  subst hk
  show bnd _ _ m = _
  rw [bnd_ok ha]
  exact hb
theorem v_andF (ha : (den exm cl a).v rho m = .ok (.bl k) m1) (hk : k = false) : (den exm cl (.and a b)).v rho m = .ok (.bl false) m1 := by
  subst hk
  show bnd _ _ m = _
  rw [bnd_ok ha]
  rfl
theorem v_orT (ha : (den exm cl a).v rho m = .ok (.bl k) m1) (hk : k = true) : (den exm cl (.or a b)).v rho m = .ok (.bl true) m1 := by
  subst hk
  show bnd _ _ m = _
  rw [bnd_ok ha]
  rfl
theorem v_orF (ha : (den exm cl a).v rho m = .ok (.bl k) m1) (hk : k = false) (hb : (den exm cl b).v rho m1 = .ok d m2) : (den exm cl (.or a b)).v rho m = .ok d m2 := by
  subst hk
  show bnd _ _ m = _
  rw [bnd_ok ha]
  exact hb
/-- both parts are read, without a change -/
theorem v_and (ha : (den exm cl a).v rho m = .ok (.bl k1) m) (hb : k1 = true → (den exm cl b).v rho m = .ok (.bl k2) m) : (den exm cl (.and a b)).v rho m = .ok (.bl (k1 && k2)) m := by
  cases k1 with
  | true => exact v_andT ha rfl (hb rfl)
  | false => exact v_andF ha rfl
theorem v_or (ha : (den exm cl a).v rho m = .ok (.bl k1) m) (hb : k1 = false → (den exm cl b).v rho m = .ok (.bl k2) m) : (den exm cl (.or a b)).v rho m = .ok (.bl (k1 || k2)) m := by
  cases k1 with
  | false => exact v_orF ha rfl (hb rfl)
  | true => exact v_orT ha rfl
theorem v_chain {o p : Cop} (ha : (den exm cl a).v rho m = .ok x m) (hb : (den exm cl b).v rho m = .ok y m) (h1 : o.sem x y = some (.bl k1)) (hc : (den exm cl c).v rho m = .ok z m) (h2 : p.sem y z = some (.bl k2)) : (den exm cl (.chain o p a b c)).v rho m = .ok (.bl (k1 && k2)) m := by
  show bnd _ _ m = _
  rw [bnd_ok ha, bnd_ok hb, bnd_ok (lift_ok h1), bnd_ok (show lift (asB (D.bl k1)) m = .ok k1 m from rfl)]
  cases k1 with
  | true =>
    rw [if_pos rfl, bnd_ok hc]
    exact lift_ok h2
  | false => rfl
theorem v_ifT (ha : (den exm cl c).b rho m = .ok k m1) (hk : k = true) (hb : (den exm cl a).v rho m1 = .ok d m2) : (den exm cl (.ife c a b)).v rho m = .ok d m2 := by
  subst hk
  show bnd _ _ m = _
  rw [bnd_ok ha]
  exact hb
theorem v_ifF (ha : (den exm cl c).b rho m = .ok k m1) (hk : k = false) (hb : (den exm cl b).v rho m1 = .ok d m2) : (den exm cl (.ife c a b)).v rho m = .ok d m2 := by
  subst hk
  show bnd _ _ m = _
  rw [bnd_ok ha]
  exact hb
theorem l_nil : (den exm cl .nil).l rho m = .ok [] m := rfl
theorem l_cons (ha : (den exm cl a).v rho m = .ok d m1) (hb : (den exm cl as).l rho m1 = .ok ds m2) : (den exm cl (.cons a as)).l rho m = .ok (d :: ds) m2 := by
  show bnd _ _ m = _
  rw [bnd_ok ha, bnd_ok hb]
  rfl
theorem v_tup (h : (den exm cl as).l rho m = .ok ds m1) (hl : ds.length ≤ sizeLine) : (den exm cl (.tup as)).v rho m = .ok (.tup ds) m1 := by
  show bnd _ _ m = _
  rw [bnd_ok h]
  exact lift_ok (if_pos hl)
theorem v_lst (h : (den exm cl as).l rho m = .ok ds m1) (hl : ds.length ≤ sizeLine) : (den exm cl (.lst as)).v rho m = .ok (.lst ds) m1 := by
  show bnd _ _ m = _
  rw [bnd_ok h]
  exact lift_ok (if_pos hl)
theorem v_call (h : (den exm cl as).l rho m = .ok ds m1) (hc : cl j ds m1 = .ok d m2) : (den exm cl (.call j as)).v rho m = .ok d m2 := by
  show bnd _ _ m = _
  rw [bnd_ok h, hc]
theorem v_bi {o : Bi} (h : (den exm cl as).l rho m = .ok ds m1) (hc : o.sem ds = some d) : (den exm cl (.bi o as)).v rho m = .ok d m1 := by
  show bnd _ _ m = _
  rw [bnd_ok h]
  exact lift_ok hc
theorem o_hole : (den exm cl .hole).o rho m = .ok none m := rfl
theorem o_prt {n : Int} (h : (den exm cl a).v rho m = .ok (.int n) m1) : (den exm cl (.prt a)).o rho m = .ok (some n) m1 := by
  show bnd _ _ m = _
  rw [bnd_ok h]
  rfl
theorem v_sl {lo hi : Option Int} (ha : (den exm cl a).v rho m = .ok x m1) (hb : (den exm cl b).o rho m1 = .ok lo m2) (hc : (den exm cl c).o rho m2 = .ok hi m3) (h : slD x lo hi = some d) : (den exm cl (.sl a b c)).v rho m = .ok d m3 := by
  show bnd _ _ m = _
  rw [bnd_ok ha, bnd_ok hb, bnd_ok hc]
  exact lift_ok h
theorem p_nil : (den exm cl .nil).p rho m = .ok [] m := rfl
theorem v_fld {f : Str} (h : (den exm cl a).v rho m = .ok (.obj n) m1) (hf : obGet m1 n f = some d) (hl : isLst d = false) : (den exm cl (.fld a f)).v rho m = .ok d m1 := by
  show bnd _ _ m = _
  rw [bnd_ok h]
  show (match obGet m1 n f with
    | some d => if isLst d = true then R.bad else R.ok d m1
    | none => R.bad) = _
  rw [hf]
  show (if isLst d = true then R.bad else R.ok d m1) = _
  rw [hl]
  rfl
theorem v_meth {mt : Str} {ob : Ob} (ha : (den exm cl a).v rho m = .ok (.obj n) m1) (h1 : m1[n]? = some ob) (h2 : (ob.lookup mt).isNone = true) (hs : (den exm cl as).l rho m1 = .ok ds m2) (hc : cl j (.obj n :: ds) m2 = .ok d m3) : (den exm cl (.meth mt j a as)).v rho m = .ok d m3 := by
  show bnd _ _ m = _
  have e : isObj mt (.obj n) m1 = .ok n m1 := by
    show (match m1[n]? with
      | some ob => if (ob.lookup mt).isNone = true then R.ok n m1 else R.bad
      | none => R.bad) = _
    rw [h1]
    exact if_pos h2
  rw [bnd_ok ha, bnd_ok e, bnd_ok hs, hc]
theorem v_meth0 {mt : Str} {ob : Ob} (ha : (den exm cl a).v rho m = .ok (.obj n) m1) (h1 : m1[n]? = some ob) (h2 : (ob.lookup mt).isNone = true) (hc : cl j [.obj n] m1 = .ok d m3) : (den exm cl (.meth0 mt j a)).v rho m = .ok d m3 := v_meth (as := .nil) ha h1 h2 rfl hc
/-! tests -/
theorem b_hole : (den exm cl .hole).b rho m = .ok true m := rfl
theorem b_tst (ha : (den exm cl a).v rho m = .ok x m1) (h : truthD x = some k) : (den exm cl (.tst a)).b rho m = .ok k m1 := by
  show bnd _ _ m = _
  rw [bnd_ok ha]
  exact lift_ok h
theorem b_cmp {o : Cop} (ha : (den exm cl a).v rho m = .ok x m1) (hb : (den exm cl b).v rho m1 = .ok y m2) (h : o.sem x y = some (.bl k)) : (den exm cl (.tcmp o a b)).b rho m = .ok k m2 := by
  show bnd _ _ m = _
  rw [bnd_ok (e2_ok ha hb h)]
  rfl
theorem b_gin {neg : Bool} {g : Str} {t : List (Str × Lt)} (ha : (den exm cl a).v rho m = .ok x m1) (h : ginD neg t x = some (.bl k)) : (den exm cl (.tgin neg g t a)).b rho m = .ok k m1 := by
  show bnd _ _ m = _
  rw [bnd_ok (e1_ok ha h)]
  rfl
theorem b_chn {o p : Cop} (ha : (den exm cl a).v rho m = .ok x m) (hb : (den exm cl b).v rho m = .ok y m) (h1 : o.sem x y = some (.bl k1)) (hc : (den exm cl c).v rho m = .ok z m) (h2 : p.sem y z = some (.bl k2)) : (den exm cl (.tchn o p a b c)).b rho m = .ok (k1 && k2) m := by
  show bnd _ _ m = _
  refine (bnd_ok (v_chain (exm := exm) (cl := cl) ha hb h1 hc h2)).trans ?_
  rfl
theorem b_not (h : (den exm cl a).b rho m = .ok k m1) : (den exm cl (.tnot a)).b rho m = .ok (!k) m1 := by
  show bnd _ _ m = _
  rw [bnd_ok h]
  rfl
theorem b_andT (ha : (den exm cl a).b rho m = .ok k1 m1) (hk : k1 = true) (hb : (den exm cl b).b rho m1 = .ok k2 m2) : (den exm cl (.tand a b)).b rho m = .ok k2 m2 := by
  subst hk
  show bnd _ _ m = _
  rw [bnd_ok ha]
  exact hb
theorem b_andF (ha : (den exm cl a).b rho m = .ok k1 m1) (hk : k1 = false) : (den exm cl (.tand a b)).b rho m = .ok false m1 := by
  subst hk
  show bnd _ _ m = _
  rw [bnd_ok ha]
  rfl
theorem b_orT (ha : (den exm cl a).b rho m = .ok k1 m1) (hk : k1 = true) : (den exm cl (.tor a b)).b rho m = .ok true m1 := by
  subst hk
  show bnd _ _ m = _
  rw [bnd_ok ha]
  rfl
theorem b_orF (ha : (den exm cl a).b rho m = .ok k1 m1) (hk : k1 = false) (hb : (den exm cl b).b rho m1 = .ok k2 m2) : (den exm cl (.tor a b)).b rho m = .ok k2 m2 := by
  subst hk
  show bnd _ _ m = _
  rw [bnd_ok ha]
  exact hb
theorem b_and (ha : (den exm cl a).b rho m = .ok k1 m) (hb : k1 = true → (den exm cl b).b rho m = .ok k2 m) : (den exm cl (.tand a b)).b rho m = .ok (k1 && k2) m := by
  cases k1 with
  | true => exact b_andT ha rfl (hb rfl)
  | false => exact b_andF ha rfl
theorem b_or (ha : (den exm cl a).b rho m = .ok k1 m) (hb : k1 = false → (den exm cl b).b rho m = .ok k2 m) : (den exm cl (.tor a b)).b rho m = .ok (k1 || k2) m := by
  cases k1 with
  | false => exact b_orF ha rfl (hb rfl)
  | true => exact b_orT ha rfl
/-! what is walked -/
theorem l_seq (ha : (den exm cl a).v rho m = .ok x m1) (h : itemsD x = some ds) : (den exm cl (.iseq a)).l rho m = .ok ds m1 := by
  show bnd _ _ m = _
  rw [bnd_ok ha]
  exact lift_ok h
theorem i_of {sem : List D → Option (List D)} {es : List D} {fs : En → M (List D)} (h : fs rho m = .ok es m1) (hc : sem es = some ds) : evI sem fs rho m = .ok ds m1 := by
  show bnd _ _ m = _
  rw [bnd_ok h]
  exact lift_ok hc
theorem l_rng {es : List D} (h : (den exm cl as).l rho m = .ok es m1) (hc : rng1 es = some ds) : (den exm cl (.irng1 as)).l rho m = .ok ds m1 := i_of h hc
theorem l_enm {es : List D} (h : (den exm cl as).l rho m = .ok es m1) (hc : enm1 es = some ds) : (den exm cl (.ienm as)).l rho m = .ok ds m1 := i_of h hc
theorem l_zip {es : List D} (h : (den exm cl as).l rho m = .ok es m1) (hc : zip2 es = some ds) : (den exm cl (.izip as)).l rho m = .ok ds m1 := i_of h hc
/-! statements -/
theorem r_nil : (den exm cl .nil).s rho m = .nx rho m := rfl
theorem r_seq (h1 : (den exm cl a).s rho m = .nx r m1) (h2 : (den exm cl as).s r m1 = res) : (den exm cl (.cons a as)).s rho m = res := by
  show seqS _ _ rho m = _
  unfold seqS
  rw [h1]
  exact h2
theorem r_seqR (h1 : (den exm cl a).s rho m = .rt d m1) : (den exm cl (.cons a as)).s rho m = .rt d m1 := by
  show seqS _ _ rho m = _
  unfold seqS
  rw [h1]
theorem r_set (h : (den exm cl a).v rho m = .ok d m1) : (den exm cl (.set i a)).s rho m = .nx (rho.set i (some d)) m1 := exS_ok h
theorem r_expr (h : (den exm cl a).v rho m = .ok d m1) : (den exm cl (.expr a)).s rho m = .nx rho m1 := exS_ok h
theorem r_ret (h : (den exm cl a).v rho m = .ok d m1) : (den exm cl (.ret a)).s rho m = .rt d m1 := exS_ok h
theorem r_retv (h : rho[i]? = some (some d)) : (den exm cl (.retv i)).s rho m = .rt d m := exS_ok (v_var (exm := exm) (cl := cl) h)
theorem r_ifT (h : (den exm cl c).b rho m = .ok k m1) (hk : k = true) (h2 : (den exm cl a).s rho m1 = res) : (den exm cl (.iff c a b)).s rho m = res := by
  subst hk
  exact (exS_ok h).trans h2
theorem r_ifF (h : (den exm cl c).b rho m = .ok k m1) (hk : k = false) (h2 : (den exm cl b).s rho m1 = res) : (den exm cl (.iff c a b)).s rho m = res := by
  subst hk
  exact (exS_ok h).trans h2
theorem r_aug {sub : Bool} (h : rho[i]? = some (some x)) (ha : (den exm cl a).v rho m = .ok y m1) (hs : augI sub x y = some d) : (den exm cl (.aug sub i a)).s rho m = .nx (rho.set i (some d)) m1 := by
  refine exS_ok ?_
  refine (bnd_ok (v_var (exm := exm) (cl := cl) h)).trans ?_
  rw [bnd_ok ha]
  exact lift_ok hs
theorem lst_at_ok (h : rho[i]? = some (some (.lst ds))) : lstAt i rho m = .ok ds m := by
  unfold lstAt
  rw [h]
  rfl
theorem r_app (h : rho[i]? = some (some (.lst ds))) (ha : (den exm cl a).v rho m = .ok y m1) (hl : ds.length < sizeLine) : (den exm cl (.app i a)).s rho m = .nx (rho.set i (some (.lst (ds ++ [y])))) m1 := by
  refine exS_ok ?_
  rw [bnd_ok (lst_at_ok h), bnd_ok ha]
  exact lift_ok (if_pos hl)
theorem r_ext {es : List D} (h : rho[i]? = some (some (.lst ds))) (ha : (den exm cl a).v rho m = .ok (.lst es) m1) (hl : ds.length + es.length ≤ sizeLine) : (den exm cl (.ext i a)).s rho m = .nx (rho.set i (some (.lst (ds ++ es)))) m1 := by
  refine exS_ok ?_
  rw [bnd_ok (lst_at_ok h), bnd_ok ha]
  exact lift_ok (if_pos hl)
theorem r_unp {t : Tg} (ha : (den exm cl a).v rho m = .ok d m1) (h : t.bind d rho = some r) : (den exm cl (.unp t a)).s rho m = .nx r m1 := by
  refine (exS_ok ha).trans ?_
  show (match t.bind d rho with
    | some rho' => Rs.nx rho' m1
    | none => Rs.bad) = _
  rw [h]
/-! loops -/
theorem w_t {t : En → M Bool} {F : SM} (h : t rho m = .ok k m1) (hk : k = true) (h2 : F rho m1 = .nx r m2) (h3 : whileS t F n r m2 = res) : whileS t F (n + 1) rho m = res := by
  subst hk
  refine (exS_ok h).trans ?_
  show cont (whileS t F n) (F rho m1) = _
  rw [h2]
  exact h3
theorem w_f {t : En → M Bool} {F : SM} (h : t rho m = .ok k m1) (hk : k = false) : whileS t F (n + 1) rho m = .nx rho m1 := by
  subst hk
  exact exS_ok h
theorem f_of {t : Tg} (h : (den exm cl a).l rho m = .ok ds m1) (h2 : forS t (den exm cl b).s ds rho m1 = res) : (den exm cl (.for a t b)).s rho m = res := (exS_ok h).trans h2
theorem f_nil {t : Tg} {F : SM} : forS t F [] rho m = .nx rho m := rfl
theorem f_cons {t : Tg} {F : SM} {r2 : En} (hb : t.bind d rho = some r) (h : F r m = .nx r2 m1) (h2 : forS t F ds r2 m1 = res) : forS t F (d :: ds) rho m = res := by
  show (match t.bind d rho with
    | none => Rs.bad
    | some rho' => cont (forS t F ds) (F rho' m)) = _
  rw [hb]
  show cont (forS t F ds) (F r m) = _
  rw [h]
  exact h2
end
/-! comprehensions -/
section
variable {m m' : Store} {rho r : En}
theorem compL_pure {t : Tg} {c : En → M Bool} {f : En → M D} {ι : Type} (e : ι → D) (P : ι → Bool) (g : ι → D) : ∀ {is : List ι}, (∀ i ∈ is, ∃ r, t.bind (e i) rho = some r ∧ c r m = .ok (P i) m ∧ (P i = true → f r m = .ok (g i) m)) → compL t c f rho (is.map e) m = .ok ((is.filter P).map g) m
  | [], _ => rfl
  | i :: is, h => by
    obtain ⟨r, h1, h2, h3⟩ := h i (List.mem_cons_self ..)
    have ih := compL_pure (t := t) (c := c) (f := f) e P g fun j hj => h j (List.mem_cons_of_mem _ hj)
    show (match t.bind (e i) rho with
      | none => (fun _ => R.bad)
      | some rho' => bnd (noX (c rho')) fun b => if b = true then bnd (noX (f rho')) fun y => bnd (compL t c f rho (is.map e)) fun ys => ret (y :: ys) else compL t c f rho (is.map e)) m = _
    rw [h1]
    show bnd (noX (c r)) _ m = _
    rw [bnd_ok (noX_ok h2), List.filter_cons]
    cases q : P i with
    | true =>
      rw [if_pos rfl, if_pos rfl, bnd_ok (noX_ok (h3 q)), bnd_ok ih]
      rfl
    | false =>
      rw [if_neg (by decide), if_neg (by decide), ih]
theorem comp_pure {fi : En → M (List D)} {t : Tg} {c : En → M Bool} {f : En → M D} {vs : List Nat} {ι : Type} (e : ι → D) (P : ι → Bool) (g : ι → D) {is : List ι} (hi : fi rho m = .ok (is.map e) m) (hl : is.length ≤ sizeLine)
    (h : ∀ i ∈ is, ∃ r, t.bind (e i) (wipeE rho vs) = some r ∧ c r m = .ok (P i) m ∧ (P i = true → f r m = .ok (g i) m)) : evComp fi t c f vs rho m = .ok (.lst ((is.filter P).map g)) m := by
  unfold evComp
  rw [bnd_ok hi, bnd_ok (lift_ok (if_pos (by rw [List.length_map]; exact hl))), bnd_ok (compL_pure e P g h)]
  rfl
theorem comp_all {fi : En → M (List D)} {t : Tg} {f : En → M D} {vs : List Nat} {ι : Type} (e : ι → D) (g : ι → D) {is : List ι} (hi : fi rho m = .ok (is.map e) m) (hl : is.length ≤ sizeLine)
    (h : ∀ i ∈ is, ∃ r, t.bind (e i) (wipeE rho vs) = some r ∧ f r m = .ok (g i) m) : evComp fi t yesB f vs rho m = .ok (.lst (is.map g)) m := by
  have := comp_pure (c := yesB) e (fun _ => true) g hi hl fun i hi => by
    obtain ⟨r, h1, h2⟩ := h i hi
    exact ⟨r, h1, rfl, fun _ => h2⟩
  rw [this, List.filter_eq_self.mpr fun _ _ => rfl]
end
section
variable {exm : Nat → Nat → Bool} {cl : Nat → List D → M D} {m m1 : Store} {rho : En} {it c f : I} {t : Tg} {vs : List Nat} {ι : Type} {i : Nat}
/-- [f for t in it if c], nothing changed -/
theorem v_comp (e : ι → D) (P : ι → Bool) (g : ι → D) {is : List ι} (hi : (den exm cl it).l rho m = .ok (is.map e) m) (hl : is.length ≤ sizeLine)
    (h : ∀ i ∈ is, ∃ r, t.bind (e i) (wipeE rho vs) = some r ∧ (den exm cl c).b r m = .ok (P i) m ∧ (P i = true → (den exm cl f).v r m = .ok (g i) m)) : (den exm cl (.comp it t c f vs)).v rho m = .ok (.lst ((is.filter P).map g)) m := comp_pure e P g hi hl h
theorem v_compA (e : ι → D) (g : ι → D) {is : List ι} (hi : (den exm cl it).l rho m = .ok (is.map e) m) (hl : is.length ≤ sizeLine)
    (h : ∀ i ∈ is, ∃ r, t.bind (e i) (wipeE rho vs) = some r ∧ (den exm cl f).v r m = .ok (g i) m) : (den exm cl (.comp it t .hole f vs)).v rho m = .ok (.lst (is.map g)) m := comp_all e g hi hl h
theorem r_setc {d : D} (h : (den exm cl (.comp it t c f vs)).v rho m = .ok d m1) : (den exm cl (.setc i it t c f vs)).s rho m = .nx (rho.set i (some d)) m1 := exS_ok h
end
/-! small facts -/
abbrev zL (ns : List Int) : D := .lst (ns.map D.int)
abbrev zT (ns : List Int) : D := .tup (ns.map D.int)
abbrev dN (i : Nat) : D := .int (i : Int)
abbrev iL (is : List Nat) : D := .lst (is.map dN)
abbrev at_ (S : List Int) (i : Nat) : Int := S.getD i 0
theorem at_nat {α : Type} {xs : List α} {i : Nat} (h : i < xs.length) : atI xs (i : Int) = some xs[i] := by
  unfold atI ixN
  rw [if_pos (by omega), if_pos (by omega)]
  simp [h]
theorem big : (1000 : Nat) ≤ sizeLine := by decide
def cellAt (ns : List Int) (i : Nat) : Int := ns.getD i 0
end PF
/-! plain law of the sharing: whole numbers only -/
namespace Sh
theorem psum {l k : List Int} (h : l.Perm k) : l.sum = k.sum := by
  induction h with
  | nil => rfl
  | cons x _ ih => rw [List.sum_cons, List.sum_cons, ih]
  | swap x y l => simp only [List.sum_cons]; omega
  | trans _ _ a b => exact a.trans b
theorem sum_le {α : Type} {f g : α → Int} : ∀ {l : List α}, (∀ x ∈ l, f x ≤ g x) → (l.map f).sum ≤ (l.map g).sum
  | [], _ => Int.le_refl _
  | a :: l, h => by
    have h1 := h a (List.mem_cons_self ..)
    have h2 := sum_le (l := l) fun x hx => h x (List.mem_cons_of_mem _ hx)
    simp only [List.map_cons, List.sum_cons]
    omega
theorem sum_lt {α : Type} {f g : α → Int} : ∀ {l : List α}, l ≠ [] → (∀ x ∈ l, f x < g x) → (l.map f).sum < (l.map g).sum
  | [], n, _ => absurd rfl n
  | a :: l, _, h => by
    have h1 := h a (List.mem_cons_self ..)
    have h2 := sum_le (l := l) (f := f) (g := g) fun x hx => Int.le_of_lt (h x (List.mem_cons_of_mem _ hx))
    simp only [List.map_cons, List.sum_cons]
    omega
theorem sum_mulL {α : Type} {f : α → Int} (c : Int) : ∀ {l : List α}, (l.map fun x => c * f x).sum = c * (l.map f).sum
  | [] => by simp
  | a :: l => by
    simp only [List.map_cons, List.sum_cons]
    rw [sum_mulL c, Int.mul_add]
theorem sum_mulR {α : Type} {f : α → Int} (c : Int) {l : List α} : (l.map fun x => f x * c).sum = (l.map f).sum * c := by
  have e : (fun x => f x * c) = fun x => c * f x := funext fun x => Int.mul_comm _ _
  rw [e, sum_mulL, Int.mul_comm]
theorem sum_add {α : Type} {f g : α → Int} : ∀ {l : List α}, (l.map fun x => f x + g x).sum = (l.map f).sum + (l.map g).sum
  | [] => rfl
  | a :: l => by
    simp only [List.map_cons, List.sum_cons]
    rw [sum_add]
    omega
theorem sum_congr {α : Type} {f g : α → Int} {l : List α} (h : ∀ x ∈ l, f x = g x) : (l.map f).sum = (l.map g).sum := by rw [List.map_congr_left h]
theorem sum_const {α : Type} (c : Int) : ∀ {l : List α}, (l.map fun _ => c).sum = c * l.length
  | [] => by simp
  | a :: l => by
    simp only [List.map_cons, List.sum_cons, List.length_cons]
    rw [sum_const c]
    rw [Int.natCast_succ, Int.mul_add]
    omega
theorem sum_nn {α : Type} {f : α → Int} {l : List α} (h : ∀ x ∈ l, 0 ≤ f x) : 0 ≤ (l.map f).sum := by
  have := sum_le (f := fun _ => 0) (g := f) h
  rw [sum_const] at this
  omega
theorem sum_ind {l t : List Nat} (nl : l.Nodup) (nt : t.Nodup) (hs : ∀ x ∈ t, x ∈ l) : (l.map fun x => if x ∈ t then (1 : Int) else 0).sum = t.length := by
  have p : (l.filter fun x => decide (x ∈ t)).Perm t := (List.perm_ext_iff_of_nodup (nl.sublist List.filter_sublist) nt).mpr fun a => by
    simp only [List.mem_filter, decide_eq_true_eq]
    exact ⟨fun h => h.2, fun h => ⟨hs a h, h⟩⟩
  rw [← p.length_eq]
  clear p nl nt hs
  induction l with
  | nil => rfl
  | cons a l ih =>
    simp only [List.map_cons, List.sum_cons, List.filter_cons]
    rw [ih]
    by_cases h : a ∈ t
    · simp [h]
      omega
    · simp [h]
section
variable (n : Nat) (S L : Nat → Int) (R : Int)
def rest (held : List Nat) : List Nat := (List.range n).filter fun i => decide (i ∉ held)
def left (held : List Nat) : Int := R - (held.map L).sum
def every (held : List Nat) : Int := ((rest n held).map S).sum
def news (held : List Nat) : List Nat := (rest n held).filter fun i => decide (left L R held * S i < L i * every n S held)
def iter : Nat → List Nat
  | 0 => []
  | k + 1 => iter k ++ news n S L R (iter k)
structure Hyp : Prop where
  n0 : 0 < n
  s1 : ∀ i, i < n → 1 ≤ S i
  l1 : ∀ i, i < n → 1 ≤ L i
  r : ((List.range n).map L).sum ≤ R
structure HInv (held : List Nat) : Prop where
  nd : held.Nodup
  lt : ∀ i ∈ held, i < n
  pair : ∀ i j, i < n → j < n → L i = L j → S j ≤ S i → i ∈ held → j ∈ held
  ne : rest n held ≠ []
variable {n S L R}
theorem mem_rest {held : List Nat} {i : Nat} : i ∈ rest n held ↔ i < n ∧ i ∉ held := by
  unfold rest
  rw [List.mem_filter, List.mem_range, decide_eq_true_eq]
theorem rest_nd {held : List Nat} : (rest n held).Nodup := List.nodup_range.sublist List.filter_sublist
theorem rest_perm {held : List Nat} (nd : held.Nodup) (lt : ∀ i ∈ held, i < n) : (held ++ rest n held).Perm (List.range n) := by
  refine (List.perm_ext_iff_of_nodup ?_ List.nodup_range).mpr fun a => ?_
  · rw [List.nodup_append]
    exact ⟨nd, rest_nd, fun a ha b hb e => (mem_rest.mp hb).2 (by rw [← e]; exact ha)⟩
  · rw [List.mem_append, mem_rest, List.mem_range]
    constructor
    · intro h
      rcases h with h | h
      · exact lt a h
      · exact h.1
    · intro h
      by_cases z : a ∈ held
      · exact .inl z
      · exact .inr ⟨h, z⟩
theorem split_sum {held : List Nat} (nd : held.Nodup) (lt : ∀ i ∈ held, i < n) (f : Nat → Int) : (held.map f).sum + ((rest n held).map f).sum = ((List.range n).map f).sum := by
  rw [← psum ((rest_perm nd lt).map f), List.map_append, List.sum_append]
theorem left_eq {held : List Nat} (h : HInv n S L held) : left L R held = ((rest n held).map L).sum + (R - ((List.range n).map L).sum) := by
  have := split_sum h.nd h.lt L
  unfold left
  omega
theorem left_ge (Y : Hyp n S L R) {held : List Nat} (h : HInv n S L held) : ((rest n held).map L).sum ≤ left L R held := by
  have := left_eq (R := R) h
  have := Y.r
  omega
theorem every_pos (Y : Hyp n S L R) {held : List Nat} (h : HInv n S L held) : 0 < every n S held := by
  have := sum_lt (f := fun _ => 0) (g := S) h.ne fun i hi => by have := Y.s1 i (mem_rest.mp hi).1; omega
  rw [sum_const] at this
  unfold every
  omega
theorem left_pos (Y : Hyp n S L R) {held : List Nat} (h : HInv n S L held) : 0 < left L R held := by
  have a := sum_lt (f := fun _ => 0) (g := L) h.ne fun i hi => by have := Y.l1 i (mem_rest.mp hi).1; omega
  rw [sum_const] at a
  have := left_ge Y h
  omega
theorem start_inv (Y : Hyp n S L R) : HInv n S L [] := by
  refine ⟨List.nodup_nil, (fun i hi => by cases hi), (fun i j _ _ _ _ hi => by cases hi), fun e => ?_⟩
  have : (0 : Nat) ∈ rest n [] := mem_rest.mpr ⟨Y.n0, by simp⟩
  rw [e] at this
  cases this
theorem step_inv (Y : Hyp n S L R) {held : List Nat} (h : HInv n S L held) : HInv n S L (held ++ news n S L R held) := by
  have hl := left_pos Y h
  have he := every_pos Y h
  have mn : ∀ {i}, i ∈ news n S L R held ↔ i ∈ rest n held ∧ left L R held * S i < L i * every n S held := fun {i} => by
    unfold news
    rw [List.mem_filter, decide_eq_true_eq]
  refine ⟨?_, fun i hi => ?_, fun i j hi hj e1 e2 hm => ?_, fun e => ?_⟩
  · rw [List.nodup_append]
    exact ⟨h.nd, rest_nd.sublist List.filter_sublist, fun a ha b hb e => (mem_rest.mp (mn.mp hb).1).2 (by rw [← e]; exact ha)⟩
  · rcases List.mem_append.mp hi with z | z
    · exact h.lt i z
    · exact (mem_rest.mp (mn.mp z).1).1
  · rw [List.mem_append]
    by_cases hh : j ∈ held
    · exact .inl hh
    · refine .inr (mn.mpr ⟨mem_rest.mpr ⟨hj, hh⟩, ?_⟩)
      rcases List.mem_append.mp hm with z | z
      · exact absurd (h.pair i j hi hj e1 e2 z) hh
      · have k := (mn.mp z).2
        rw [← e1]
        exact Int.lt_of_le_of_lt (Int.mul_le_mul_of_nonneg_left e2 (Int.le_of_lt hl)) k
  · have all : ∀ i ∈ rest n held, left L R held * S i < L i * every n S held := fun i hi => by
      by_cases z : i ∈ news n S L R held
      · exact (mn.mp z).2
      · have : i ∈ rest n (held ++ news n S L R held) := mem_rest.mpr ⟨(mem_rest.mp hi).1, fun y => by
          rcases List.mem_append.mp y with y | y
          · exact (mem_rest.mp hi).2 y
          · exact z y⟩
        rw [e] at this
        cases this
    have s := sum_lt h.ne all
    rw [sum_mulL, sum_mulR] at s
    have g := left_ge Y h
    have : ((rest n held).map L).sum * every n S held ≤ left L R held * every n S held := Int.mul_le_mul_of_nonneg_right g (Int.le_of_lt he)
    have e2 : (List.map S (rest n held)).sum = every n S held := rfl
    rw [e2] at s
    omega
/-! ### what is dealt out -/
def quo (held : List Nat) (i : Nat) : Int := left L R held * S i / every n S held
def rem (held : List Nat) (i : Nat) : Int := left L R held * S i % every n S held
def more (held : List Nat) : Int := left L R held - ((rest n held).map (quo (n := n) (S := S) (L := L) (R := R) held)).sum
theorem more_eq (Y : Hyp n S L R) {held : List Nat} (h : HInv n S L held) : every n S held * more (n := n) (S := S) (L := L) (R := R) held = ((rest n held).map (rem (n := n) (S := S) (L := L) (R := R) held)).sum := by
  have he := every_pos Y h
  have e : ((rest n held).map fun i => every n S held * quo (n := n) (S := S) (L := L) (R := R) held i + rem (n := n) (S := S) (L := L) (R := R) held i).sum = ((rest n held).map fun i => left L R held * S i).sum := sum_congr fun i _ => by
    unfold quo rem
    rw [Int.mul_ediv_add_emod]
  rw [sum_add, sum_mulL, sum_mulL] at e
  have e2 : (List.map S (rest n held)).sum = every n S held := rfl
  rw [e2] at e
  unfold more
  rw [Int.mul_sub, Int.mul_comm (every n S held) (left L R held)]
  omega
theorem rem_b (Y : Hyp n S L R) {held : List Nat} (h : HInv n S L held) (i : Nat) : 0 ≤ rem (n := n) (S := S) (L := L) (R := R) held i ∧ rem (n := n) (S := S) (L := L) (R := R) held i < every n S held := by
  have he := every_pos Y h
  unfold rem
  exact ⟨Int.emod_nonneg _ (by omega), Int.emod_lt_of_pos _ he⟩
theorem more_b (Y : Hyp n S L R) {held : List Nat} (h : HInv n S L held) : 0 ≤ more (n := n) (S := S) (L := L) (R := R) held ∧ more (n := n) (S := S) (L := L) (R := R) held < (rest n held).length := by
  have he := every_pos Y h
  have e := more_eq Y h
  have a := sum_nn (l := rest n held) fun i _ => (rem_b Y h i).1
  have b := sum_lt (g := fun _ => every n S held) h.ne fun i _ => (rem_b Y h i).2
  rw [sum_const] at b
  constructor
  · rcases Int.lt_or_le (more (n := n) (S := S) (L := L) (R := R) held) 0 with z | z
    · have := Int.mul_neg_of_pos_of_neg he z
      omega
    · exact z
  · exact Int.lt_of_mul_lt_mul_left (by rw [e]; exact b) (Int.le_of_lt he)
variable (n S L R) in
structure Out (F : Nat → Int) (held T : List Nat) : Prop where
  inv : HInv n S L held
  fin : ∀ i ∈ rest n held, L i * every n S held ≤ left L R held * S i
  tn : T.Nodup
  ts : ∀ i ∈ T, i ∈ rest n held
  tl : (T.length : Int) = more (n := n) (S := S) (L := L) (R := R) held
  tp : ∀ i ∈ T, ∀ j ∈ rest n held, j ∉ T → rem (n := n) (S := S) (L := L) (R := R) held j < rem (n := n) (S := S) (L := L) (R := R) held i ∨ (rem (n := n) (S := S) (L := L) (R := R) held i = rem (n := n) (S := S) (L := L) (R := R) held j ∧ i < j)
  tr : ∀ i ∈ T, 0 < rem (n := n) (S := S) (L := L) (R := R) held i
  f : ∀ i, i < n → F i = if i ∈ held then L i else quo (n := n) (S := S) (L := L) (R := R) held i + if i ∈ T then 1 else 0
  it : ∃ k, held = iter n S L R k
theorem iter_stop {j : Nat} (h : news n S L R (iter n S L R j) = []) : ∀ k, iter n S L R (j + k) = iter n S L R j
  | 0 => rfl
  | k + 1 => by
    show iter n S L R (j + k) ++ news n S L R (iter n S L R (j + k)) = _
    rw [iter_stop h k, h, List.append_nil]
theorem iter_nil (h : news n S L R [] = []) {held : List Nat} (it : ∃ k, held = iter n S L R k) : held = [] := by
  obtain ⟨k, rfl⟩ := it
  have := iter_stop (n := n) (S := S) (L := L) (R := R) (j := 0) h k
  rw [Nat.zero_add] at this
  exact this
theorem iter_uniq {j k : Nat} (h1 : news n S L R (iter n S L R j) = []) (h2 : news n S L R (iter n S L R k) = []) : iter n S L R j = iter n S L R k := by
  rcases Nat.le_total j k with z | z
  · have := iter_stop h1 (k - j)
    rw [show j + (k - j) = k by omega] at this
    exact this.symm
  · have := iter_stop h2 (j - k)
    rw [show k + (j - k) = j by omega] at this
    exact this
theorem pair_take {α : Type} {r : α → α → Prop} {l : List α} (h : l.Pairwise r) (k : Nat) : ∀ a ∈ l.take k, ∀ b ∈ l.drop k, r a b := by
  rw [← List.take_append_drop k l, List.pairwise_append] at h
  exact h.2.2
theorem out_of (Y : Hyp n S L R) {held order : List Nat} {F : Nat → Int} (h : HInv n S L held) (hn : news n S L R held = []) (hp : order.Perm (rest n held))
    (hs : order.Pairwise fun i j => rem (n := n) (S := S) (L := L) (R := R) held j < rem (n := n) (S := S) (L := L) (R := R) held i ∨ (rem (n := n) (S := S) (L := L) (R := R) held i = rem (n := n) (S := S) (L := L) (R := R) held j ∧ i ≤ j))
    (hf : ∀ i, i < n → F i = if i ∈ held then L i else quo (n := n) (S := S) (L := L) (R := R) held i + if i ∈ order.take (more (n := n) (S := S) (L := L) (R := R) held).toNat then 1 else 0) (it : ∃ k, held = iter n S L R k) :
    Out n S L R F held (order.take (more (n := n) (S := S) (L := L) (R := R) held).toNat) := by
  obtain ⟨m0, m1⟩ := more_b Y h
  have he := every_pos Y h
  have nd : order.Nodup := hp.nodup_iff.mpr rest_nd
  have len : (order.take (more (n := n) (S := S) (L := L) (R := R) held).toNat).length = (more (n := n) (S := S) (L := L) (R := R) held).toNat := by
    rw [List.length_take, hp.length_eq]
    omega
  have pt := pair_take hs (more (n := n) (S := S) (L := L) (R := R) held).toNat
  have mem : ∀ j ∈ rest n held, j ∉ order.take (more (n := n) (S := S) (L := L) (R := R) held).toNat → j ∈ order.drop (more (n := n) (S := S) (L := L) (R := R) held).toNat := fun j hj hn => by
    have : j ∈ order := hp.mem_iff.mpr hj
    rw [← List.take_append_drop (more (n := n) (S := S) (L := L) (R := R) held).toNat order] at this
    exact (List.mem_append.mp this).resolve_left hn
  have ne : ∀ i ∈ order.take (more (n := n) (S := S) (L := L) (R := R) held).toNat, ∀ j ∈ order.drop (more (n := n) (S := S) (L := L) (R := R) held).toNat, i ≠ j := fun i hi j hj e => by
    rw [← List.take_append_drop (more (n := n) (S := S) (L := L) (R := R) held).toNat order, List.nodup_append] at nd
    exact nd.2.2 i hi j hj e
  refine ⟨h, fun i hi => ?_, nd.sublist (List.take_sublist _ _), fun i hi => hp.mem_iff.mp (List.mem_of_mem_take hi), by rw [len]; omega, fun i hi j hj hj2 => ?_, fun i hi => ?_, hf, it⟩
  · rcases Int.lt_or_le (left L R held * S i) (L i * every n S held) with z | z
    · have : i ∈ news n S L R held := by
        unfold news
        rw [List.mem_filter, decide_eq_true_eq]
        exact ⟨hi, z⟩
      rw [hn] at this
      cases this
    · exact z
  · have hd := mem j hj hj2
    have nij := ne i hi j hd
    rcases pt i hi j hd with z | z
    · exact .inl z
    · exact .inr ⟨z.1, by omega⟩
  · rcases Int.lt_or_le 0 (rem (n := n) (S := S) (L := L) (R := R) held i) with z | z
    · exact z
    · -- all behind i have no remainder
      exfalso
      have hb := rem_b Y h i
      have zr : rem (n := n) (S := S) (L := L) (R := R) held i = 0 := by omega
      have e := more_eq Y h
      have hpm : ((rest n held).map (rem (n := n) (S := S) (L := L) (R := R) held)).sum = (order.map (rem (n := n) (S := S) (L := L) (R := R) held)).sum := psum (hp.symm.map _)
      rw [hpm, ← List.take_append_drop (more (n := n) (S := S) (L := L) (R := R) held).toNat order, List.map_append, List.sum_append] at e
      have d0 : ((order.drop (more (n := n) (S := S) (L := L) (R := R) held).toNat).map (rem (n := n) (S := S) (L := L) (R := R) held)).sum ≤ 0 := by
        have := sum_le (l := order.drop (more (n := n) (S := S) (L := L) (R := R) held).toNat) (f := rem (n := n) (S := S) (L := L) (R := R) held) (g := fun _ => 0) fun j hj => by
          have hb2 := rem_b Y h j
          rcases pt i hi j hj with z | z <;> omega
        rw [sum_const] at this
        omega
      have t1 : ((order.take (more (n := n) (S := S) (L := L) (R := R) held).toNat).map (rem (n := n) (S := S) (L := L) (R := R) held)).sum < every n S held * more (n := n) (S := S) (L := L) (R := R) held := by
        have := sum_lt (l := order.take (more (n := n) (S := S) (L := L) (R := R) held).toNat) (f := rem (n := n) (S := S) (L := L) (R := R) held) (g := fun _ => every n S held) (fun e => by rw [e] at hi; cases hi) fun j _ => (rem_b Y h j).2
        rw [sum_const, len] at this
        rw [Int.toNat_of_nonneg m0] at this
        exact this
      omega
section
variable {F : Nat → Int} {held T : List Nat} (Y : Hyp n S L R) (o : Out n S L R F held T)
include Y o
theorem Out.quo_ge {i : Nat} (hi : i ∈ rest n held) : L i ≤ quo (n := n) (S := S) (L := L) (R := R) held i := by
  unfold quo
  exact (Int.le_ediv_iff_mul_le (every_pos Y o.inv)).mpr (o.fin i hi)
theorem Out.ge {i : Nat} (hi : i < n) : L i ≤ F i := by
  rw [o.f i hi]
  split
  · exact Int.le_refl _
  · rename_i z
    have := Out.quo_ge Y o (mem_rest.mpr ⟨hi, z⟩)
    split <;> omega
theorem Out.sum : ((List.range n).map F).sum = R := by
  have e : ((List.range n).map F).sum = ((List.range n).map fun i => if i ∈ held then L i else quo (n := n) (S := S) (L := L) (R := R) held i + if i ∈ T then 1 else 0).sum := sum_congr fun i hi => o.f i (List.mem_range.mp hi)
  rw [e, ← split_sum o.inv.nd o.inv.lt]
  have e1 : (held.map fun i => if i ∈ held then L i else quo (n := n) (S := S) (L := L) (R := R) held i + if i ∈ T then 1 else 0).sum = (held.map L).sum := sum_congr fun i hi => if_pos hi
  have e2 : ((rest n held).map fun i => if i ∈ held then L i else quo (n := n) (S := S) (L := L) (R := R) held i + if i ∈ T then 1 else 0).sum = ((rest n held).map fun i => quo (n := n) (S := S) (L := L) (R := R) held i + if i ∈ T then 1 else 0).sum := sum_congr fun i hi => if_neg (mem_rest.mp hi).2
  rw [e1, e2, sum_add, sum_ind rest_nd o.tn o.ts, o.tl]
  unfold more left
  omega
theorem Out.mono {i j : Nat} (hi : i < n) (hj : j < n) (hL : L i = L j) (hS : S j < S i) : F j ≤ F i := by
  rw [o.f i hi, o.f j hj]
  by_cases zj : j ∈ held
  · rw [if_pos zj, ← hL]
    have := o.f i hi ▸ Out.ge Y o hi
    exact this
  · have zi : i ∉ held := fun z => zj (o.inv.pair i j hi hj hL (by omega) z)
    rw [if_neg zj, if_neg zi]
    have he := every_pos Y o.inv
    have hl := left_pos Y o.inv
    have lt : left L R held * S j < left L R held * S i := Int.mul_lt_mul_of_pos_left hS hl
    have q := Int.ediv_le_ediv he (Int.le_of_lt lt)
    have q : quo (n := n) (S := S) (L := L) (R := R) held j ≤ quo (n := n) (S := S) (L := L) (R := R) held i := q
    by_cases e : quo (n := n) (S := S) (L := L) (R := R) held j = quo (n := n) (S := S) (L := L) (R := R) held i
    · have r : rem (n := n) (S := S) (L := L) (R := R) held j < rem (n := n) (S := S) (L := L) (R := R) held i := by
        have a := Int.mul_ediv_add_emod (left L R held * S j) (every n S held)
        have b := Int.mul_ediv_add_emod (left L R held * S i) (every n S held)
        unfold quo at e
        unfold rem
        rw [e] at a
        omega
      by_cases tj : j ∈ T
      · by_cases ti : i ∈ T
        · rw [if_pos tj, if_pos ti]; omega
        · exfalso
          rcases o.tp j tj i (mem_rest.mpr ⟨hi, zi⟩) ti with z | z <;> omega
      · rw [if_neg tj]
        split <;> omega
    · split <;> split <;> omega
theorem Out.least (hR : R = ((List.range n).map L).sum) {i : Nat} (hi : i < n) : F i = L i := by
  have s := Out.sum Y o
  rcases Int.lt_or_le (L i) (F i) with z | z
  · exfalso
    have a := sum_le (l := List.range n) (f := L) (g := F) fun j hj => Out.ge Y o (List.mem_range.mp hj)
    have b : ∀ (l : List Nat), l.Nodup → i ∈ l → (∀ j ∈ l, L j ≤ F j) → (l.map L).sum < (l.map F).sum := by
      intro l
      induction l with
      | nil => intro _ h _; cases h
      | cons x l ih =>
        intro nd hm hall
        simp only [List.map_cons, List.sum_cons]
        rcases List.mem_cons.mp hm with e | e
        · subst e
          have := sum_le (l := l) (f := L) (g := F) fun j hj => hall j (List.mem_cons_of_mem _ hj)
          omega
        · have h1 := hall x (List.mem_cons_self ..)
          have h2 := ih (List.nodup_cons.mp nd).2 e fun j hj => hall j (List.mem_cons_of_mem _ hj)
          omega
    have := b (List.range n) List.nodup_range (List.mem_range.mpr hi) fun j hj => Out.ge Y o (List.mem_range.mp hj)
    omega
  · have := Out.ge Y o hi
    omega
theorem Out.none (h : ∀ i, i < n → L i * ((List.range n).map S).sum ≤ R * S i) : held = [] := by
  refine iter_nil ?_ o.it
  unfold news
  rw [List.filter_eq_nil_iff]
  intro i hi
  rw [decide_eq_true_eq]
  have e1 : every n S [] = ((List.range n).map S).sum := by
    unfold every rest
    congr 2
    rw [List.filter_eq_self]
    intro a _
    simp
  have e2 : left L R [] = R := by
    unfold left
    simp
  rw [e1, e2]
  have := h i (mem_rest.mp hi).1
  omega
end
theorem Out.stop {F : Nat → Int} {held T : List Nat} (o : Out n S L R F held T) : news n S L R held = [] := by
  unfold news
  rw [List.filter_eq_nil_iff]
  intro i hi
  rw [decide_eq_true_eq]
  have := o.fin i hi
  omega
theorem Out.uniq {F F' : Nat → Int} {held held' T T' : List Nat} (o : Out n S L R F held T) (o' : Out n S L R F' held' T') {i : Nat} (hi : i < n) : F i = F' i := by
  have e : held = held' := by
    obtain ⟨j, ej⟩ := o.it
    obtain ⟨k, ek⟩ := o'.it
    have h1 := o.stop
    have h2 := o'.stop
    rw [ej] at h1
    rw [ek] at h2
    rw [ej, ek]
    exact iter_uniq h1 h2
  subst e
  rw [o.f i hi, o'.f i hi]
  by_cases z : i ∈ held
  · rw [if_pos z, if_pos z]
  · rw [if_neg z, if_neg z]
    have hr : i ∈ rest n held := mem_rest.mpr ⟨hi, z⟩
    have len : T.length = T'.length := by
      have a := o.tl
      have b := o'.tl
      omega
    -- one in T alone brings one in T' alone
    have key : ∀ {A B : List Nat}, A.Nodup → B.Nodup → A.length = B.length → ∀ {x}, x ∈ A → x ∉ B → ∃ y, y ∈ B ∧ y ∉ A := fun {A B} na nb hl {x} hx hn => by
      by_cases h : ∃ y, y ∈ B ∧ y ∉ A
      · exact h
      · exfalso
        have hall : ∀ y ∈ B, y ∈ A := fun y hy => by
          by_cases q : y ∈ A
          · exact q
          · exact absurd ⟨y, hy, q⟩ h
        have p : (A.filter fun y => decide (y ∈ B)).Perm B := (List.perm_ext_iff_of_nodup (na.sublist List.filter_sublist) nb).mpr fun a => by
          simp only [List.mem_filter, decide_eq_true_eq]
          exact ⟨fun h => h.2, fun h => ⟨hall a h, h⟩⟩
        have l1 := p.length_eq
        have l2 : (A.filter fun y => decide (y ∈ B)).length < A.length := by
          have := List.length_filter_lt_length_iff_exists (p := fun y => decide (y ∈ B)) (l := A)
          exact this.mpr ⟨x, hx, by simp [hn]⟩
        omega
    have same : i ∈ T ↔ i ∈ T' := by
      constructor
      · intro h
        by_cases q : i ∈ T'
        · exact q
        · exfalso
          obtain ⟨y, y1, y2⟩ := key o.tn o'.tn len h q
          have a := o.tp i h y (o'.ts y y1) y2
          have b := o'.tp y y1 i hr q
          omega
      · intro h
        by_cases q : i ∈ T
        · exact q
        · exfalso
          obtain ⟨y, y1, y2⟩ := key o'.tn o.tn len.symm h q
          have a := o'.tp i h y (o.ts y y1) y2
          have b := o.tp y y1 i hr q
          omega
    by_cases q : i ∈ T
    · rw [if_pos q, if_pos (same.mp q)]
    · rw [if_neg q, if_neg fun w => q (same.mpr w)]
end
end Sh
namespace PF
open PySem L2
/-! ### running the small language -/
section
variable {α β : Type} {m m' : Store} {rho r : En}
theorem seq_nx {f g : SM} (h : f rho m = .nx r m') : seqS f g rho m = g r m' := by
  unfold seqS
  rw [h]
theorem seq_rt {f g : SM} {d : D} (h : f rho m = .rt d m') : seqS f g rho m = .rt d m' := by
  unfold seqS
  rw [h]
theorem set_ok {f : En → M D} {i : Nat} {d : D} (h : f rho m = .ok d m') : setS i f rho m = .nx (rho.set i (some d)) m' := exS_ok h
theorem ret_ok {f : En → M D} {d : D} (h : f rho m = .ok d m') : retS f rho m = .rt d m' := exS_ok h
theorem cons_ok {f : En → M D} {fs : En → M (List D)} {d : D} {ds : List D} (h : f rho m = .ok d m) (hs : fs rho m = .ok ds m) : evCons f fs rho m = .ok (d :: ds) m := by
  unfold evCons
  rw [bnd_ok h, bnd_ok hs]
  rfl
theorem var_ok {i : Nat} {d : D} (h : rho[i]? = some (some d)) : evVar i rho m = .ok d m := by
  unfold evVar
  rw [h]
  rfl
theorem ev2_ok {sem : D → D → Option D} {fa fb : En → M D} {a b d : D} (ha : fa rho m = .ok a m) (hb : fb rho m = .ok b m) (h : sem a b = some d) : ev2 sem fa fb rho m = .ok d m := by
  unfold ev2
  rw [bnd_ok ha, bnd_ok hb, h]
  rfl
theorem evB_ok {sem : List D → Option D} {fs : En → M (List D)} {ds : List D} {d : D} (ha : fs rho m = .ok ds m) (h : sem ds = some d) : evB sem fs rho m = .ok d m := by
  unfold evB
  rw [bnd_ok ha, h]
  rfl
theorem evT_ok {f : En → M D} {b : Bool} (ha : f rho m = .ok (.bl b) m) : evT f rho m = .ok b m := by
  unfold evT
  rw [bnd_ok ha]
  rfl
theorem seq_ok {f : En → M D} {d : D} {ds : List D} (ha : f rho m = .ok d m) (h : itemsD d = some ds) : evSeq f rho m = .ok ds m := by
  unfold evSeq
  rw [bnd_ok ha, h]
  rfl
theorem ecall_ok {rn : List D → M D} {fs : En → M (List D)} {ds : List D} {d : D} (ha : fs rho m = .ok ds m) (h : rn ds m = .ok d m') : evCall rn fs rho m = .ok d m' := by
  unfold evCall
  rw [bnd_ok ha, h]
theorem mul_ok {fa fb : En → M D} {i j : Int} (ha : fa rho m = .ok (.int i) m) (hb : fb rho m = .ok (.int j) m) (h : mulOk i j) : ev2 (Bop.sem .mul) fa fb rho m = .ok (.int (i * j)) m := ev2_ok ha hb (if_pos h)
theorem div_ok {fa fb : En → M D} {i j : Int} (ha : fa rho m = .ok (.int i) m) (hb : fb rho m = .ok (.int j) m) (h : divOk j) : ev2 (Bop.sem .div) fa fb rho m = .ok (.int (i / j)) m := ev2_ok ha hb (if_pos h)
theorem sub_ok {fa fb : En → M D} {i j : Int} (ha : fa rho m = .ok (.int i) m) (hb : fb rho m = .ok (.int j) m) : ev2 (Bop.sem .sub) fa fb rho m = .ok (.int (i - j)) m := ev2_ok ha hb rfl
theorem lt_ok {fa fb : En → M D} {i j : Int} (ha : fa rho m = .ok (.int i) m) (hb : fb rho m = .ok (.int j) m) : ev2 (Cop.sem .lt) fa fb rho m = .ok (.bl (decide (i < j))) m := ev2_ok ha hb rfl
theorem while_t {t : En → M Bool} {F : SM} {n : Nat} (h : t rho m = .ok true m) : whileS t F (n + 1) rho m = cont (whileS t F n) (F rho m) := exS_ok h
theorem while_f {t : En → M Bool} {F : SM} {n : Nat} (h : t rho m = .ok false m) : whileS t F (n + 1) rho m = .nx rho m := exS_ok h
theorem for_ok {fi : En → M (List D)} {t : Tg} {F : SM} {xs : List D} (h : fi rho m = .ok xs m) : forT fi t F rho m = forS t F xs rho m := exS_ok h
end
theorem ix_z {S : List Int} {i : Nat} (h : i < S.length) : ixD (zL S) (dN i) = some (.int (at_ S i)) := by
  show atI (S.map D.int) (i : Int) = _
  rw [at_nat (by simpa using h)]
  simp [at_, h]
theorem ints_of {ι : Type} (g : ι → Int) : ∀ is : List ι, asInts (is.map fun i => D.int (g i)) = some (is.map g)
  | [] => rfl
  | i :: is => by
    show (asInts (is.map _)).map (g i :: ·) = _
    rw [ints_of g is]
    rfl
theorem sum_of {ι : Type} (g : ι → Int) (is : List ι) : sumD (.lst (is.map fun i => D.int (g i))) = some (.int (is.map g).sum) := by
  show (asInts _).map _ = _
  rw [ints_of]
  rfl
theorem flat_all (held : List Nat) : (held.map dN).all D.flat = true := by
  rw [List.all_eq_true]
  intro x hx
  obtain ⟨j, _, rfl⟩ := List.mem_map.mp hx
  rfl
theorem any_eq (held : List Nat) (i : Nat) : ((held.map dN).any fun y => y.eqb (dN i)) = decide (i ∈ held) := by
  rw [List.any_map]
  induction held with
  | nil => rfl
  | cons a l ih =>
    rw [List.any_cons, ih]
    have e : ((fun y : D => y.eqb (dN i)) ∘ dN) a = decide (a = i) := by
      show ((a : Int) == (i : Int)) = _
      by_cases z : a = i
      · subst z; simp
      · rw [decide_eq_false z, beq_eq_false_iff_ne]
        omega
    rw [e]
    by_cases z : a = i
    · subst z; simp
    · have z2 : ¬ i = a := fun y => z y.symm
      simp [z, z2]
theorem nin_of (held : List Nat) (i : Nat) : inD true (dN i) (iL held) = some (.bl (decide (i ∉ held))) := by
  show (if (D.flat (dN i) && (held.map dN).all D.flat) = true then some (D.bl (!((held.map dN).any fun y => y.eqb (dN i)))) else none) = _
  rw [flat_all, any_eq, if_pos (show ((dN i).flat && true) = true from rfl)]
  congr 2
  by_cases z : i ∈ held <;> simp [z]
theorem rng_of (n : Nat) (h : n ≤ 1000) : rng1 [dN n] = some ((List.range n).map dN) := by
  show rngD 0 (n : Int) = _
  unfold rngD
  rw [if_pos (by omega)]
  congr 1
  have : ((n : Int) - 0).toNat = n := by omega
  rw [this]
  apply List.map_congr_left
  intro i _
  show D.int (0 + (i : Int)) = _
  rw [Int.zero_add]
/-! held_least -/
theorem small_mul {i j : Int} (h : 0 ≤ i ∧ i ≤ 1000000) : mulOk i j := .inl (.inl (by omega))
structure Inp (S L : List Int) (R : Int) : Prop where
  hl : L.length = S.length
  n1 : S.length ≤ 64
  r : R ≤ 1000000
  sb : ∀ i, i < S.length → at_ S i ≤ 10000000000000000000000000000000000
  hy : Sh.Hyp S.length (at_ S) (at_ L) R
theorem Inp.lb {S L : List Int} {R : Int} (h : Inp S L R) {i : Nat} (hi : i < S.length) : at_ L i ≤ 1000000 := by
  have a := h.hy.r
  have b := h.r
  have c : ∀ (l : List Nat), (∀ j ∈ l, 1 ≤ at_ L j) → i ∈ l → at_ L i ≤ (l.map (at_ L)).sum := by
    intro l
    induction l with
    | nil => intro _ h; cases h
    | cons x l ih =>
      intro hall hm
      simp only [List.map_cons, List.sum_cons]
      have h1 := hall x (List.mem_cons_self ..)
      have h2 := Sh.sum_nn (l := l) (f := at_ L) fun j hj => by have := hall j (List.mem_cons_of_mem _ hj); omega
      rcases List.mem_cons.mp hm with e | e
      · rw [← e]; omega
      · have := ih (fun j hj => hall j (List.mem_cons_of_mem _ hj)) e
        omega
  have := c (List.range S.length) (fun j hj => h.hy.l1 j (List.mem_range.mp hj)) (List.mem_range.mpr hi)
  omega
/-- shares, a list or a tuple -/
structure Shs (sh : D) (S : List Int) : Prop where
  len : lenD sh = some (dN S.length)
  ix : ∀ i, i < S.length → ixD sh (dN i) = some (.int (at_ S i))
  isq : seqInts sh = some S
theorem Shs.lst (S : List Int) : Shs (zL S) S := ⟨by show some (D.int ((S.map D.int).length : Int)) = _; rw [List.length_map], fun i h => ix_z h, asInts_map S⟩
theorem Shs.tup (S : List Int) : Shs (zT S) S := ⟨by show some (D.int ((S.map D.int).length : Int)) = _; rw [List.length_map], fun i h => ix_z h, asInts_map S⟩
abbrev envH (R : Int) (sh : D) (L : List Int) (held : List Nat) (many : Int) (a5 a7 a8 : Option D) : En := [some (.int R), some sh, some (zL L), some (iL held), some (.int many), a5, none, a7, a8]
section
variable {exm : Nat → Nat → Bool} {cl : Nat → List D → M D} {S L : List Int} {R : Int} {m : Store} {sh : D}
/-- rest: those not held -/
theorem ev_rest {rho : En} (ia ih is : Nat) (held : List Nat) (h1 : rho[is]? = some (some sh)) (hln : lenD sh = some (dN S.length)) (h2 : rho[ih]? = some (some (iL held))) (hn : S.length ≤ 64) (hia : ia < rho.length) (n1 : ia ≠ ih) :
    evComp (evI rng1 (evCons (evB (Bi.sem .len) (evCons (evVar is) evNil)) evNil)) (.nm ia) (evT (ev2 (Cop.sem .nin) (evVar ia) (evVar ih))) (evVar ia) [ia] rho m = .ok (iL (Sh.rest S.length held)) m := by
  refine (comp_pure dN (fun i => decide (i ∉ held)) dN (is := List.range S.length) ?_ (by rw [List.length_range]; have := big; omega) fun i _ => ⟨_, rfl, ?_, fun _ => ?_⟩).trans rfl
  · have e : evB (Bi.sem .len) (evCons (evVar is) evNil) rho m = .ok (dN S.length) m := evB_ok (cons_ok (var_ok h1) rfl) hln
    show bnd (evCons _ evNil rho) _ m = _
    have e2 : evCons (evB (Bi.sem .len) (evCons (evVar is) evNil)) evNil rho m = .ok [dN S.length] m := cons_ok e rfl
    rw [bnd_ok e2]
    exact lift_ok (rng_of _ (by omega))
  · have e1 : (((wipeE rho [ia]).set ia (some (dN i)))[ia]?).join = some (dN i) := by
      rw [List.getElem?_set_self (by simp [wipeE]; exact hia)]
      rfl
    have e2 : (((wipeE rho [ia]).set ia (some (dN i)))[ih]?).join = some (iL held) := by
      rw [List.getElem?_set_ne n1]
      show (((rho.set ia none))[ih]?).join = _
      rw [List.getElem?_set_ne n1, h2]
      rfl
    show bnd (bnd (evVar ia _) _) _ m = _
    unfold evVar
    rw [e1, e2]
    show bnd (bnd (lift (some (dN i))) fun x => bnd (lift (some (iL held))) fun y => lift (inD true x y)) _ m = _
    have : (bnd (lift (some (dN i))) fun x => bnd (lift (some (iL held))) fun y => lift (inD true x y)) m = .ok (.bl (decide (i ∉ held))) m := by
      show lift (inD true (dN i) (iL held)) m = _
      rw [nin_of]
      rfl
    rw [bnd_ok this]
    rfl
  · have e1 : (((wipeE rho [ia]).set ia (some (dN i)))[ia]?).join = some (dN i) := by
      rw [List.getElem?_set_self (by simp [wipeE]; exact hia)]
      rfl
    show lift _ m = _
    rw [e1]
    rfl
/-- sum([x[at] for at in is]) -/
theorem ev_sum {rho : En} (ia ix il : Nat) {dx : D} (X : List Int) (is : List Nat) (h1 : rho[ix]? = some (some dx)) (h2 : rho[il]? = some (some (iL is))) (hb : ∀ i ∈ is, ixD dx (dN i) = some (.int (at_ X i))) (hl : is.length ≤ 64) (hia : ia < rho.length) (n1 : ia ≠ ix) :
    evB (Bi.sem .sum) (evCons (evComp (evSeq (evVar il)) (.nm ia) yesB (ev2 ixD (evVar ix) (evVar ia)) [ia]) evNil) rho m = .ok (.int ((is.map (at_ X)).sum)) m := by
  have e : evComp (evSeq (evVar il)) (.nm ia) yesB (ev2 ixD (evVar ix) (evVar ia)) [ia] rho m = .ok (.lst (is.map fun i => D.int (at_ X i))) m := by
    refine comp_all dN (fun i => D.int (at_ X i)) (is := is) ?_ (by have := big; omega) fun i hi => ⟨_, rfl, ?_⟩
    · simp [evSeq, evVar, bnd, lift, h2, itemsD]
    · have e1 : (((wipeE rho [ia]).set ia (some (dN i)))[ia]?).join = some (dN i) := by
        rw [List.getElem?_set_self (by simp [wipeE]; exact hia)]
        rfl
      have e2 : (((wipeE rho [ia]).set ia (some (dN i)))[ix]?).join = some dx := by
        rw [List.getElem?_set_ne n1]
        show (((rho.set ia none))[ix]?).join = _
        rw [List.getElem?_set_ne n1, h1]
        rfl
      show bnd (evVar ix _) _ m = _
      unfold evVar
      rw [e1, e2]
      show lift (ixD dx (dN i)) m = _
      rw [hb i hi]
      rfl
  exact evB_ok (cons_ok e rfl) (sum_of _ _)
/-- the loop's body -/
theorem held_body (hs : Shs sh S) (h : Inp S L R) {held : List Nat} (hi : Sh.HInv S.length (at_ S) (at_ L) held) (many : Int) (a5 a7 a8 : Option D) :
    ∃ b5 b7 b8, (den exm cl (.cons (.set 4 (.bi .len (.cons (.var 3) .nil))) (.cons (.setc 5 (.irng1 (.cons (.bi .len (.cons (.var 1) .nil)) .nil)) (.nm 6) (.tcmp .nin (.var 6) (.var 3)) (.var 6) [6]) (.cons (.set 7 (.bin .sub (.var 0) (.bi .sum (.cons (.comp (.iseq (.var 3)) (.nm 6) .hole (.ix (.var 2) (.var 6)) [6]) .nil)))) (.cons (.set 8 (.bi .sum (.cons (.comp (.iseq (.var 5)) (.nm 6) .hole (.ix (.var 1) (.var 6)) [6]) .nil))) (.cons (.set 3 (.bin .add (.var 3) (.comp (.iseq (.var 5)) (.nm 6) (.tcmp .lt (.bin .mul (.var 7) (.ix (.var 1) (.var 6))) (.bin .mul (.ix (.var 2) (.var 6)) (.var 8))) (.var 6) [6]))) .nil)))))).s (envH R sh L held many a5 a7 a8) m =
      .nx (envH R sh L (held ++ Sh.news S.length (at_ S) (at_ L) R held) (held.length : Int) b5 b7 b8) m := by
  have hh : held.length ≤ 64 := by
    have p := Sh.rest_perm hi.nd hi.lt
    have := p.length_eq
    rw [List.length_append, List.length_range] at this
    have := h.n1
    omega
  have hrl : (Sh.rest S.length held).length ≤ 64 := by
    have p := Sh.rest_perm hi.nd hi.lt
    have := p.length_eq
    rw [List.length_append, List.length_range] at this
    have := h.n1
    omega
  have hp := Sh.left_pos h.hy hi
  have hpe := Sh.every_pos h.hy hi
  have hlR : Sh.left (at_ L) R held ≤ 1000000 := by
    have := Sh.sum_nn (l := held) (f := at_ L) fun j hj => by have := h.hy.l1 j (hi.lt j hj); omega
    have := h.r
    unfold Sh.left
    omega
  refine ⟨some (iL (Sh.rest S.length held)), some (.int (Sh.left (at_ L) R held)), some (.int (Sh.every S.length (at_ S) held)), ?_⟩
  simp only [den]
  refine (seq_nx (r := envH R sh L held (held.length : Int) a5 a7 a8) (set_ok (d := dN held.length) (evB_ok (cons_ok (var_ok rfl) rfl) (by show some (D.int ((held.map dN).length : Int)) = _; rw [List.length_map])))).trans ?_
  refine (seq_nx (r := envH R sh L held (held.length : Int) (some (iL (Sh.rest S.length held))) a7 a8) (set_ok (ev_rest 6 3 1 held rfl hs.len rfl h.n1 (by show 6 < 9; decide) (by decide)))).trans ?_
  refine (seq_nx (r := envH R sh L held (held.length : Int) (some (iL (Sh.rest S.length held))) (some (.int (Sh.left (at_ L) R held))) a8) (set_ok (ev2_ok (var_ok rfl) (ev_sum 6 2 3 L held rfl rfl (fun i hi' => ix_z (by rw [h.hl]; exact hi.lt i hi')) hh (by show 6 < 9; decide) (by decide)) rfl))).trans ?_
  refine (seq_nx (r := envH R sh L held (held.length : Int) (some (iL (Sh.rest S.length held))) (some (.int (Sh.left (at_ L) R held))) (some (.int (Sh.every S.length (at_ S) held)))) (set_ok (ev_sum 6 1 5 S (Sh.rest S.length held) rfl rfl (fun i hi' => hs.ix i (Sh.mem_rest.mp hi').1) hrl (by show 6 < 9; decide) (by decide)))).trans ?_
  refine (seq_nx (set_ok (ev2_ok (d := iL (held ++ Sh.news S.length (at_ S) (at_ L) R held)) (var_ok rfl) (comp_pure (is := Sh.rest S.length held) dN (fun i => decide (Sh.left (at_ L) R held * at_ S i < at_ L i * Sh.every S.length (at_ S) held)) dN (seq_ok (var_ok rfl) rfl) (by have := big; omega) fun i hi' => ⟨_, rfl, evT_ok (lt_ok (mul_ok (var_ok rfl) (ev2_ok (var_ok rfl) (var_ok rfl) (hs.ix i (Sh.mem_rest.mp hi').1)) (small_mul (by omega))) (mul_ok (ev2_ok (var_ok rfl) (var_ok rfl) (ix_z (by rw [h.hl]; exact (Sh.mem_rest.mp hi').1))) (var_ok rfl) (small_mul (by have a := h.lb (Sh.mem_rest.mp hi').1; have b := h.hy.l1 i (Sh.mem_rest.mp hi').1; omega)))), fun _ => var_ok rfl⟩) ?_))).trans rfl
  · show (if _ then some (D.lst (held.map dN ++ _)) else none) = _
    rw [if_pos ?_]
    · show some (D.lst (held.map dN ++ (Sh.news S.length (at_ S) (at_ L) R held).map dN)) = _
      rw [← List.map_append]
    · have : (List.filter (fun i => decide (Sh.left (at_ L) R held * at_ S i < at_ L i * Sh.every S.length (at_ S) held)) (Sh.rest S.length held)).length ≤ (Sh.rest S.length held).length := List.length_filter_le _ _
      have := big
      rw [List.length_map, List.length_map]
      omega
abbrev heldT : I := .tcmp .ne (.var 4) (.bi .len (.cons (.var 3) .nil))
abbrev heldB : I := .cons (.set 4 (.bi .len (.cons (.var 3) .nil))) (.cons (.setc 5 (.irng1 (.cons (.bi .len (.cons (.var 1) .nil)) .nil)) (.nm 6) (.tcmp .nin (.var 6) (.var 3)) (.var 6) [6]) (.cons (.set 7 (.bin .sub (.var 0) (.bi .sum (.cons (.comp (.iseq (.var 3)) (.nm 6) .hole (.ix (.var 2) (.var 6)) [6]) .nil)))) (.cons (.set 8 (.bi .sum (.cons (.comp (.iseq (.var 5)) (.nm 6) .hole (.ix (.var 1) (.var 6)) [6]) .nil))) (.cons (.set 3 (.bin .add (.var 3) (.comp (.iseq (.var 5)) (.nm 6) (.tcmp .lt (.bin .mul (.var 7) (.ix (.var 1) (.var 6))) (.bin .mul (.ix (.var 2) (.var 6)) (.var 8))) (.var 6) [6]))) .nil))))
theorem ne_ok {rho : En} {fa fb : En → M D} {i j : Int} (ha : fa rho m = .ok (.int i) m) (hb : fb rho m = .ok (.int j) m) : ev2 (Cop.sem .ne) fa fb rho m = .ok (.bl (!(i == j))) m := ev2_ok ha hb rfl
theorem held_test (held : List Nat) (many : Int) (a5 a7 a8 : Option D) : (den exm cl heldT).b (envH R sh L held many a5 a7 a8) m = .ok (!(many == (held.length : Int))) m := by
  simp only [den]
  refine evT_ok (ne_ok (var_ok rfl) (evB_ok (cons_ok (var_ok rfl) rfl) ?_))
  show some (D.int ((held.map dN).length : Int)) = _
  rw [List.length_map]
theorem held_loop (hs : Shs sh S) (h : Inp S L R) : ∀ (fuel : Nat) (held : List Nat) (many : Int) (a5 a7 a8 : Option D), Sh.HInv S.length (at_ S) (at_ L) held → many ≠ held.length → S.length - held.length + 2 ≤ fuel →
    ∃ held' b5 b7 b8, whileS (den exm cl heldT).b (den exm cl heldB).s fuel (envH R sh L held many a5 a7 a8) m = .nx (envH R sh L held' (held'.length : Int) b5 b7 b8) m ∧ Sh.HInv S.length (at_ S) (at_ L) held' ∧ Sh.news S.length (at_ S) (at_ L) R held' = [] ∧ ((∃ k, held = Sh.iter S.length (at_ S) (at_ L) R k) → ∃ k, held' = Sh.iter S.length (at_ S) (at_ L) R k)
  | 0, held, many, a5, a7, a8, _, _, hf => by omega
  | fuel + 1, held, many, a5, a7, a8, hi, hm, hf => by
    have t := held_test (exm := exm) (cl := cl) (sh := sh) (L := L) (R := R) (m := m) held many a5 a7 a8
    rw [show (!(many == (held.length : Int))) = true by simp [hm]] at t
    obtain ⟨b5, b7, b8, hb⟩ := held_body (exm := exm) (cl := cl) (m := m) hs h hi many a5 a7 a8
    have hi2 := Sh.step_inv h.hy hi
    rw [while_t t, hb]
    show ∃ held' c5 c7 c8, whileS _ _ fuel (envH R sh L (held ++ Sh.news S.length (at_ S) (at_ L) R held) (held.length : Int) b5 b7 b8) m = _ ∧ _
    by_cases e : Sh.news S.length (at_ S) (at_ L) R held = []
    · obtain ⟨f2, rfl⟩ : ∃ f2, fuel = f2 + 1 := ⟨fuel - 1, by omega⟩
      rw [e, List.append_nil]
      have t2 := held_test (exm := exm) (cl := cl) (sh := sh) (L := L) (R := R) (m := m) held (held.length : Int) b5 b7 b8
      rw [show (!((held.length : Int) == (held.length : Int))) = false by simp] at t2
      exact ⟨held, b5, b7, b8, while_f t2, hi, e, fun z => z⟩
    · have lp : 0 < (Sh.news S.length (at_ S) (at_ L) R held).length := List.length_pos_iff.mpr e
      have hl2 : held.length < S.length := by
        have p := (Sh.rest_perm hi2.nd hi2.lt).length_eq
        rw [List.length_append, List.length_append, List.length_range] at p
        omega
      obtain ⟨held', c5, c7, c8, q1, q2, q3, q4⟩ := held_loop hs h fuel (held ++ Sh.news S.length (at_ S) (at_ L) R held) (held.length : Int) b5 b7 b8 hi2 (by rw [List.length_append]; omega) (by rw [List.length_append]; omega)
      exact ⟨held', c5, c7, c8, q1, q2, q3, fun ⟨k, hk⟩ => q4 ⟨k + 1, by rw [hk]; rfl⟩⟩
theorem held_run (hs : Shs sh S) (h : Inp S L R) : ∃ held, callF d_held_least.N.length (den exm cl d_held_least.ir).s [.int R, sh, zL L] m = .ok (iL held) m ∧ Sh.HInv S.length (at_ S) (at_ L) held ∧ Sh.news S.length (at_ S) (at_ L) R held = [] ∧ ∃ k, held = Sh.iter S.length (at_ S) (at_ L) R k := by
  obtain ⟨held, b5, b7, b8, q1, q2, q3, q4⟩ := held_loop (exm := exm) (cl := cl) (m := m) hs h 100 [] (-1) none none none (Sh.start_inv h.hy) (by simp) (by have := h.n1; simp; omega)
  refine ⟨held, call_ok ?_, q2, q3, q4 ⟨0, rfl⟩⟩
  show (den exm cl d_held_least.ir).s [some (.int R), some sh, some (zL L), none, none, none, none, none, none] m = _
  simp only [d_held_least, den]
  refine (seq_nx (r := [some (.int R), some sh, some (zL L), some (iL []), none, none, none, none, none]) (set_ok rfl)).trans ?_
  refine (seq_nx (r := envH R sh L [] (-1) none none none) (set_ok rfl)).trans ?_
  simp only [den] at q1
  refine (seq_nx q1).trans ?_
  exact seq_rt (ret_ok (var_ok rfl))
/-! shared_of -/
theorem cut_take {α : Type} (xs : List α) {k : Int} (h : 0 ≤ k) : cutL xs none (some k) = xs.take k.toNat := by
  have e : HT.sIx xs.length xs.length (some k) = min k.toNat xs.length := by
    show (if k < 0 then (k + (xs.length : Int)).toNat else min k.toNat xs.length) = _
    rw [if_neg (by omega)]
  unfold cutL
  rw [e]
  show ((xs.drop 0).take (min k.toNat xs.length - 0)) = _
  rw [List.drop_zero, Nat.sub_zero]
  by_cases z : k.toNat ≤ xs.length
  · rw [Nat.min_eq_left z]
  · rw [Nat.min_eq_right (by omega), List.take_of_length_le (Nat.le_refl _), List.take_of_length_le (by omega)]
def put1 (q : Nat → Int) (is : List Nat) (l : List Int) : List Int := is.foldl (fun l i => l.set i (q i)) l
def inc1 (is : List Nat) (l : List Int) : List Int := is.foldl (fun l i => l.set i (at_ l i + 1)) l
theorem at_set {l : List Int} {i j : Nat} {v : Int} (hi : i < l.length) : at_ (l.set i v) j = if j = i then v else at_ l j := by
  unfold at_
  rw [List.getD_eq_getElem?_getD, List.getD_eq_getElem?_getD, List.getElem?_set]
  by_cases e : i = j
  · subst e
    simp [hi]
  · have e2 : ¬ j = i := fun z => e z.symm
    simp [e, e2]
theorem put1_len (q : Nat → Int) : ∀ (is : List Nat) (l : List Int), (put1 q is l).length = l.length
  | [], _ => rfl
  | i :: is, l => (put1_len q is (l.set i (q i))).trans List.length_set
theorem inc1_len : ∀ (is : List Nat) (l : List Int), (inc1 is l).length = l.length
  | [], _ => rfl
  | i :: is, l => (inc1_len is (l.set i (at_ l i + 1))).trans List.length_set
theorem put1_at (q : Nat → Int) : ∀ {is : List Nat} {l : List Int} (j : Nat), (∀ i ∈ is, i < l.length) → at_ (put1 q is l) j = if j ∈ is then q j else at_ l j
  | [], _, _, _ => by simp [put1]
  | i :: is, l, j, h => by
    show at_ (put1 q is (l.set i (q i))) j = _
    rw [put1_at q j (by rw [List.length_set]; exact fun x hx => h x (List.mem_cons_of_mem _ hx)), at_set (h i (List.mem_cons_self ..))]
    by_cases e : j ∈ is
    · rw [if_pos e, if_pos (List.mem_cons_of_mem _ e)]
    · by_cases e2 : j = i
      · subst e2
        simp [e]
      · simp [e, e2]
theorem inc1_at : ∀ {is : List Nat} {l : List Int} (j : Nat), is.Nodup → (∀ i ∈ is, i < l.length) → at_ (inc1 is l) j = at_ l j + if j ∈ is then 1 else 0
  | [], _, _, _, _ => by simp [inc1]
  | i :: is, l, j, nd, h => by
    show at_ (inc1 is (l.set i (at_ l i + 1))) j = _
    rw [inc1_at j (List.nodup_cons.mp nd).2 (by rw [List.length_set]; exact fun x hx => h x (List.mem_cons_of_mem _ hx)), at_set (h i (List.mem_cons_self ..))]
    by_cases e2 : j = i
    · subst e2
      have := (List.nodup_cons.mp nd).1
      simp [this]
    · by_cases e : j ∈ is
      · simp [e, e2]
      · simp [e, e2]
theorem list_eq {l : List Int} {n : Nat} (hl : l.length = n) (F : Nat → Int) (h : ∀ j, j < n → at_ l j = F j) : l = (List.range n).map F := by
  refine List.ext_getElem (by simp [hl]) fun j h1 h2 => ?_
  have := h j (by omega)
  unfold at_ at this
  rw [List.getElem_map, List.getElem_range, ← this]
  simp [h1]
abbrev envS (R : Int) (sh : D) (L : List Int) (held : List Nat) (f : List Int) (rest : List Nat) (a6 : Option D) (left every : Int) (a9 a10 : Option D) : En := [some (.int R), some sh, some (zL L), some (iL held), some (zL f), some (iL rest), a6, some (.int left), some (.int every), a9, a10]
theorem put_z {f : List Int} {i : Nat} {v : Int} (h : i < f.length) : putL (f.map D.int) (dN i) (.int v) = some (zL (f.set i v)) := by
  show (match ixN (f.map D.int).length (i : Int) with
    | some n => some (D.lst ((f.map D.int).set n (.int v)))
    | none => none) = _
  have e : ixN (f.map D.int).length (i : Int) = some i := by
    unfold ixN
    rw [List.length_map, if_pos (by omega), if_pos (by omega)]
    simp
  rw [e]
  show some (D.lst ((f.map D.int).set i (.int v))) = _
  show _ = some (D.lst ((f.set i v).map D.int))
  rw [List.map_set]
theorem for_put {S L : List Int} {R left every : Int} {held rest : List Nat} {a9 a10 : Option D} (hs : Shs sh S) (hl : 0 ≤ left ∧ left ≤ 1000000) (he : divOk every) : ∀ (is : List Nat) (f : List Int) (a6 : Option D), (∀ i ∈ is, i < S.length) → (∀ i ∈ is, i < f.length) →
    ∃ b6, forS (.nm 6) (den exm cl (.cons (.put 4 (.var 6) (.bin .div (.bin .mul (.var 7) (.ix (.var 1) (.var 6))) (.var 8))) .nil)).s (is.map dN) (envS R sh L held f rest a6 left every a9 a10) m = .nx (envS R sh L held (put1 (fun i => left * at_ S i / every) is f) rest b6 left every a9 a10) m
  | [], f, a6, _, _ => ⟨a6, rfl⟩
  | i :: is, f, a6, h1, h2 => by
    obtain ⟨b6, ih⟩ := for_put (S := S) (L := L) (R := R) (held := held) (rest := rest) (a9 := a9) (a10 := a10) hs hl he is (f.set i (left * at_ S i / every)) (some (dN i)) (fun x hx => h1 x (List.mem_cons_of_mem _ hx)) (by rw [List.length_set]; exact fun x hx => h2 x (List.mem_cons_of_mem _ hx))
    refine ⟨b6, ?_⟩
    show cont (forS (.nm 6) _ (is.map dN)) ((den exm cl (.cons (.put 4 (.var 6) (.bin .div (.bin .mul (.var 7) (.ix (.var 1) (.var 6))) (.var 8))) .nil)).s (envS R sh L held f rest (some (dN i)) left every a9 a10) m) = _
    have e : (den exm cl (.cons (.put 4 (.var 6) (.bin .div (.bin .mul (.var 7) (.ix (.var 1) (.var 6))) (.var 8))) .nil)).s (envS R sh L held f rest (some (dN i)) left every a9 a10) m = .nx (envS R sh L held (f.set i (left * at_ S i / every)) rest (some (dN i)) left every a9 a10) m := by
      simp only [den]
      refine (seq_nx ?_).trans rfl
      refine exS_ok (a := zL (f.set i (left * at_ S i / every))) ?_
      rw [bnd_ok (div_ok (mul_ok (var_ok rfl) (ev2_ok (var_ok rfl) (var_ok rfl) (hs.ix i (h1 i (List.mem_cons_self ..)))) (small_mul hl)) (var_ok rfl) he)]
      exact lift_ok (put_z (h2 i (List.mem_cons_self ..)))
    rw [e]
    exact ih
theorem for_inc {L : List Int} {R left every : Int} {held rest : List Nat} {a9 a10 : Option D} : ∀ (is : List Nat) (f : List Int) (a6 : Option D), (∀ i ∈ is, i < f.length) →
    ∃ b6, forS (.nm 6) (den exm cl (.cons (.augput false 4 (.var 6) (.int 1)) .nil)).s (is.map dN) (envS R sh L held f rest a6 left every a9 a10) m = .nx (envS R sh L held (inc1 is f) rest b6 left every a9 a10) m
  | [], f, a6, _ => ⟨a6, rfl⟩
  | i :: is, f, a6, h2 => by
    obtain ⟨b6, ih⟩ := for_inc (L := L) (R := R) (left := left) (every := every) (held := held) (rest := rest) (a9 := a9) (a10 := a10) is (f.set i (at_ f i + 1)) (some (dN i)) (by rw [List.length_set]; exact fun x hx => h2 x (List.mem_cons_of_mem _ hx))
    refine ⟨b6, ?_⟩
    show cont (forS (.nm 6) _ (is.map dN)) ((den exm cl (.cons (.augput false 4 (.var 6) (.int 1)) .nil)).s (envS R sh L held f rest (some (dN i)) left every a9 a10) m) = _
    have e : (den exm cl (.cons (.augput false 4 (.var 6) (.int 1)) .nil)).s (envS R sh L held f rest (some (dN i)) left every a9 a10) m = .nx (envS R sh L held (f.set i (at_ f i + 1)) rest (some (dN i)) left every a9 a10) m := by
      simp only [den]
      refine (seq_nx ?_).trans rfl
      refine exS_ok (a := zL (f.set i (at_ f i + 1))) ?_
      show bnd (lift (ixD (zL f) (dN i))) (fun old => bnd (PF.ret (.int 1)) fun y => bnd (lift (augI false old y)) fun d => lift (putL (f.map D.int) (dN i) d)) m = _
      rw [ix_z (h2 i (List.mem_cons_self ..))]
      exact lift_ok (put_z (h2 i (List.mem_cons_self ..)))
    rw [e]
    exact ih
/-- the order -/
theorem sort_perm {S : List Int} {left every : Int} {rest : List Nat} : ∃ order : List Nat, order.Perm rest ∧ (sortBy left every S (rest.map fun (i : Nat) => (i : Int))) = order.map (fun (i : Nat) => (i : Int)) ∧ order.Pairwise fun i j => left * at_ S j % every < left * at_ S i % every ∨ (left * at_ S i % every = left * at_ S j % every ∧ i ≤ j) := by
  have p : (sortBy left every S (rest.map fun (i : Nat) => (i : Int))).Perm (rest.map fun (i : Nat) => (i : Int)) := isort_perm _ _
  have mem : ∀ z ∈ sortBy left every S (rest.map fun (i : Nat) => (i : Int)), 0 ≤ z := fun z hz => by
    obtain ⟨i, _, rfl⟩ := List.mem_map.mp (p.mem_iff.mp hz)
    omega
  have pw : (sortBy left every S (rest.map fun (i : Nat) => (i : Int))).Pairwise fun a b => decide (sortKey left every S a < sortKey left every S b ∨ (sortKey left every S a = sortKey left every S b ∧ a ≤ b)) = true := pairwise_isort (fun a b c h1 h2 => by
      rw [decide_eq_true_eq] at *
      omega) (fun a b => by
      simp only [Bool.or_eq_true, decide_eq_true_eq]
      omega) _
  refine ⟨(sortBy left every S (rest.map fun (i : Nat) => (i : Int))).map Int.toNat, ?_, ?_, ?_⟩
  · have := p.map Int.toNat
    rw [List.map_map] at this
    have e : (Int.toNat ∘ fun (i : Nat) => (i : Int)) = id := funext fun i => by simp
    rw [e, List.map_id] at this
    exact this
  · rw [List.map_map]
    conv => lhs; rw [← List.map_id (sortBy left every S (rest.map fun (i : Nat) => (i : Int)))]
    apply List.map_congr_left
    intro z hz
    show z = ((z.toNat : Nat) : Int)
    rw [Int.toNat_of_nonneg (mem z hz)]
  · rw [List.pairwise_map]
    refine pw.imp_of_mem fun {a b} ha hb h => ?_
    rw [decide_eq_true_eq] at h
    unfold sortKey at h
    have := mem a ha
    have := mem b hb
    unfold at_
    omega
theorem ints_dN : ∀ is : List Nat, asInts (is.map dN) = some (is.map fun (i : Nat) => (i : Int)) := fun is => ints_of (fun i : Nat => (i : Int)) is
theorem zsum (l : List Int) : l.sum = ((List.range l.length).map (at_ l)).sum := by
  conv => lhs; rw [list_eq (l := l) rfl (at_ l) fun _ _ => rfl]
theorem sortD_eq {dn ds : D} {ns S : List Int} {L ev : Int} (h1 : lstInts dn = some ns) (h2 : seqInts ds = some S) (ok : sortOk L ev S ns = true) : sortD dn (.int L) ds (.int ev) = some (.lst ((sortBy L ev S ns).map D.int)) := by
  unfold sortD
  rw [h1, h2]
  show (if sortOk L ev S ns = true then _ else _) = _
  rw [if_pos ok]
theorem shared_of_run (jh : Nat) (hs : Shs sh S) (h : Inp S L R) {held : List Nat} (q1 : cl jh [.int R, sh, zL L] m = .ok (iL held) m) (hi : Sh.HInv S.length (at_ S) (at_ L) held) (q3 : Sh.news S.length (at_ S) (at_ L) R held = []) (q4 : ∃ k, held = Sh.iter S.length (at_ S) (at_ L) R k) :
    ∃ F held T, callF (d_shared_of jh).N.length (den exm cl (d_shared_of jh).ir).s [.int R, sh, zL L] m = .ok (zL ((List.range S.length).map F)) m ∧ Sh.Out S.length (at_ S) (at_ L) R F held T := by
  have hh : held.length ≤ 64 := by
    have p := Sh.rest_perm hi.nd hi.lt
    have := p.length_eq
    rw [List.length_append, List.length_range] at this
    have := h.n1
    omega
  have hrl : (Sh.rest S.length held).length ≤ 64 := by
    have p := Sh.rest_perm hi.nd hi.lt
    have := p.length_eq
    rw [List.length_append, List.length_range] at this
    have := h.n1
    omega
  have hp := Sh.left_pos h.hy hi
  have hpe := Sh.every_pos h.hy hi
  have hlR : Sh.left (at_ L) R held ≤ 1000000 := by
    have := Sh.sum_nn (l := held) (f := at_ L) fun j hj => by have := h.hy.l1 j (hi.lt j hj); omega
    have := h.r
    unfold Sh.left
    omega
  have heb : Sh.every S.length (at_ S) held ≤ 640000000000000000000000000000000000 := by
    have := Sh.sum_le (l := Sh.rest S.length held) (f := at_ S) (g := fun _ => 10000000000000000000000000000000000) fun j hj => h.sb j (Sh.mem_rest.mp hj).1
    rw [Sh.sum_const] at this
    unfold Sh.every
    omega
  have hdiv : divOk (Sh.every S.length (at_ S) held) := ⟨hpe, by
    have : (Sh.every S.length (at_ S) held).natAbs < 2 ^ 128 := by omega
    have := (Nat.log2_lt (by omega)).mpr this
    omega⟩
  obtain ⟨order, o1, o2, o3⟩ := sort_perm (S := S) (left := Sh.left (at_ L) R held) (every := Sh.every S.length (at_ S) held) (rest := Sh.rest S.length held)
  obtain ⟨mb0, mb1⟩ := Sh.more_b h.hy hi
  have hlen : (put1 (fun i => Sh.left (at_ L) R held * at_ S i / Sh.every S.length (at_ S) held) (Sh.rest S.length held) L).length = S.length := by rw [put1_len, h.hl]
  have hmore : R - (put1 (fun i => Sh.left (at_ L) R held * at_ S i / Sh.every S.length (at_ S) held) (Sh.rest S.length held) L).sum = Sh.more (n := S.length) (S := at_ S) (L := at_ L) (R := R) held := by
    rw [zsum, hlen, ← Sh.split_sum hi.nd hi.lt]
    have e1 : (held.map (at_ (put1 (fun i => Sh.left (at_ L) R held * at_ S i / Sh.every S.length (at_ S) held) (Sh.rest S.length held) L))).sum = (held.map (at_ L)).sum := Sh.sum_congr fun i hi' => by
      rw [put1_at _ _ (fun x hx => by rw [h.hl]; exact (Sh.mem_rest.mp hx).1), if_neg fun z => (Sh.mem_rest.mp z).2 hi']
    have e2 : ((Sh.rest S.length held).map (at_ (put1 (fun i => Sh.left (at_ L) R held * at_ S i / Sh.every S.length (at_ S) held) (Sh.rest S.length held) L))).sum = ((Sh.rest S.length held).map (Sh.quo (n := S.length) (S := at_ S) (L := at_ L) (R := R) held)).sum := Sh.sum_congr fun i hi' => by
      rw [put1_at _ _ (fun x hx => by rw [h.hl]; exact (Sh.mem_rest.mp hx).1), if_pos hi']
      rfl
    rw [e1, e2]
    unfold Sh.more Sh.left
    omega
  refine ⟨at_ (inc1 (order.take (Sh.more (n := S.length) (S := at_ S) (L := at_ L) (R := R) held).toNat) (put1 (fun i => Sh.left (at_ L) R held * at_ S i / Sh.every S.length (at_ S) held) (Sh.rest S.length held) L)), held, order.take (Sh.more (n := S.length) (S := at_ S) (L := at_ L) (R := R) held).toNat, ?_, ?_⟩
  · refine call_ok ?_
    show (den exm cl (d_shared_of jh).ir).s [some (.int R), some sh, some (zL L), none, none, none, none, none, none, none, none] m = _
    obtain ⟨b6, f1⟩ := for_put (exm := exm) (cl := cl) (m := m) (S := S) (L := L) (R := R) (left := Sh.left (at_ L) R held) (every := Sh.every S.length (at_ S) held) (held := held) (rest := Sh.rest S.length held) (a9 := none) (a10 := none) hs (by omega) hdiv (Sh.rest S.length held) L none (fun i hi' => (Sh.mem_rest.mp hi').1) (fun i hi' => by rw [h.hl]; exact (Sh.mem_rest.mp hi').1)
    obtain ⟨c6, f2⟩ := for_inc (exm := exm) (cl := cl) (m := m) (sh := sh) (L := L) (R := R) (left := Sh.left (at_ L) R held) (every := Sh.every S.length (at_ S) held) (held := held) (rest := Sh.rest S.length held) (a9 := some (.int (Sh.more (n := S.length) (S := at_ S) (L := at_ L) (R := R) held))) (a10 := some (iL order)) (order.take (Sh.more (n := S.length) (S := at_ S) (L := at_ L) (R := R) held).toNat) (put1 (fun i => Sh.left (at_ L) R held * at_ S i / Sh.every S.length (at_ S) held) (Sh.rest S.length held) L) b6 (fun i hi' => by
      rw [hlen]
      exact (Sh.mem_rest.mp (o1.mem_iff.mp (List.mem_of_mem_take hi'))).1)
    simp only [d_shared_of, den] at f1 f2 ⊢
    refine (seq_nx (r := [some (.int R), some sh, some (zL L), some (iL held), none, none, none, none, none, none, none]) (set_ok (ecall_ok (cons_ok (var_ok rfl) (cons_ok (var_ok rfl) (cons_ok (var_ok rfl) rfl))) q1))).trans ?_
    refine (seq_nx (r := [some (.int R), some sh, some (zL L), some (iL held), some (zL L), none, none, none, none, none, none]) (set_ok (evB_ok (cons_ok (var_ok rfl) rfl) rfl))).trans ?_
    refine (seq_nx (r := [some (.int R), some sh, some (zL L), some (iL held), some (zL L), some (iL (Sh.rest S.length held)), none, none, none, none, none]) (set_ok (ev_rest 6 3 1 held rfl hs.len rfl h.n1 (by show 6 < 11; decide) (by decide)))).trans ?_
    refine (seq_nx (r := [some (.int R), some sh, some (zL L), some (iL held), some (zL L), some (iL (Sh.rest S.length held)), none, some (.int (Sh.left (at_ L) R held)), none, none, none]) (set_ok (sub_ok (var_ok rfl) (ev_sum 6 2 3 L held rfl rfl (fun i hi' => ix_z (by rw [h.hl]; exact hi.lt i hi')) hh (by show 6 < 11; decide) (by decide))))).trans ?_
    refine (seq_nx (r := envS R sh L held L (Sh.rest S.length held) none (Sh.left (at_ L) R held) (Sh.every S.length (at_ S) held) none none) (set_ok (ev_sum 6 1 5 S (Sh.rest S.length held) rfl rfl (fun i hi' => hs.ix i (Sh.mem_rest.mp hi').1) hrl (by show 6 < 11; decide) (by decide)))).trans ?_
    refine (seq_nx ((for_ok (seq_ok (var_ok rfl) rfl)).trans f1)).trans ?_
    refine (seq_nx (r := envS R sh L held (put1 (fun i => Sh.left (at_ L) R held * at_ S i / Sh.every S.length (at_ S) held) (Sh.rest S.length held) L) (Sh.rest S.length held) b6 (Sh.left (at_ L) R held) (Sh.every S.length (at_ S) held) (some (.int (Sh.more (n := S.length) (S := at_ S) (L := at_ L) (R := R) held))) none) (m' := m) (set_ok (d := .int (Sh.more (n := S.length) (S := at_ S) (L := at_ L) (R := R) held)) ?_)).trans ?_
    · rw [← hmore]
      refine sub_ok (var_ok rfl) (evB_ok (cons_ok (var_ok rfl) rfl) ?_)
      show (asInts _).map _ = _
      rw [asInts_map]
      rfl
    refine (seq_nx (r := envS R sh L held (put1 (fun i => Sh.left (at_ L) R held * at_ S i / Sh.every S.length (at_ S) held) (Sh.rest S.length held) L) (Sh.rest S.length held) b6 (Sh.left (at_ L) R held) (Sh.every S.length (at_ S) held) (some (.int (Sh.more (n := S.length) (S := at_ S) (L := at_ L) (R := R) held))) (some (iL order))) (m' := m) (set_ok (d := iL order) ?_)).trans ?_
    · show bnd (evVar 5 _) _ m = _
      rw [bnd_ok (var_ok rfl), bnd_ok (var_ok rfl), bnd_ok (var_ok rfl), bnd_ok (var_ok rfl)]
      refine lift_ok ((sortD_eq (dn := iL (Sh.rest S.length held)) (ds := sh) (ints_dN _) hs.isq ?_).trans ?_)
      · unfold sortOk
        simp only [Bool.and_eq_true, decide_eq_true_eq, List.all_eq_true]
        refine ⟨⟨⟨⟨hpe, fun z hz => ?_⟩, fun z _ => small_mul (by omega)⟩, by have := h.n1; omega⟩, by rw [List.length_map]; omega⟩
        obtain ⟨i, hi', rfl⟩ := List.mem_map.mp hz
        have := (Sh.mem_rest.mp hi').1
        omega
      · rw [o2, List.map_map]
        rfl
    refine (seq_nx ((for_ok (seq_ok (d := iL (order.take (Sh.more (n := S.length) (S := at_ S) (L := at_ L) (R := R) held).toNat)) ?_ rfl)).trans f2)).trans ?_
    · show bnd (evVar 10 _) _ m = _
      rw [bnd_ok (var_ok rfl), bnd_ok (show evPart none _ m = .ok none m from rfl), bnd_ok (show evPart (some (evVar 9)) _ m = .ok (some (Sh.more (n := S.length) (S := at_ S) (L := at_ L) (R := R) held)) m from rfl)]
      refine lift_ok ?_
      show some (D.lst (cutL (order.map dN) none (some _))) = _
      rw [cut_take _ mb0, ← List.map_take]
    refine seq_rt (ret_ok (var_ok ?_))
    show some (some (zL _)) = _
    rw [← list_eq (by rw [inc1_len, hlen]) _ fun _ _ => rfl]
  · refine Sh.out_of h.hy hi q3 o1 o3 (fun i hi' => ?_) q4
    have nd : order.Nodup := o1.nodup_iff.mpr Sh.rest_nd
    rw [inc1_at i (nd.sublist (List.take_sublist _ _)) (fun x hx => by rw [hlen]; exact (Sh.mem_rest.mp (o1.mem_iff.mp (List.mem_of_mem_take hx))).1), put1_at _ _ (fun x hx => by rw [h.hl]; exact (Sh.mem_rest.mp hx).1)]
    by_cases z : i ∈ held
    · have z2 : i ∉ Sh.rest S.length held := fun y => (Sh.mem_rest.mp y).2 z
      rw [if_pos z, if_neg z2, if_neg fun y => z2 (o1.mem_iff.mp (List.mem_of_mem_take y))]
      omega
    · have z2 : i ∈ Sh.rest S.length held := Sh.mem_rest.mpr ⟨hi', z⟩
      rw [if_neg z, if_pos z2]
      rfl
end
end PF
namespace PF
open PySem L2
/-! ### a little walker -/
theorem mulS {i j : Int} (h : (-18446744073709551616 < i ∧ i < 18446744073709551616) ∨ (-18446744073709551616 < j ∧ j < 18446744073709551616)) : Bop.sem .mul (.int i) (.int j) = some (.int (i * j)) := if_pos (.inl (h.imp (fun z => by omega) fun z => by omega))
theorem divS {i j : Int} (h : 0 < j ∧ j < 1267650600228229401496703205376) : Bop.sem .div (.int i) (.int j) = some (.int (i / j)) := if_pos ⟨h.1, by
  have : j.natAbs < 2 ^ 100 := by omega
  have := (Nat.log2_lt (by omega)).mpr this
  omega⟩
theorem modS {i j : Int} (h : 0 < j) : Bop.sem .mod (.int i) (.int j) = some (.int (i % j)) := if_pos h
local macro_rules
  | `(tactic| and_intros) => `(tactic| first | rfl | exact mulS (by omega) | exact modS (by omega) | exact divS (by omega) | assumption)
local macro_rules
  | `(tactic| bv_omega) => `(tactic| first
    | exact v_int | exact v_str | exact v_bl | exact v_non | exact v_gint | exact v_gstr | exact l_nil | exact b_hole | exact o_hole | exact p_nil
    | exact v_var rfl
    | (apply v_bin; (· bv_omega); (· bv_omega); (· and_intros))
    | (apply v_cmp; (· bv_omega); (· bv_omega); (· and_intros))
    | (apply v_ix; (· bv_omega); (· bv_omega); (· and_intros))
    | (apply v_neg; (· bv_omega); (· and_intros))
    | (apply v_isi; (· bv_omega); (· and_intros))
    | (apply l_cons; (· bv_omega); (· bv_omega))
    | (apply v_tup; (· bv_omega); (· exact Nat.le_of_ble_eq_true rfl))
    | (apply v_lst; (· bv_omega); (· exact Nat.le_of_ble_eq_true rfl))
    | (apply v_bi; (· bv_omega); (· and_intros))
    | (apply v_sl; (· bv_omega); (· bv_omega); (· bv_omega); (· and_intros))
    | (apply o_prt; bv_omega)
    | (apply v_not; (· bv_omega); (· and_intros))
    | (apply v_and; (· bv_omega); (· intro _; bv_omega))
    | (apply v_or; (· bv_omega); (· intro _; bv_omega))
    | (apply v_chain; (· bv_omega); (· bv_omega); (· and_intros); (· bv_omega); (· and_intros))
    | (apply b_cmp; (· bv_omega); (· bv_omega); (· and_intros))
    | (apply b_gin; (· bv_omega); (· and_intros))
    | (apply b_chn; (· bv_omega); (· bv_omega); (· and_intros); (· bv_omega); (· and_intros))
    | (apply b_tst; (· bv_omega); (· and_intros))
    | (apply b_not; bv_omega)
    | (apply b_and; (· bv_omega); (· intro _; bv_omega))
    | (apply b_or; (· bv_omega); (· intro _; bv_omega))
    | (apply l_seq; (· bv_omega); (· and_intros))
    | (apply v_call; (· bv_omega); (· solve_by_elim))
    | assumption)
/-- the def at place j, at all levels -/
def Has (exm : Nat → Nat → Bool) (cl : Nat → Nat → List D → M D) (j : Nat) (d : FD) : Prop := ∀ k, cl (k + 1) j = callF d.N.length (den exm (cl k) d.ir).s
section
variable {exm : Nat → Nat → Bool} {cl : Nat → Nat → List D → M D} {m : Store}
def inB (lo x hi : Int) : Bool := decide (lo ≤ x) && decide (x ≤ hi)
theorem within_ok {j : Nat} (H : Has exm cl j d_is_within) {k : Nat} (hk : 1 ≤ k) (x lo hi : Int) (m : Store) : cl k j [.int x, .int lo, .int hi] m = .ok (.bl (inB lo x hi)) m := by
  obtain ⟨k, rfl⟩ : ∃ k', k = k' + 1 := ⟨k - 1, by omega⟩
  rw [H]
  refine call_ok (r_seqR (r_ret ?_))
  show (den exm (cl k) _).v [some (.int x), some (.int lo), some (.int hi)] m = .ok (.bl (true && (!false && (decide (lo ≤ x) && decide (x ≤ hi))))) m
  bv_omega
end
/-! ### trees -/
inductive Tr where
  | pane (n w h : Int) | stack (ps : List (Int × Int × Int)) (top : Int) | frame (row : Bool) (ts : List Tr) (ss : List Int)
def kdS : Bool → Str
  | true => "row"
  | false => "column"
def paneD (p : Int × Int × Int) : D := .tup [.str "pane", .int p.1, .int p.2.1, .int p.2.2]
mutual
def Tr.d : Tr → D
  | .pane n w h => paneD (n, w, h)
  | .stack ps top => .tup [.str "stack", .tup (ps.map paneD), .int top]
  | .frame r ts ss => .tup [.str (kdS r), .tup (Tr.ds ts), zT ss]
def Tr.ds : List Tr → List D
  | [] => []
  | t :: ts => t.d :: Tr.ds ts
end
theorem Tr.ds_eq : ∀ ts : List Tr, Tr.ds ts = ts.map Tr.d
  | [] => rfl
  | t :: ts => by rw [Tr.ds, Tr.ds_eq ts]; rfl
mutual
/-- how deep calls go -/
def Tr.hi : Tr → Nat
  | .pane _ _ _ => 0
  | .stack _ _ => 1
  | .frame _ ts _ => Tr.his ts + 1
def Tr.his : List Tr → Nat
  | [] => 0
  | t :: ts => max t.hi (Tr.his ts)
end
theorem Tr.hi_mem : ∀ {ts : List Tr} {t : Tr}, t ∈ ts → t.hi ≤ Tr.his ts
  | [], _, h => by cases h
  | t :: ts, u, h => by
    rw [Tr.his]
    rcases List.mem_cons.mp h with e | e
    · rw [e]; omega
    · have := Tr.hi_mem e; omega
mutual
def Tr.panes : Tr → List (Int × Int × Int)
  | .pane n w h => [(n, w, h)]
  | .stack ps _ => ps
  | .frame _ ts _ => Tr.paness ts
def Tr.paness : List Tr → List (Int × Int × Int)
  | [] => []
  | t :: ts => t.panes ++ Tr.paness ts
end
def Tr.nums (t : Tr) : List Int := t.panes.map (·.1)
def panB (p : Int × Int × Int) : Bool := inB 0 p.1 99 && (inB 1 p.2.1 99 && inB 1 p.2.2 99)
mutual
def Tr.made : Tr → Int → Option Bool → Bool
  | .pane n w h, deep, _ => panB (n, w, h) && decide (deep ≤ 6)
  | .stack ps top, deep, _ => inB 2 ps.length 6 && (ps.all panB && inB 0 top (ps.length - 1)) && decide (deep ≤ 6)
  | .frame r ts ss, deep, k => decide (deep ≤ 6) && decide (k ≠ some r) && inB 2 ts.length 6 && decide (ss.length = ts.length) && ss.all (fun s => inB 1 s 1000000000000000000000000000000) && Tr.mades ts (deep + 1) (some r)
def Tr.mades : List Tr → Int → Option Bool → Bool
  | [], _, _ => true
  | t :: ts, deep, k => t.made deep k && Tr.mades ts deep k
end
theorem Tr.mades_eq (deep : Int) (k : Option Bool) : ∀ ts : List Tr, Tr.mades ts deep k = ts.all fun t => t.made deep k
  | [] => rfl
  | t :: ts => by rw [Tr.mades, Tr.mades_eq deep k ts]; rfl
def kindS : Option Bool → Str
  | none => ""
  | some r => kdS r
end PF
namespace PF
open PySem L2
local macro_rules
  | `(tactic| and_intros) => `(tactic| first | rfl | exact mulS (by omega) | exact modS (by omega) | exact divS (by omega) | assumption)
local macro_rules
  | `(tactic| bv_omega) => `(tactic| first
    | exact v_int | exact v_str | exact v_bl | exact v_non | exact v_gint | exact v_gstr | exact l_nil | exact b_hole | exact o_hole | exact p_nil
    | exact v_var rfl
    | (apply v_bin; (· bv_omega); (· bv_omega); (· and_intros))
    | (apply v_cmp; (· bv_omega); (· bv_omega); (· and_intros))
    | (apply v_ix; (· bv_omega); (· bv_omega); (· and_intros))
    | (apply v_neg; (· bv_omega); (· and_intros))
    | (apply v_isi; (· bv_omega); (· and_intros))
    | (apply l_cons; (· bv_omega); (· bv_omega))
    | (apply v_tup; (· bv_omega); (· exact Nat.le_of_ble_eq_true rfl))
    | (apply v_lst; (· bv_omega); (· exact Nat.le_of_ble_eq_true rfl))
    | (apply v_bi; (· bv_omega); (· and_intros))
    | (apply v_sl; (· bv_omega); (· bv_omega); (· bv_omega); (· and_intros))
    | (apply o_prt; bv_omega)
    | (apply v_not; (· bv_omega); (· and_intros))
    | (apply v_and; (· bv_omega); (· intro _; bv_omega))
    | (apply v_or; (· bv_omega); (· intro _; bv_omega))
    | (apply v_chain; (· bv_omega); (· bv_omega); (· and_intros); (· bv_omega); (· and_intros))
    | (apply b_cmp; (· bv_omega); (· bv_omega); (· and_intros))
    | (apply b_gin; (· bv_omega); (· and_intros))
    | (apply b_chn; (· bv_omega); (· bv_omega); (· and_intros); (· bv_omega); (· and_intros))
    | (apply b_tst; (· bv_omega); (· and_intros))
    | (apply b_not; bv_omega)
    | (apply b_and; (· bv_omega); (· intro _; bv_omega))
    | (apply b_or; (· bv_omega); (· intro _; bv_omega))
    | (apply l_seq; (· bv_omega); (· and_intros))
    | (apply v_call; (· bv_omega); (· solve_by_elim))
    | assumption)
section
variable {exm : Nat → Nat → Bool} {cl : Nat → Nat → List D → M D}
theorem lev {k n : Nat} (h : n + 1 ≤ k) : ∃ k', k = k' + 1 ∧ n ≤ k' := ⟨k - 1, by omega, by omega⟩
theorem is_pane4 {j jw : Nat} (H : Has exm cl j (d_is_pane jw)) (Hw : Has exm cl jw d_is_within) {k : Nat} (hk : 2 ≤ k) (p : Int × Int × Int) (m : Store) : cl k j [paneD p] m = .ok (.bl (panB p)) m := by
  obtain ⟨k, rfl, kh⟩ := lev hk
  have w := fun x lo hi => within_ok Hw kh x lo hi m
  rw [H]
  refine call_ok (r_seq (r_ifF (k := false) (m1 := m) ?_ rfl r_nil) (r_seqR (r_ret ?_)))
  · show (den exm (cl k) _).b [some (paneD p)] m = .ok (!true || (!(4 == (4 : Int)) || (!true || !(("pane" : Str) == ("pane" : Str))))) m
    unfold paneD
    bv_omega
  · show (den exm (cl k) _).v [some (paneD p)] m = _
    unfold paneD panB
    bv_omega
theorem is_pane3 {j jw : Nat} (H : Has exm cl j (d_is_pane jw)) {k : Nat} (hk : 1 ≤ k) (a : Str) (b c : D) (m : Store) : cl k j [.tup [.str a, b, c]] m = .ok (.bl false) m := by
  obtain ⟨k, rfl, kh⟩ := lev hk
  rw [H]
  refine call_ok (r_seqR (r_ifT (k := true) (m1 := m) ?_ rfl (r_seqR (r_ret v_bl))))
  show (den exm (cl k) _).b [some (.tup [.str a, b, c])] m = .ok (!true || (!(3 == (4 : Int)) || (!true || !(a == ("pane" : Str))))) m
  bv_omega
theorem is_stackF {j jp jw : Nat} (H : Has exm cl j (d_is_stack jp jw)) {k : Nat} (hk : 1 ≤ k) (r : Bool) (b c : D) (m : Store) : cl k j [.tup [.str (kdS r), b, c]] m = .ok (.bl false) m := by
  obtain ⟨k, rfl, kh⟩ := lev hk
  rw [H]
  refine call_ok (r_seqR (r_ifT (k := !true || (!(3 == (3 : Int)) || (!true || !(kdS r == ("stack" : Str))))) (m1 := m) ?_ (by cases r <;> decide) (r_seqR (r_ret v_bl))))
  show (den exm (cl k) _).b [some (.tup [.str (kdS r), b, c]), none] m = _
  bv_omega
theorem filt_not {α : Type} (P : α → Bool) : ∀ l : List α, (!((!(l.filter fun x => !P x).isEmpty))) = l.all P
  | [] => rfl
  | a :: l => by
    rw [List.filter_cons, List.all_cons]
    cases h : P a with
    | true => simpa using filt_not P l
    | false => simp
theorem is_stackS {j jp jw : Nat} (H : Has exm cl j (d_is_stack jp jw)) (Hp : Has exm cl jp (d_is_pane jw)) (Hw : Has exm cl jw d_is_within) {k : Nat} (hk : 3 ≤ k) (ps : List (Int × Int × Int)) (top : Int) (hl : ps.length ≤ 1000) (m : Store) :
    cl k j [(Tr.stack ps top).d] m = .ok (.bl (inB 2 ps.length 6 && (ps.all panB && inB 0 top (ps.length - 1)))) m := by
  obtain ⟨k, rfl, kh⟩ := lev hk
  have w := fun x lo hi => within_ok Hw (by omega : 1 ≤ k) x lo hi m
  have pn := fun p => is_pane4 Hp Hw kh p m
  rw [H]
  have e0 : (den exm (cl k) (.tor (.tnot (.tst (.isi .tuple (.var 0)))) (.tor (.tcmp .ne (.bi .len (.cons (.var 0) .nil)) (.int 3)) (.tor (.tnot (.tst (.isi .str (.ix (.var 0) (.int 0))))) (.tcmp .ne (.ix (.var 0) (.int 0)) (.str "stack")))))).b [some (Tr.stack ps top).d, none] m = .ok (!true || (!(3 == (3 : Int)) || (!true || !(("stack" : Str) == ("stack" : Str))))) m := by
    unfold Tr.d
    bv_omega
  have ln : ∀ {rho : En}, rho[0]? = some (some (Tr.stack ps top).d) → (den exm (cl k) (.bi .len (.cons (.ix (.var 0) (.int 1)) .nil))).v rho m = .ok (dN ps.length) m := fun {rho} h => by
    refine v_bi (l_cons (v_ix (v_var h) v_int rfl) l_nil) ?_
    show some (D.int ((ps.map paneD).length : Int)) = _
    rw [List.length_map]
  have e1 : (den exm (cl k) (.tor (.tnot (.tst (.isi .tuple (.ix (.var 0) (.int 1))))) (.tnot (.tchn .le .le (.int 2) (.bi .len (.cons (.ix (.var 0) (.int 1)) .nil)) (.gint "MOST_PARTS" 6))))).b [some (Tr.stack ps top).d, none] m = .ok (!true || !(inB 2 ps.length 6)) m := by
    refine b_or (b_not (b_tst (v_isi (v_ix (v_var rfl) v_int rfl) rfl) rfl)) fun _ => b_not ?_
    exact b_chn v_int (ln rfl) rfl v_gint rfl
  cases h2 : inB 2 ps.length 6 with
  | false =>
    rw [h2] at e1
    exact call_ok (r_seq (r_ifF e0 rfl r_nil) (r_seqR (r_ifT e1 rfl (r_seqR (r_ret v_bl)))))
  | true =>
    rw [h2] at e1
    refine call_ok (r_seq (r_ifF e0 rfl r_nil) (r_seq (r_ifF e1 rfl r_nil) (r_seqR (r_ret ?_))))
    show (den exm (cl k) _).v [some (Tr.stack ps top).d, none] m = _
    have c : (den exm (cl k) (.comp (.iseq (.ix (.var 0) (.int 1))) (.nm 1) (.tnot (.tst (.call jp (.cons (.var 1) .nil)))) (.var 1) [1])).v [some (Tr.stack ps top).d, none] m = .ok (.lst ((ps.filter fun p => !panB p).map paneD)) m := by
      refine v_comp paneD (fun p => !panB p) paneD (l_seq (v_ix (v_var rfl) v_int rfl) rfl) (by have := big; omega) fun p _ => ⟨_, rfl, ?_, fun _ => v_var rfl⟩
      exact b_not (b_tst (v_call (l_cons (v_var rfl) l_nil) (pn p)) rfl)
    refine v_and (k1 := ps.all panB) ?_ fun _ => v_call (l_cons (v_ix (v_var rfl) v_int rfl) (l_cons v_int (l_cons (v_bin (ln rfl) v_int rfl) l_nil))) (w _ _ _)
    have z := v_not c rfl
    rw [← filt_not panB ps]
    have e : (ps.filter fun p => !panB p).isEmpty = ((ps.filter fun p => !panB p).map paneD).isEmpty := by cases ps.filter fun p => !panB p <;> rfl
    rw [e]
    exact z
end
end PF
namespace PF
open PySem L2
/-! ### parts, uniformly -/
def Tr.parts : Tr → List Tr
  | .pane _ _ _ => []
  | .stack ps _ => ps.map fun p => .pane p.1 p.2.1 p.2.2
  | .frame _ ts _ => ts
def Tr.kd : Tr → Str
  | .pane _ _ _ => "pane"
  | .stack _ _ => "stack"
  | .frame r _ _ => kdS r
def Tr.third : Tr → D
  | .pane _ _ _ => .non
  | .stack _ top => .int top
  | .frame _ _ ss => zT ss
def Tr.isP : Tr → Bool
  | .pane _ _ _ => true
  | _ => false
theorem Tr.d_eq : ∀ {t : Tr}, t.isP = false → t.d = .tup [.str t.kd, .tup (t.parts.map Tr.d), t.third]
  | .pane _ _ _, h => by cases h
  | .stack ps top, _ => by
    show D.tup [.str "stack", .tup (ps.map paneD), .int top] = D.tup [.str "stack", .tup ((ps.map fun p => Tr.pane p.1 p.2.1 p.2.2).map Tr.d), .int top]
    rw [List.map_map]
    rfl
  | .frame r ts ss, _ => by
    show D.tup [.str (kdS r), .tup (Tr.ds ts), zT ss] = _
    rw [Tr.ds_eq]
    rfl
theorem Tr.kd_ne : ∀ {t : Tr}, t.isP = false → (t.kd == ("pane" : Str)) = false
  | .pane _ _ _, h => by cases h
  | .stack ps top, _ => show (("stack" : Str) == ("pane" : Str)) = false by decide
  | .frame true ts ss, _ => show (("row" : Str) == ("pane" : Str)) = false by decide
  | .frame false ts ss, _ => show (("column" : Str) == ("pane" : Str)) = false by decide
theorem Tr.part_hi : ∀ {t u : Tr}, u ∈ t.parts → u.hi < t.hi
  | .pane _ _ _, u, h => by cases h
  | .stack ps top, u, h => by
    obtain ⟨p, _, rfl⟩ := List.mem_map.mp h
    exact Nat.zero_lt_one
  | .frame r ts ss, u, h => by
    have := Tr.hi_mem (ts := ts) h
    show u.hi < Tr.his ts + 1
    omega
theorem Tr.paness_eq : ∀ ts : List Tr, Tr.paness ts = ts.flatMap Tr.panes
  | [] => rfl
  | t :: ts => by rw [Tr.paness, Tr.paness_eq ts]; rfl
theorem Tr.panes_eq : ∀ {t : Tr}, t.isP = false → t.panes = Tr.paness t.parts
  | .pane _ _ _, h => by cases h
  | .stack ps top, _ => by
    show ps = Tr.paness (ps.map fun p => Tr.pane p.1 p.2.1 p.2.2)
    rw [Tr.paness_eq, List.flatMap_map]
    have : ∀ ps : List (Int × Int × Int), (ps.flatMap fun p => [p]) = ps := fun ps => by
      induction ps with
      | nil => rfl
      | cons a l ih => rw [List.flatMap_cons, ih]; rfl
    exact (this ps).symm
  | .frame r ts ss, _ => rfl
theorem Tr.paness_mem {ts : List Tr} {t : Tr} (h : t ∈ ts) : t.panes.length ≤ (Tr.paness ts).length := by
  rw [Tr.paness_eq]
  induction ts with
  | nil => cases h
  | cons a l ih =>
    rw [List.flatMap_cons, List.length_append]
    rcases List.mem_cons.mp h with e | e
    · rw [e]; omega
    · have := ih e; omega
section
variable {exm : Nat → Nat → Bool} {cl : Nat → Nat → List D → M D}
/-! ### is_made -/
theorem nat_le {a b : Nat} (h : Nat.ble a b = true) : a ≤ b := Nat.le_of_ble_eq_true h
theorem is_made_ok {jm jp js jw : Nat} (Hm : Has exm cl jm (d_is_made jp js jw jm)) (Hp : Has exm cl jp (d_is_pane jw)) (Hs : Has exm cl js (d_is_stack jp jw)) (Hw : Has exm cl jw d_is_within) :
    ∀ (k : Nat) (t : Tr) (deep : Int) (kd : Option Bool) (m : Store), t.hi + 4 ≤ k → t.made deep kd = true → cl k jm [t.d, .int deep, .str (kindS kd)] m = .ok (.bl true) m
  | 0, t, deep, kd, m, hk, hm => by omega
  | k + 1, .pane n w h, deep, kd, m, hk, hm => by
    rw [Tr.made, Bool.and_eq_true] at hm
    rw [Hm]
    have hk : 0 + 4 ≤ k + 1 := hk
    refine call_ok (r_seqR (r_ifT (b_orT (b_tst (v_call (l_cons (v_var rfl) l_nil) (is_pane4 Hp Hw (by omega) (n, w, h) m)) rfl) hm.1) rfl (r_seqR (r_ret ?_))))
    rw [← hm.2]
    exact v_cmp (v_var rfl) v_gint rfl
  | k + 1, .stack ps top, deep, kd, m, hk, hm => by
    rw [Tr.made, Bool.and_eq_true] at hm
    rw [Hm]
    have hk : 1 + 4 ≤ k + 1 := hk
    have hl : ps.length ≤ 1000 := by
      have := (Bool.and_eq_true_iff.mp hm.1).1
      unfold inB at this
      simp at this
      omega
    refine call_ok (r_seqR (r_ifT (b_orF (b_tst (v_call (l_cons (v_var rfl) l_nil) (is_pane3 Hp (by omega) "stack" _ _ m)) rfl) rfl (b_tst (v_call (l_cons (v_var rfl) l_nil) (is_stackS Hs Hp Hw (by omega) ps top hl m)) rfl)) hm.1 (r_seqR (r_ret ?_))))
    rw [← hm.2]
    exact v_cmp (v_var rfl) v_gint rfl
  | k + 1, .frame r ts ss, deep, kd, m, hk, hm => by
    rw [Tr.made] at hm
    simp only [Bool.and_eq_true, decide_eq_true_eq] at hm
    obtain ⟨⟨⟨⟨⟨h1, h2⟩, h3⟩, h4⟩, h5⟩, h6⟩ := hm
    have hk : Tr.his ts + 1 + 4 ≤ k + 1 := hk
    rw [Hm]
    have hlen : ts.length ≤ 6 := by
      unfold inB at h3
      simp at h3
      omega
    have D0 : (Tr.frame r ts ss).d = .tup [.str (kdS r), .tup (ts.map Tr.d), zT ss] := Tr.d_eq rfl
    rw [D0]
    have t1 : ∀ {rho : En}, rho[0]? = some (some (.tup [.str (kdS r), .tup (ts.map Tr.d), zT ss])) → (den exm (cl k) (.ix (.var 0) (.int 1))).v rho m = .ok (.tup (ts.map Tr.d)) m := fun h => v_ix (v_var h) v_int rfl
    have t2 : ∀ {rho : En}, rho[0]? = some (some (.tup [.str (kdS r), .tup (ts.map Tr.d), zT ss])) → (den exm (cl k) (.ix (.var 0) (.int 2))).v rho m = .ok (zT ss) m := fun h => v_ix (v_var h) v_int rfl
    have t0 : ∀ {rho : En}, rho[0]? = some (some (.tup [.str (kdS r), .tup (ts.map Tr.d), zT ss])) → (den exm (cl k) (.ix (.var 0) (.int 0))).v rho m = .ok (.str (kdS r)) m := fun h => v_ix (v_var h) v_int rfl
    have l1 : ∀ {rho : En}, rho[0]? = some (some (.tup [.str (kdS r), .tup (ts.map Tr.d), zT ss])) → (den exm (cl k) (.bi .len (.cons (.ix (.var 0) (.int 1)) .nil))).v rho m = .ok (dN ts.length) m := fun h => v_bi (l_cons (t1 h) l_nil) (by
      show some (D.int ((ts.map Tr.d).length : Int)) = _
      rw [List.length_map])
    have l2 : ∀ {rho : En}, rho[0]? = some (some (.tup [.str (kdS r), .tup (ts.map Tr.d), zT ss])) → (den exm (cl k) (.bi .len (.cons (.ix (.var 0) (.int 2)) .nil))).v rho m = .ok (dN ts.length) m := fun h => v_bi (l_cons (t2 h) l_nil) (by
      show some (D.int ((ss.map D.int).length : Int)) = _
      rw [List.length_map, h4])
    refine call_ok (r_seq (r_ifF (b_orF (b_tst (v_call (l_cons (v_var rfl) l_nil) (is_pane3 Hp (by omega) _ _ _ m)) rfl) rfl (b_tst (v_call (l_cons (v_var rfl) l_nil) (is_stackF Hs (by omega) r _ _ m)) rfl)) rfl r_nil) ?_)
    refine r_seq (r_ifF (k := false) (b_orF (b_not (b_tst (v_isi (v_var rfl) rfl) rfl)) rfl (b_orF (b_cmp (v_bi (l_cons (v_var rfl) l_nil) rfl) v_int rfl) rfl (b_orF (b_not (b_tst (v_isi (t0 rfl) rfl) rfl)) rfl (k2 := false) (b_cmp (v_var rfl) v_gint ?_)))) rfl r_nil) ?_
    · show some (D.bl (decide (deep > 6))) = _
      rw [decide_eq_false (by omega)]
    refine r_seq (r_ifF (k := false) (b_orF (k1 := false) (b_gin (t0 rfl) ?_) rfl (b_orF (k1 := false) (b_cmp (t0 rfl) (v_var rfl) ?_) rfl (b_orF (b_not (b_tst (v_isi (t1 rfl) rfl) rfl)) rfl (b_not (b_tst (v_isi (t2 rfl) rfl) rfl))))) rfl r_nil) ?_
    · cases r <;> rfl
    · show some (D.bl (kdS r == kindS kd)) = _
      congr 1; congr 1
      cases r <;> cases kd with
      | none => decide
      | some q => cases q <;> first | decide | exact absurd rfl h2
    refine r_seq (r_ifF (k := false) (b_orF (b_not (b_chn v_int (l1 rfl) rfl v_gint rfl)) ?_ (b_cmp (l2 rfl) (l1 rfl) ?_)) rfl r_nil) ?_
    · show (!inB 2 ts.length 6) = false
      rw [h3]
      rfl
    · show some (D.bl (!((ts.length : Int) == (ts.length : Int)))) = _
      rw [beq_self_eq_true]
      rfl
    refine r_seq (r_ifF (k := false) (m1 := m) (b_tst (x := .lst []) ?_ rfl) rfl r_nil) ?_
    · have c := v_comp (exm := exm) (cl := cl k) (m := m) (rho := [some (.tup [.str (kdS r), .tup (ts.map Tr.d), zT ss]), some (.int deep), some (.str (kindS kd)), none, none]) (t := .nm 3) (vs := [3]) (it := .iseq (.ix (.var 0) (.int 2))) (c := .tnot (.tst (.call jw (.cons (.var 3) (.cons (.int 1) (.cons (.gint "MOST_SHARE" 1000000000000000000000000000000) .nil)))))) (f := .var 3) D.int (fun s => !inB 1 s 1000000000000000000000000000000) D.int (is := ss) (l_seq (t2 rfl) rfl) (by have := big; omega) fun s _ => ⟨_, rfl, b_not (b_tst (v_call (l_cons (v_var rfl) (l_cons v_int (l_cons v_gint l_nil))) (within_ok Hw (by omega) _ _ _ m)) rfl), fun _ => v_var rfl⟩
      have e : (ss.filter fun s => !inB 1 s 1000000000000000000000000000000) = [] := by
        rw [List.filter_eq_nil_iff]
        intro s hs
        have := List.all_eq_true.mp h5 s hs
        rw [this]
        decide
      rw [e] at c
      exact c
    refine r_seqR (r_ret (v_not (x := .lst []) (k := false) ?_ rfl))
    have c := v_comp (exm := exm) (cl := cl k) (m := m) (rho := [some (.tup [.str (kdS r), .tup (ts.map Tr.d), zT ss]), some (.int deep), some (.str (kindS kd)), none, none]) (t := .nm 4) (vs := [4]) (it := .iseq (.ix (.var 0) (.int 1))) (c := .tnot (.tst (.call jm (.cons (.var 4) (.cons (.bin .add (.var 1) (.int 1)) (.cons (.ix (.var 0) (.int 0)) .nil)))))) (f := .var 4) Tr.d (fun _ => false) Tr.d (is := ts) (l_seq (t1 rfl) rfl) (by have := big; omega) fun t ht => ⟨_, rfl, b_not (k := true) (b_tst (v_call (l_cons (v_var rfl) (l_cons (v_bin (v_var rfl) v_int rfl) (l_cons (t0 rfl) l_nil))) (is_made_ok Hm Hp Hs Hw k t (deep + 1) (some r) m (by have := Tr.hi_mem ht; omega) (by
      rw [Tr.mades_eq] at h6
      exact List.all_eq_true.mp h6 t ht))) rfl), fun h => by cases h⟩
    rw [List.filter_eq_nil_iff.mpr (fun _ _ => by decide)] at c
    exact c
/-! ### panes_of -/
theorem panes_for {j k : Nat} (m : Store) (d0 : D) : ∀ (ts : List Tr) (acc : List (Int × Int × Int)) (x : Option D), (∀ t ∈ ts, cl k j [t.d] m = .ok (.lst (t.panes.map paneD)) m) → acc.length + (Tr.paness ts).length ≤ 1000 →
    ∃ y, forS (.nm 2) (den exm (cl k) (.cons (.ext 1 (.call j (.cons (.var 2) .nil))) .nil)).s (ts.map Tr.d) [some d0, some (.lst (acc.map paneD)), x] m = .nx [some d0, some (.lst ((acc ++ Tr.paness ts).map paneD)), y] m
  | [], acc, x, _, _ => ⟨x, by rw [Tr.paness, List.append_nil]; rfl⟩
  | t :: ts, acc, x, h, hl => by
    rw [Tr.paness] at hl ⊢
    rw [List.length_append] at hl
    obtain ⟨y, hy⟩ := panes_for m d0 ts (acc ++ t.panes) (some t.d) (fun u hu => h u (List.mem_cons_of_mem _ hu)) (by rw [List.length_append]; omega)
    refine ⟨y, ?_⟩
    rw [List.map_cons]
    refine f_cons rfl (r_seq (r_ext (ds := acc.map paneD) (es := t.panes.map paneD) rfl (v_call (l_cons (v_var rfl) l_nil) (h t (List.mem_cons_self ..))) (by
      rw [List.length_map, List.length_map]
      have := big
      omega)) r_nil) ?_
    rw [← List.append_assoc, ← hy, List.map_append]
    rfl
theorem panes_run {j : Nat} (H : Has exm cl j (d_panes_of j)) : ∀ (k : Nat) (t : Tr) (m : Store), t.hi + 1 ≤ k → t.panes.length ≤ 1000 → cl k j [t.d] m = .ok (.lst (t.panes.map paneD)) m
  | 0, t, m, hk, _ => by omega
  | k + 1, t, m, hk, hl => by
    rw [H]
    cases hp : t.isP with
    | true =>
      cases t with
      | pane n w h => exact call_ok (r_seqR (r_ifT (b_cmp (v_ix (x := paneD (n, w, h)) (v_var rfl) v_int rfl) v_str rfl) rfl (r_seqR (r_ret (v_lst (l_cons (v_var rfl) l_nil) (nat_le rfl))))))
      | stack => cases hp
      | frame => cases hp
    | false =>
      rw [Tr.panes_eq hp] at hl ⊢
      obtain ⟨y, hy⟩ := panes_for (exm := exm) (cl := cl) (j := j) (k := k) m t.d t.parts [] none (fun u hu => panes_run H k u m (by have := Tr.part_hi hu; omega) (by have := Tr.paness_mem hu; omega)) (by simpa using hl)
      rw [Tr.d_eq hp] at hy ⊢
      refine call_ok (r_seq (r_ifF (b_cmp (v_ix (v_var rfl) v_int rfl) v_str rfl) (Tr.kd_ne hp) r_nil) (r_seq (r_set (v_lst l_nil (Nat.zero_le _))) (r_seq (f_of (l_seq (v_ix (v_var rfl) v_int rfl) rfl) hy) (r_seqR (r_retv rfl)))))
/-! ### is_tree, look -/
structure Tr.Good (t : Tr) : Prop where
  made : t.made 1 none = true
  few : t.panes.length ≤ 12
  nd : t.nums.Nodup
theorem dist_nd {ns : List Int} (h : ns.Nodup) : distN ns = ns := by
  have : ∀ i, i ≤ ns.length → PyProof.Rows.firstMet (fun i => ns.getD i 0) i = ns.take i := by
    intro i
    induction i with
    | zero => intro _; rfl
    | succ i ih =>
      intro hi
      rw [PyProof.Rows.firstMet_succ, ih (by omega), PyProof.Rows.step_dedup, if_neg, List.take_succ_eq_append_getElem (by omega)]
      · simp [show i < ns.length by omega]
      · intro hb
        obtain ⟨x, hx, e⟩ := List.any_eq_true.mp hb
        have e : x = ns.getD i 0 := by simpa using e
        have g : ns.getD i 0 = ns[i]'(by omega) := by simp [show i < ns.length by omega]
        obtain ⟨q, hq, e2⟩ := List.mem_take_iff_getElem.mp hx
        have : q = i := (List.getElem_inj h).mp (by rw [e2, e, g])
        omega
  rw [distN, this _ (Nat.le_refl _), List.take_length]
theorem is_tree_ok {jt jm jp js jw jn : Nat} (Ht : Has exm cl jt (d_is_tree jm jn)) (Hm : Has exm cl jm (d_is_made jp js jw jm)) (Hp : Has exm cl jp (d_is_pane jw)) (Hs : Has exm cl js (d_is_stack jp jw)) (Hw : Has exm cl jw d_is_within) (Hn : Has exm cl jn (d_panes_of jn))
    {t : Tr} (g : t.Good) {k : Nat} (hk : t.hi + 5 ≤ k) (m : Store) : cl k jt [t.d] m = .ok (.bl true) m := by
  obtain ⟨k, rfl, kh⟩ := lev (n := t.hi + 4) hk
  rw [Ht]
  have c : (den exm (cl k) (.comp (.iseq (.call jn (.cons (.var 0) .nil))) (.nm 2) .hole (.ix (.var 2) (.int 1)) [2])).v [some t.d, none, none] m = .ok (.lst (t.panes.map fun p => .int p.1)) m :=
    v_compA paneD (fun p => .int p.1) (l_seq (v_call (l_cons (v_var rfl) l_nil) (panes_run Hn k t m (by omega) (by have := g.few; omega))) rfl) (by have := big; have := g.few; omega) fun p _ => ⟨_, rfl, v_ix (x := paneD p) (v_var rfl) v_int rfl⟩
  have e : (t.panes.map fun p => D.int p.1) = t.nums.map D.int := by
    unfold Tr.nums
    rw [List.map_map]
    rfl
  have n12 : t.nums.length ≤ 12 := by
    unfold Tr.nums
    rw [List.length_map]
    exact g.few
  rw [e] at c
  have ln : (den exm (cl k) (.bi .len (.cons (.var 1) .nil))).v [some t.d, some (zL t.nums), none] m = .ok (dN t.nums.length) m := v_bi (l_cons (v_var rfl) l_nil) (by
    show some (D.int ((t.nums.map D.int).length : Int)) = _
    rw [List.length_map])
  refine call_ok (r_seq (r_ifF (b_not (b_tst (v_call (l_cons (v_var rfl) (l_cons v_int (l_cons v_str l_nil))) (is_made_ok Hm Hp Hs Hw k t 1 none m kh g.made)) rfl)) rfl r_nil) (r_seq (r_setc c) (r_seqR (r_ret ?_))))
  refine v_andT (k := decide ((t.nums.length : Int) ≤ 12)) (v_cmp ln v_gint rfl) (decide_eq_true (by omega)) (v_cmp (x := dN t.nums.length) (v_lset (v_var rfl) ?_) ln ?_)
  · show (asInts (t.nums.map D.int)).bind _ = _
    rw [asInts_map]
    show (if t.nums.length ≤ 4000 ∧ (distN t.nums).length ≤ 4000 then some (D.int ((distN t.nums).length : Nat)) else none) = _
    rw [dist_nd g.nd, if_pos (by omega)]
  · show some (D.bl ((t.nums.length : Int) == (t.nums.length : Int))) = _
    rw [beq_self_eq_true]
theorem look_ok {jl jt x : Nat} {t : Tr} (Hl : Has exm cl jl (d_look jt x)) {k : Nat} (m : Store) (h : cl k jt [t.d] m = .ok (.bl true) m) : cl (k + 1) jl [t.d] m = .ok .non m := by
  rw [Hl]
  exact call_nx (r_seq (r_ifF (b_not (b_tst (v_call (l_cons (v_var rfl) l_nil) h) rfl)) rfl r_nil) r_nil)
end
end PF
namespace PF
open PySem L2
/-! ### what a tree needs -/
def frL (r : Bool) (g : Int) (ls : List (Int × Int)) : Int × Int := if r then ((ls.map (·.1)).sum + g * ((ls.length : Int) - 1), maxL (ls.map (·.2))) else (maxL (ls.map (·.1)), (ls.map (·.2)).sum + g * ((ls.length : Int) - 1))
mutual
def Tr.least (g : Int) : Tr → Int × Int
  | .pane _ w h => (w, h)
  | .stack ps _ => (maxL (ps.map (·.2.1)), maxL (ps.map (·.2.2)))
  | .frame r ts _ => frL r g (Tr.leasts g ts)
def Tr.leasts (g : Int) : List Tr → List (Int × Int)
  | [] => []
  | t :: ts => t.least g :: Tr.leasts g ts
end
theorem Tr.leasts_eq (g : Int) : ∀ ts : List Tr, Tr.leasts g ts = ts.map (Tr.least g)
  | [] => rfl
  | t :: ts => by rw [Tr.leasts, Tr.leasts_eq g ts]; rfl
def Tr.Ok (t : Tr) : Prop := ∃ deep kd, t.made deep kd = true
theorem Tr.Ok.part : ∀ {t u : Tr}, t.Ok → u ∈ t.parts → u.Ok
  | .pane _ _ _, u, _, h => by cases h
  | .stack ps top, u, ⟨deep, kd, hm⟩, h => by
    obtain ⟨p, hp, rfl⟩ := List.mem_map.mp h
    rw [Tr.made] at hm
    simp only [Bool.and_eq_true, decide_eq_true_eq] at hm
    refine ⟨1, none, ?_⟩
    rw [Tr.made, List.all_eq_true.mp hm.1.2.1 p hp]
    rfl
  | .frame r ts ss, u, ⟨deep, kd, hm⟩, h => by
    rw [Tr.made, Bool.and_eq_true, Tr.mades_eq] at hm
    exact ⟨_, _, List.all_eq_true.mp hm.2 u h⟩
theorem inB_iff {a b c : Int} : inB a b c = true ↔ a ≤ b ∧ b ≤ c := by
  unfold inB
  rw [Bool.and_eq_true, decide_eq_true_eq, decide_eq_true_eq]
theorem Tr.Ok.len : ∀ {t : Tr}, t.Ok → t.isP = false → 2 ≤ t.parts.length ∧ t.parts.length ≤ 6
  | .pane _ _ _, _, h => by cases h
  | .stack ps top, ⟨deep, kd, hm⟩, _ => by
    rw [Tr.made] at hm
    simp only [Bool.and_eq_true, decide_eq_true_eq, inB_iff] at hm
    show 2 ≤ (ps.map _).length ∧ (ps.map _).length ≤ 6
    rw [List.length_map]
    omega
  | .frame r ts ss, ⟨deep, kd, hm⟩, _ => by
    rw [Tr.made] at hm
    simp only [Bool.and_eq_true, decide_eq_true_eq, inB_iff] at hm
    show 2 ≤ ts.length ∧ ts.length ≤ 6
    omega
theorem Tr.Ok.pane {n w h : Int} : (Tr.pane n w h).Ok → (0 ≤ n ∧ n ≤ 99) ∧ (1 ≤ w ∧ w ≤ 99) ∧ (1 ≤ h ∧ h ≤ 99)
  | ⟨deep, kd, hm⟩ => by
    rw [Tr.made, panB] at hm
    simp only [Bool.and_eq_true, decide_eq_true_eq, inB_iff] at hm
    exact ⟨hm.1.1, hm.1.2.1, hm.1.2.2⟩
theorem Tr.Ok.shares {r : Bool} {ts : List Tr} {ss : List Int} : (Tr.frame r ts ss).Ok → ss.length = ts.length ∧ ∀ s ∈ ss, 1 ≤ s ∧ s ≤ 1000000000000000000000000000000
  | ⟨deep, kd, hm⟩ => by
    rw [Tr.made] at hm
    simp only [Bool.and_eq_true, decide_eq_true_eq] at hm
    exact ⟨hm.1.1.2, fun s hs => inB_iff.mp (List.all_eq_true.mp hm.1.2 s hs)⟩
theorem Tr.least_eq (g : Int) : ∀ {t : Tr}, t.isP = false → t.least g = if t.kd = "row" then (((t.parts.map fun u => (u.least g).1).sum + g * ((t.parts.length : Int) - 1)), maxL (t.parts.map fun u => (u.least g).2)) else if t.kd = "column" then (maxL (t.parts.map fun u => (u.least g).1), ((t.parts.map fun u => (u.least g).2).sum + g * ((t.parts.length : Int) - 1))) else (maxL (t.parts.map fun u => (u.least g).1), maxL (t.parts.map fun u => (u.least g).2))
  | .pane _ _ _, h => by cases h
  | .stack ps top, _ => by
    rw [if_neg (show ¬ (Tr.stack ps top).kd = ("row" : Str) from (by decide : ("stack" : Str) ≠ "row")), if_neg (show ¬ (Tr.stack ps top).kd = ("column" : Str) from (by decide : ("stack" : Str) ≠ "column")), Tr.least]
    show _ = (maxL ((ps.map fun p => Tr.pane p.1 p.2.1 p.2.2).map _), maxL ((ps.map fun p => Tr.pane p.1 p.2.1 p.2.2).map _))
    rw [List.map_map, List.map_map]
    rfl
  | .frame true ts ss, _ => by
    rw [if_pos (show (Tr.frame true ts ss).kd = ("row" : Str) from rfl), Tr.least, Tr.leasts_eq, frL, if_pos rfl, List.map_map, List.map_map, List.length_map]
    rfl
  | .frame false ts ss, _ => by
    rw [if_neg (show ¬ (Tr.frame false ts ss).kd = ("row" : Str) from (by decide : ("column" : Str) ≠ "row")), if_pos (show (Tr.frame false ts ss).kd = ("column" : Str) from rfl), Tr.least, Tr.leasts_eq, frL, if_neg (by decide), List.map_map, List.map_map, List.length_map]
    rfl
theorem maxL_mem : ∀ {l : List Int}, l ≠ [] → maxL l ∈ l
  | [], h => absurd rfl h
  | [a], _ => by rw [maxL]; exact List.mem_cons_self ..
  | a :: b :: r, _ => by
    have ih := maxL_mem (l := b :: r) (by simp)
    rw [maxL]
    by_cases h : a ≤ maxL (b :: r)
    · rw [Int.max_eq_right h]; exact List.mem_cons_of_mem _ ih
    · rw [Int.max_eq_left (by omega)]; exact List.mem_cons_self ..
theorem maxL_ge : ∀ {l : List Int} {x : Int}, x ∈ l → x ≤ maxL l
  | [a], x, h => by
    rw [maxL]
    rcases List.mem_cons.mp h with e | e
    · omega
    · cases e
  | a :: b :: r, x, h => by
    rw [maxL]
    rcases List.mem_cons.mp h with e | e
    · rw [e]; exact Int.le_max_left ..
    · have := maxL_ge e
      exact Int.le_trans this (Int.le_max_right ..)
theorem max_of {ι : Type} (f : ι → Int) {is : List ι} (h : is ≠ []) : Bi.sem .max [.lst (is.map fun i => D.int (f i))] = some (.int (maxL (is.map f))) := by
  show mmD maxL (.lst (is.map fun i => D.int (f i))) = _
  unfold mmD
  rw [show seqInts (.lst (is.map fun i => D.int (f i))) = some (is.map f) from ints_of f is]
  cases is with
  | nil => exact absurd rfl h
  | cons a l => rfl
theorem Tr.panes_sum (ts : List Tr) : ((Tr.paness ts).length : Int) = (ts.map fun t => (t.panes.length : Int)).sum := by
  rw [Tr.paness_eq]
  induction ts with
  | nil => rfl
  | cons a l ih => rw [List.flatMap_cons, List.length_append, List.map_cons, List.sum_cons, ← ih]; omega
theorem sum_sub {α : Type} {f : α → Int} (c : Int) : ∀ {l : List α}, (l.map fun x => f x - c).sum = (l.map f).sum - c * l.length
  | [] => by simp
  | a :: l => by
    rw [List.map_cons, List.sum_cons, List.map_cons, List.sum_cons, sum_sub c (l := l), List.length_cons, Int.natCast_succ, Int.mul_add]
    omega
theorem le_sum {α : Type} {f : α → Int} {l : List α} (h : ∀ x ∈ l, 0 ≤ f x) {a : α} (ha : a ∈ l) : f a ≤ (l.map f).sum := by
  induction l with
  | nil => cases ha
  | cons b l ih =>
    rw [List.map_cons, List.sum_cons]
    have p := Sh.sum_nn (f := f) (l := l) fun x hx => h x (List.mem_cons_of_mem _ hx)
    have q := h b (List.mem_cons_self ..)
    rcases List.mem_cons.mp ha with e | e
    · rw [e]; omega
    · have := ih (fun x hx => h x (List.mem_cons_of_mem _ hx)) e; omega
/-- the bounds of what it needs -/
theorem Tr.Ok.bounds {g : Int} (hg : 0 ≤ g) : ∀ (n : Nat) {t : Tr}, t.hi ≤ n → t.Ok → 1 ≤ t.panes.length ∧ (1 ≤ (t.least g).1 ∧ (t.least g).1 ≤ (99 + g) * t.panes.length - g) ∧ (1 ≤ (t.least g).2 ∧ (t.least g).2 ≤ (99 + g) * t.panes.length - g) := by
  intro n
  induction n with
  | zero =>
    intro t hn ok
    cases t with
    | pane a w h =>
      have := ok.pane
      refine ⟨Nat.le_refl _, ?_, ?_⟩
      · show 1 ≤ w ∧ w ≤ (99 + g) * ((1 : Nat) : Int) - g
        omega
      · show 1 ≤ h ∧ h ≤ (99 + g) * ((1 : Nat) : Int) - g
        omega
    | stack ps top => exact absurd hn (by show ¬ (1 ≤ 0); omega)
    | frame r ts ss => exact absurd hn (by show ¬ (Tr.his ts + 1 ≤ 0); omega)
  | succ n ih =>
    intro t hn ok
    cases hp : t.isP with
    | true =>
      cases t with
      | pane a w h => exact ih (t := .pane a w h) (Nat.zero_le _) ok
      | stack => cases hp
      | frame => cases hp
    | false =>
      have IH := fun u (hu : u ∈ t.parts) => ih (t := u) (by have := Tr.part_hi hu; omega) (ok.part hu)
      have hl := ok.len hp
      have ne : t.parts ≠ [] := fun z => by rw [z] at hl; simp at hl
      have P : (t.panes.length : Int) = (t.parts.map fun u => (u.panes.length : Int)).sum := by rw [Tr.panes_eq hp, Tr.panes_sum]
      have pl : ∀ u ∈ t.parts, (u.panes.length : Int) ≤ t.panes.length := fun u hu => by rw [P]; exact le_sum (f := fun u => (u.panes.length : Int)) (fun _ _ => Int.natCast_nonneg _) hu
      have mono : ∀ u ∈ t.parts, (99 + g) * (u.panes.length : Int) - g ≤ (99 + g) * t.panes.length - g := fun u hu => by
        have := Int.mul_le_mul_of_nonneg_left (pl u hu) (show 0 ≤ 99 + g by omega)
        omega
      have sm : (t.parts.map fun u => (99 + g) * (u.panes.length : Int) - g).sum + g * ((t.parts.length : Int) - 1) = (99 + g) * t.panes.length - g := by
        rw [sum_sub g (f := fun u : Tr => (99 + g) * (u.panes.length : Int)), Sh.sum_mulL (99 + g) (f := fun u : Tr => (u.panes.length : Int)), ← P, Int.mul_sub]
        omega
      have gp : 0 ≤ g * ((t.parts.length : Int) - 1) := Int.mul_nonneg hg (by omega)
      obtain ⟨u0, hu0⟩ := List.exists_mem_of_ne_nil _ ne
      have one : ∀ f : Tr → Int, (∀ u ∈ t.parts, 1 ≤ f u ∧ f u ≤ (99 + g) * u.panes.length - g) → (1 ≤ maxL (t.parts.map f) ∧ maxL (t.parts.map f) ≤ (99 + g) * t.panes.length - g) ∧ (1 ≤ (t.parts.map f).sum + g * ((t.parts.length : Int) - 1) ∧ (t.parts.map f).sum + g * ((t.parts.length : Int) - 1) ≤ (99 + g) * t.panes.length - g) := fun f hf => by
        obtain ⟨u, hu, e⟩ := List.mem_map.mp (maxL_mem (l := t.parts.map f) (by simpa using ne))
        refine ⟨?_, ?_⟩
        · rw [← e]
          have := hf u hu
          have := mono u hu
          omega
        · have a1 := le_sum (f := f) (fun x hx => by have := hf x hx; omega) hu0
          have a2 := hf u0 hu0
          have a3 := Sh.sum_le (f := f) (g := fun u => (99 + g) * (u.panes.length : Int) - g) fun u hu => (hf u hu).2
          omega
      have w1 := one (fun u => (u.least g).1) fun u hu => (IH u hu).2.1
      have w2 := one (fun u => (u.least g).2) fun u hu => (IH u hu).2.2
      refine ⟨by have := pl u0 hu0; have := (IH u0 hu0).1; omega, ?_⟩
      rw [Tr.least_eq g hp]
      split
      · exact ⟨w1.2, w2.1⟩
      · split
        · exact ⟨w1.1, w2.2⟩
        · exact ⟨w1.1, w2.1⟩
theorem Tr.Good.ok {t : Tr} (h : t.Good) : t.Ok := ⟨_, _, h.made⟩
theorem Tr.Good.need {t : Tr} (h : t.Good) {g : Int} (hg : 0 ≤ g ∧ g ≤ 9) : (1 ≤ (t.least g).1 ∧ (t.least g).1 ≤ 1287) ∧ (1 ≤ (t.least g).2 ∧ (t.least g).2 ≤ 1287) := by
  obtain ⟨b0, b1, b2⟩ := h.ok.bounds hg.1 _ (Nat.le_refl _)
  have hf := h.few
  have : (99 + g) * (t.panes.length : Int) - g ≤ 1287 := by
    have a := Int.mul_le_mul_of_nonneg_left (show (t.panes.length : Int) ≤ 12 by omega) (show 0 ≤ 99 + g by omega)
    have : (99 + g) * 12 - g ≤ 1287 := by omega
    omega
  omega
/-! ### least_of -/
abbrev prD (p : Int × Int) : D := .tup [.int p.1, .int p.2]
section
variable {exm : Nat → Nat → Bool} {cl : Nat → Nat → List D → M D}
theorem least_run {j : Nat} (H : Has exm cl j (d_least_of j)) (g : Int) : ∀ (k : Nat) (t : Tr) (m : Store), t.hi + 1 ≤ k → t.Ok → cl k j [t.d, .int g] m = .ok (prD (t.least g)) m
  | 0, t, m, hk, _ => by omega
  | k + 1, t, m, hk, ok => by
    rw [H]
    cases hp : t.isP with
    | true =>
      cases t with
      | pane n w h => exact call_ok (r_seqR (r_ifT (b_cmp (v_ix (x := paneD (n, w, h)) (v_var rfl) v_int rfl) v_str rfl) rfl (r_seqR (r_ret (v_tup (l_cons (v_ix (x := paneD (n, w, h)) (v_var rfl) v_int rfl) (l_cons (v_ix (x := paneD (n, w, h)) (v_var rfl) v_int rfl) l_nil)) (nat_le rfl))))))
      | stack => cases hp
      | frame => cases hp
    | false =>
      have hl := ok.len hp
      have ne : t.parts ≠ [] := fun z => by rw [z] at hl; simp at hl
      rw [Tr.d_eq hp, Tr.least_eq g hp]
      have c1 : (den exm (cl k) (.comp (.iseq (.ix (.var 0) (.int 1))) (.nm 3) .hole (.call j (.cons (.var 3) (.cons (.var 1) .nil))) [3])).v [some (.tup [.str t.kd, .tup (t.parts.map Tr.d), t.third]), some (.int g), none, none, none, none, none] m = .ok (.lst (t.parts.map fun u => prD (u.least g))) m :=
        v_compA Tr.d (fun u => prD (u.least g)) (l_seq (v_ix (v_var rfl) v_int rfl) rfl) (by have := big; omega) fun u hu => ⟨_, rfl, v_call (l_cons (v_var rfl) (l_cons (v_var rfl) l_nil)) (least_run H g k u m (by have := Tr.part_hi hu; omega) (ok.part hu))⟩
      have c2 : (den exm (cl k) (.comp (.iseq (.var 2)) (.nm 5) .hole (.ix (.var 5) (.int 0)) [5])).v [some (.tup [.str t.kd, .tup (t.parts.map Tr.d), t.third]), some (.int g), some (.lst (t.parts.map fun u => prD (u.least g))), none, none, none, none] m = .ok (.lst (t.parts.map fun u => .int (u.least g).1)) m :=
        v_compA (fun u : Tr => prD (u.least g)) (fun u => .int (u.least g).1) (l_seq (v_var rfl) rfl) (by have := big; omega) fun u hu => ⟨_, rfl, v_ix (x := prD (u.least g)) (v_var rfl) v_int rfl⟩
      have c3 : (den exm (cl k) (.comp (.iseq (.var 2)) (.nm 5) .hole (.ix (.var 5) (.int 1)) [5])).v [some (.tup [.str t.kd, .tup (t.parts.map Tr.d), t.third]), some (.int g), some (.lst (t.parts.map fun u => prD (u.least g))), none, some (.lst (t.parts.map fun u => .int (u.least g).1)), none, none] m = .ok (.lst (t.parts.map fun u => .int (u.least g).2)) m :=
        v_compA (fun u : Tr => prD (u.least g)) (fun u => .int (u.least g).2) (l_seq (v_var rfl) rfl) (by have := big; omega) fun u hu => ⟨_, rfl, v_ix (x := prD (u.least g)) (v_var rfl) v_int rfl⟩
      let rho : En := [some (.tup [.str t.kd, .tup (t.parts.map Tr.d), t.third]), some (.int g), some (.lst (t.parts.map fun u => prD (u.least g))), none, some (.lst (t.parts.map fun u => .int (u.least g).1)), none, some (.lst (t.parts.map fun u => .int (u.least g).2))]
      have gm : (den exm (cl k) (.bin .mul (.var 1) (.bin .sub (.bi .len (.cons (.var 2) .nil)) (.int 1)))).v rho m = .ok (.int (g * ((t.parts.length : Int) - 1))) m := by
        refine v_bin (v_var rfl) (v_bin (v_bi (l_cons (v_var rfl) l_nil) rfl) v_int rfl) ?_
        rw [List.length_map]
        exact mulS (.inr (by omega))
      have mw : (den exm (cl k) (.bi .max (.cons (.var 4) .nil))).v rho m = .ok (.int (maxL (t.parts.map fun u => (u.least g).1))) m := v_bi (l_cons (v_var rfl) l_nil) (max_of (fun u : Tr => (u.least g).1) ne)
      have mh : (den exm (cl k) (.bi .max (.cons (.var 6) .nil))).v rho m = .ok (.int (maxL (t.parts.map fun u => (u.least g).2))) m := v_bi (l_cons (v_var rfl) l_nil) (max_of (fun u : Tr => (u.least g).2) ne)
      have sw : (den exm (cl k) (.bi .sum (.cons (.var 4) .nil))).v rho m = .ok (.int (t.parts.map fun u => (u.least g).1).sum) m := v_bi (l_cons (v_var rfl) l_nil) (sum_of (fun u : Tr => (u.least g).1) t.parts)
      have sh : (den exm (cl k) (.bi .sum (.cons (.var 6) .nil))).v rho m = .ok (.int (t.parts.map fun u => (u.least g).2).sum) m := v_bi (l_cons (v_var rfl) l_nil) (sum_of (fun u : Tr => (u.least g).2) t.parts)
      refine call_ok (r_seq (r_ifF (b_cmp (v_ix (v_var rfl) v_int rfl) v_str rfl) (Tr.kd_ne hp) r_nil) (r_seq (r_setc c1) (r_seq (r_setc c2) (r_seq (r_setc c3) ?_))))
      by_cases q1 : t.kd = "row"
      · rw [if_pos q1]
        exact r_seqR (r_ifT (b_cmp (v_ix (v_var rfl) v_int rfl) v_str rfl) (show (t.kd == ("row" : Str)) = true by rw [q1]; decide) (r_seqR (r_ret (v_tup (l_cons (v_bin sw gm rfl) (l_cons mh l_nil)) (nat_le rfl)))))
      · rw [if_neg q1]
        refine r_seq (r_ifF (b_cmp (v_ix (v_var rfl) v_int rfl) v_str rfl) (show (t.kd == ("row" : Str)) = false from beq_eq_false_iff_ne.mpr q1) r_nil) ?_
        by_cases q2 : t.kd = "column"
        · rw [if_pos q2]
          exact r_seqR (r_ifT (b_cmp (v_ix (v_var rfl) v_int rfl) v_str rfl) (show (t.kd == ("column" : Str)) = true by rw [q2]; decide) (r_seqR (r_ret (v_tup (l_cons mw (l_cons (v_bin sh gm rfl) l_nil)) (nat_le rfl)))))
        · rw [if_neg q2]
          refine r_seq (r_ifF (b_cmp (v_ix (v_var rfl) v_int rfl) v_str rfl) (show (t.kd == ("column" : Str)) = false from beq_eq_false_iff_ne.mpr q2) r_nil) ?_
          exact r_seqR (r_ret (v_tup (l_cons mw (l_cons mh l_nil)) (nat_le rfl)))
end
end PF
namespace PF
open PySem L2
/-! ### a room shared out, as a function -/
def SizeOut (S L : List Int) (R : Int) (f : List Int) : Prop := ∃ F held T, f = (List.range S.length).map F ∧ Sh.Out S.length (at_ S) (at_ L) R F held T
theorem SizeOut.uniq {S L : List Int} {R : Int} {f f' : List Int} : SizeOut S L R f → SizeOut S L R f' → f = f'
  | ⟨F, held, T, e, o⟩, ⟨F', held', T', e', o'⟩ => by
    rw [e, e']
    exact List.map_congr_left fun i hi => o.uniq o' (List.mem_range.mp hi)
noncomputable def shF (S L : List Int) (R : Int) : List Int := open Classical in if h : ∃ f, SizeOut S L R f then Classical.choose h else []
theorem shF_of {S L : List Int} {R : Int} {f : List Int} (h : SizeOut S L R f) : f = shF S L R := by
  unfold shF
  rw [dif_pos ⟨f, h⟩]
  exact h.uniq (Classical.choose_spec (⟨f, h⟩ : ∃ f, SizeOut S L R f))
section
variable {exm : Nat → Nat → Bool} {cl : Nat → Nat → List D → M D}
theorem shared_run {jh js : Nat} (Hh : Has exm cl jh d_held_least) (Hs : Has exm cl js (d_shared_of jh)) {k : Nat} (hk : 2 ≤ k) {sh : D} {S L : List Int} {R : Int} (q : Shs sh S) (h : Inp S L R) (m : Store) :
    cl k js [.int R, sh, zL L] m = .ok (zL (shF S L R)) m ∧ SizeOut S L R (shF S L R) := by
  obtain ⟨k, rfl, kh⟩ := lev (n := 1) hk
  obtain ⟨k', rfl, _⟩ := lev (n := 0) kh
  rw [Hs]
  obtain ⟨held, q1, q2, q3, q4⟩ := held_run (exm := exm) (cl := cl k') (m := m) q h
  obtain ⟨F, held', T, e, o⟩ := shared_of_run (exm := exm) (cl := cl (k' + 1)) (m := m) jh q h (by rw [Hh]; exact q1) q2 q3 q4
  have so : SizeOut S L R ((List.range S.length).map F) := ⟨F, held', T, rfl, o⟩
  rw [← shF_of so]
  exact ⟨e, so⟩
/-! ### sizes_in -/
def sideL (r : Bool) (p : Int × Int) : Int := if r then p.1 else p.2
noncomputable def Tr.sizes (g : Int) (r : Bool) (ts : List Tr) (ss : List Int) (w h : Int) : List Int := shF ss (ts.map fun u => sideL r (u.least g)) ((if r then w else h) - g * ((ts.length : Int) - 1))
theorem at_map {α : Type} (f : α → Int) {ts : List α} {i : Nat} (h : i < ts.length) : at_ (ts.map f) i = f ts[i] := by
  show (ts.map f).getD i 0 = _
  simp [h]
theorem sum_range (l : List Int) : ((List.range l.length).map (at_ l)).sum = l.sum := (zsum l).symm
theorem frame_inp {g : Int} (hg : 0 ≤ g) {r : Bool} {ts : List Tr} {ss : List Int} (ok : (Tr.frame r ts ss).Ok) {w h : Int} (hw : ((Tr.frame r ts ss).least g).1 ≤ w ∧ w ≤ 2000) (hh : ((Tr.frame r ts ss).least g).2 ≤ h ∧ h ≤ 2000) :
    Inp ss (ts.map fun u => sideL r (u.least g)) ((if r then w else h) - g * ((ts.length : Int) - 1)) := by
  have sh := ok.shares
  have ln := ok.len rfl
  have ln : 2 ≤ ts.length ∧ ts.length ≤ 6 := ln
  have gp : 0 ≤ g * ((ts.length : Int) - 1) := Int.mul_nonneg hg (by omega)
  have bd : ∀ u ∈ ts, 1 ≤ sideL r (u.least g) := fun u hu => by
    have := (Tr.Ok.part ok hu).bounds hg _ (Nat.le_refl _)
    unfold sideL
    split <;> omega
  refine ⟨by rw [List.length_map]; exact sh.1.symm, by omega, by split <;> omega, fun i hi => ?_, ⟨by omega, fun i hi => ?_, fun i hi => ?_, ?_⟩⟩
  · have e : at_ ss i = ss[i] := by show ss.getD i 0 = _; simp [hi]
    have := sh.2 _ (List.getElem_mem hi)
    rw [e]
    omega
  · have e : at_ ss i = ss[i] := by show ss.getD i 0 = _; simp [hi]
    have := sh.2 _ (List.getElem_mem hi)
    rw [e]
    omega
  · rw [at_map _ (show i < ts.length by omega)]
    exact bd _ (List.getElem_mem _)
  · have e : ss.length = (ts.map fun u => sideL r (u.least g)).length := by rw [List.length_map]; exact sh.1
    rw [e, sum_range]
    rw [Tr.least, Tr.leasts_eq, frL] at hw hh
    cases r with
    | true =>
      rw [if_pos rfl] at hw ⊢
      rw [List.map_map, List.length_map] at hw
      have hw : (ts.map fun u => (u.least g).1).sum + g * ((ts.length : Int) - 1) ≤ w ∧ w ≤ 2000 := hw
      show (ts.map fun u => (u.least g).1).sum ≤ _
      omega
    | false =>
      rw [if_neg (by decide)] at hh ⊢
      rw [List.map_map, List.map_map, List.length_map] at hh
      have hh : (ts.map fun u => (u.least g).2).sum + g * ((ts.length : Int) - 1) ≤ h ∧ h ≤ 2000 := hh
      show (ts.map fun u => (u.least g).2).sum ≤ _
      omega
theorem sizes_run {jz jl js jh : Nat} (Hz : Has exm cl jz (d_sizes_in jl js)) (Hl : Has exm cl jl (d_least_of jl)) (Hh : Has exm cl jh d_held_least) (Hs : Has exm cl js (d_shared_of jh)) {g : Int} (hg : 0 ≤ g) {r : Bool} {ts : List Tr} {ss : List Int} (ok : (Tr.frame r ts ss).Ok)
    {w h : Int} (hw : ((Tr.frame r ts ss).least g).1 ≤ w ∧ w ≤ 2000) (hh : ((Tr.frame r ts ss).least g).2 ≤ h ∧ h ≤ 2000) {k : Nat} (hk : Tr.his ts + 3 ≤ k) (m : Store) :
    cl k jz [(Tr.frame r ts ss).d, .int w, .int h, .int g] m = .ok (zL (Tr.sizes g r ts ss w h)) m ∧ SizeOut ss (ts.map fun u => sideL r (u.least g)) ((if r then w else h) - g * ((ts.length : Int) - 1)) (Tr.sizes g r ts ss w h) := by
  obtain ⟨k, rfl, kh⟩ := lev (n := Tr.his ts + 2) hk
  have ln : 2 ≤ ts.length ∧ ts.length ≤ 6 := ok.len rfl
  obtain ⟨q1, q2⟩ := shared_run Hh Hs (k := k) (by omega) (Shs.tup ss) (frame_inp hg ok hw hh) m
  refine ⟨?_, q2⟩
  rw [Hz, show (Tr.frame r ts ss).d = .tup [.str (kdS r), .tup (ts.map Tr.d), zT ss] from Tr.d_eq rfl]
  let sd : Int := if r then 0 else 1
  have e1 : (den exm (cl k) (.bi .int (.cons (.cmp .eq (.ix (.var 0) (.int 0)) (.str "column")) .nil))).v [some (.tup [.str (kdS r), .tup (ts.map Tr.d), zT ss]), some (.int w), some (.int h), some (.int g), none, none, none] m = .ok (.int sd) m := by
    refine v_bi (l_cons (v_cmp (v_ix (v_var rfl) v_int rfl) v_str rfl) l_nil) ?_
    cases r <;> rfl
  have c : (den exm (cl k) (.comp (.iseq (.ix (.var 0) (.int 1))) (.nm 6) .hole (.ix (.call jl (.cons (.var 6) (.cons (.var 3) .nil))) (.var 4)) [6])).v [some (.tup [.str (kdS r), .tup (ts.map Tr.d), zT ss]), some (.int w), some (.int h), some (.int g), some (.int sd), none, none] m = .ok (.lst (ts.map fun u => .int (sideL r (u.least g)))) m :=
    v_compA Tr.d (fun u => .int (sideL r (u.least g))) (l_seq (v_ix (v_var rfl) v_int rfl) rfl) (by have := big; omega) fun u hu => ⟨_, rfl, v_ix (v_call (l_cons (v_var rfl) (l_cons (v_var rfl) l_nil)) (least_run Hl g k u m (by have := Tr.hi_mem hu; omega) (Tr.Ok.part ok hu))) (v_var rfl) (by cases r <;> rfl)⟩
  have e2 : (ts.map fun u => D.int (sideL r (u.least g))) = (ts.map fun u => sideL r (u.least g)).map D.int := by rw [List.map_map]; rfl
  rw [e2] at c
  refine call_ok (r_seq (r_set e1) (r_seq (r_setc c) (r_seqR (r_ret (v_call (l_cons (v_bin (x := .int (if r then w else h)) (v_ix (v_lst (l_cons (v_var rfl) (l_cons (v_var rfl) l_nil)) (nat_le rfl)) (v_var rfl) ?_) (v_bin (d := .int (g * ((ts.length : Int) - 1))) (v_var rfl) (v_bin (v_bi (l_cons (v_var rfl) l_nil) rfl) v_int rfl) ?_) rfl) (l_cons (v_ix (v_var rfl) v_int rfl) (l_cons (v_var rfl) l_nil))) q1)))))
  · cases r <;> rfl
  · rw [List.length_map, List.length_map]
    exact mulS (.inr (by omega))
/-! ### places_of -/
abbrev Pl := Int × Int × Int × Int × Int × Bool
def plD (q : Pl) : D := .tup [.int q.1, .int q.2.1, .int q.2.2.1, .int q.2.2.2.1, .int q.2.2.2.2.1, .bl q.2.2.2.2.2]
mutual
noncomputable def Tr.places (g : Int) : Tr → Int → Int → Int → Int → Bool → List Pl
  | .pane n _ _, l, t, w, h, sh => [(n, l, t, w, h, sh)]
  | .stack ps top, l, t, w, h, sh => ps.zipIdx.map fun p => (p.1.1, l, t, w, h, sh && ((p.2 : Int) == top))
  | .frame r ts ss, l, t, w, h, sh => Tr.placesF g r ts (shF ss ((Tr.leasts g ts).map (sideL r)) ((if r then w else h) - g * ((ts.length : Int) - 1))) l t w h sh
noncomputable def Tr.placesF (g : Int) : Bool → List Tr → List Int → Int → Int → Int → Int → Bool → List Pl
  | true, u :: ts, s :: zs, l, t, w, h, sh => u.places g l t s h sh ++ Tr.placesF g true ts zs (l + (s + g)) t w h sh
  | false, u :: ts, s :: zs, l, t, w, h, sh => u.places g l t w s sh ++ Tr.placesF g false ts zs l (t + (s + g)) w h sh
  | _, _, _, _, _, _, _, _ => []
end
theorem Tr.sizes_eq {g : Int} {r : Bool} {ts : List Tr} {ss : List Int} {w h : Int} : shF ss ((Tr.leasts g ts).map (sideL r)) ((if r then w else h) - g * ((ts.length : Int) - 1)) = Tr.sizes g r ts ss w h := by
  rw [Tr.sizes, Tr.leasts_eq, List.map_map]
  rfl
theorem SizeOut.len {S L : List Int} {R : Int} {f : List Int} : SizeOut S L R f → f.length = S.length
  | ⟨F, _, _, e, _⟩ => by rw [e, List.length_map, List.length_range]
theorem SizeOut.ge {S L : List Int} {R : Int} {f : List Int} (hy : Sh.Hyp S.length (at_ S) (at_ L) R) : SizeOut S L R f → ∀ i, i < S.length → at_ L i ≤ at_ f i
  | ⟨F, held, T, e, o⟩, i, hi => by
    have : at_ f i = F i := by rw [e, at_map F (by rwa [List.length_range]), List.getElem_range]
    rw [this]
    exact o.ge hy hi
theorem SizeOut.sum {S L : List Int} {R : Int} {f : List Int} (hy : Sh.Hyp S.length (at_ S) (at_ L) R) : SizeOut S L R f → f.sum = R
  | ⟨F, held, T, e, o⟩ => by rw [e]; exact o.sum hy
end
end PF
namespace PF
open PySem L2
/-! ### places_of -/
mutual
theorem Tr.places_len (g : Int) : ∀ (t : Tr) (l tp w h : Int) (sh : Bool), (t.places g l tp w h sh).length ≤ t.panes.length
  | .pane n _ _, l, tp, w, h, sh => by rw [Tr.places, Tr.panes]; exact Nat.le_refl _
  | .stack ps top, l, tp, w, h, sh => by rw [Tr.places, Tr.panes, List.length_map, List.length_zipIdx]; exact Nat.le_refl _
  | .frame r ts ss, l, tp, w, h, sh => by rw [Tr.places, Tr.panes]; exact Tr.placesF_len g r ts _ l tp w h sh
theorem Tr.placesF_len (g : Int) : ∀ (r : Bool) (ts : List Tr) (zs : List Int) (l tp w h : Int) (sh : Bool), (Tr.placesF g r ts zs l tp w h sh).length ≤ (Tr.paness ts).length
  | true, u :: ts, s :: zs, l, tp, w, h, sh => by
    rw [Tr.placesF, Tr.paness, List.length_append, List.length_append]
    have a := Tr.places_len g u l tp s h sh
    have b := Tr.placesF_len g true ts zs (l + (s + g)) tp w h sh
    omega
  | false, u :: ts, s :: zs, l, tp, w, h, sh => by
    rw [Tr.placesF, Tr.paness, List.length_append, List.length_append]
    have a := Tr.places_len g u l tp w s sh
    have b := Tr.placesF_len g false ts zs l (tp + (s + g)) w h sh
    omega
  | true, [], zs, l, tp, w, h, sh => by rw [Tr.placesF]; exact Nat.zero_le _; all_goals simp
  | false, [], zs, l, tp, w, h, sh => by rw [Tr.placesF]; exact Nat.zero_le _; all_goals simp
  | true, u :: ts, [], l, tp, w, h, sh => by rw [Tr.placesF]; exact Nat.zero_le _; all_goals simp
  | false, u :: ts, [], l, tp, w, h, sh => by rw [Tr.placesF]; exact Nat.zero_le _; all_goals simp
end
/-- the parts of a frame have room -/
theorem frame_rooms {g : Int} (hg : 0 ≤ g) {r : Bool} {ts : List Tr} {ss : List Int} (ok : (Tr.frame r ts ss).Ok) {w h : Int} (hw : ((Tr.frame r ts ss).least g).1 ≤ w ∧ w ≤ 2000) (hh : ((Tr.frame r ts ss).least g).2 ≤ h ∧ h ≤ 2000) {zs : List Int} (so : SizeOut ss (ts.map fun u => sideL r (u.least g)) ((if r then w else h) - g * ((ts.length : Int) - 1)) zs) :
    zs.length = ts.length ∧ zs.sum = (if r then w else h) - g * ((ts.length : Int) - 1) ∧ ∀ q ∈ ts.zip zs, sideL r (q.1.least g) ≤ q.2 ∧ q.2 ≤ (if r then w else h) ∧ sideL (!r) (q.1.least g) ≤ (if r then h else w) := by
  have inp := frame_inp hg ok hw hh
  have shl := ok.shares.1
  have ln : 2 ≤ ts.length ∧ ts.length ≤ 6 := ok.len rfl
  have gp : 0 ≤ g * ((ts.length : Int) - 1) := Int.mul_nonneg hg (by omega)
  have l1 := so.len
  have l2 := so.sum inp.hy
  have ge := so.ge inp.hy
  refine ⟨by omega, l2, fun q hq => ?_⟩
  obtain ⟨i, hi, e⟩ := List.mem_iff_getElem.mp hq
  rw [List.getElem_zip] at e
  rw [List.length_zip] at hi
  have hi1 : i < ts.length := by omega
  have hi2 : i < zs.length := by omega
  have e1 : q.1 = ts[i] := by rw [← e]
  have e2 : q.2 = zs[i] := by rw [← e]
  have a1 : sideL r (q.1.least g) ≤ q.2 := by
    have := ge i (by omega)
    rw [at_map _ hi1, show at_ zs i = zs[i] by show zs.getD i 0 = _; simp [hi2]] at this
    rw [e1, e2]
    exact this
  have nn : ∀ x ∈ zs, (0 : Int) ≤ x := fun x hx => by
    obtain ⟨j, hj, e⟩ := List.mem_iff_getElem.mp hx
    have := ge j (by omega)
    rw [show at_ zs j = zs[j] by show zs.getD j 0 = _; simp [hj]] at this
    have := inp.hy.l1 j (by omega)
    rw [← e]
    omega
  have a2 : q.2 ≤ (if r then w else h) := by
    have := le_sum (f := fun x : Int => x) nn (show q.2 ∈ zs by rw [e2]; exact List.getElem_mem _)
    simp only [List.map_id'] at this
    omega
  refine ⟨a1, a2, ?_⟩
  have hm : q.1 ∈ ts := by rw [e1]; exact List.getElem_mem _
  rw [Tr.least, Tr.leasts_eq, frL] at hw hh
  cases r with
  | true =>
    rw [if_pos rfl] at hh ⊢
    rw [List.map_map, List.map_map] at hh
    have := maxL_ge (List.mem_map_of_mem (f := (fun p : Int × Int => p.2) ∘ Tr.least g) hm)
    exact Int.le_trans this hh.1
  | false =>
    rw [if_neg (by decide)] at hw ⊢
    rw [List.map_map] at hw
    have := maxL_ge (List.mem_map_of_mem (f := (fun p : Int × Int => p.1) ∘ Tr.least g) hm)
    exact Int.le_trans this hw.1
abbrev boxD (l t w h : Int) : D := .tup [.int l, .int t, .int w, .int h]
section
variable {exm : Nat → Nat → Bool} {cl : Nat → Nat → List D → M D}
theorem places_pane {j jz : Nat} (H : Has exm cl j (d_places_of j jz)) {k : Nat} (hk : 1 ≤ k) (p : Int × Int × Int) (l t w h g : Int) (b : Bool) (m : Store) :
    cl k j [paneD p, boxD l t w h, .int g, .bl b] m = .ok (.lst [plD (p.1, l, t, w, h, b)]) m := by
  obtain ⟨k, rfl, _⟩ := lev (n := 0) hk
  rw [H]
  exact call_ok (r_seq (r_unp (v_var rfl) rfl) (r_seqR (r_ifT (b_cmp (v_ix (x := paneD p) (v_var rfl) v_int rfl) v_str rfl) rfl (r_seqR (r_ret (v_lst (l_cons (v_tup (l_cons (v_ix (x := paneD p) (v_var rfl) v_int rfl) (l_cons (v_var rfl) (l_cons (v_var rfl) (l_cons (v_var rfl) (l_cons (v_var rfl) (l_cons (v_var rfl) l_nil)))))) (nat_le rfl)) l_nil) (nat_le rfl)))))))
abbrev envP (d : D) (l0 t0 w h g : Int) (sh : Bool) (l t : Int) (acc : List Pl) (x y z : Option D) : En := [some d, some (boxD l0 t0 w h), some (.int g), some (.bl sh), some (.int l), some (.int t), some (.int w), some (.int h), some (.lst (acc.map plD)), x, y, z]
theorem stack_for {j jz : Nat} (H : Has exm cl j (d_places_of j jz)) {k : Nat} (hk : 1 ≤ k) {d : D} {a b : D} {top : Int} (l t w h g : Int) (sh : Bool) (m : Store) (hd : d = .tup [a, b, .int top]) : ∀ (qs : List ((Int × Int × Int) × Nat)) (acc : List Pl) (x y z : Option D), acc.length + qs.length ≤ 1000 →
    ∃ x' y', forS (.tp [9, 10]) (den exm (cl k) (.cons (.ext 8 (.call j (.cons (.var 10) (.cons (.var 1) (.cons (.var 2) (.cons (.and (.var 3) (.cmp .eq (.var 9) (.ix (.var 0) (.int 2)))) .nil)))))) .nil)).s (qs.map fun q => .tup [.int (q.2 : Nat), paneD q.1]) (envP d l t w h g sh l t acc x y z) m = .nx (envP d l t w h g sh l t (acc ++ qs.map fun p => (p.1.1, l, t, w, h, sh && ((p.2 : Int) == top))) x' y' z) m
  | [], acc, x, y, z, _ => ⟨x, y, by rw [List.map_nil, List.map_nil, List.append_nil]; exact f_nil⟩
  | q :: qs, acc, x, y, z, hl => by
    rw [List.length_cons] at hl
    obtain ⟨x', y', hy⟩ := stack_for H hk l t w h g sh m hd qs (acc ++ [(q.1.1, l, t, w, h, sh && ((q.2 : Int) == top))]) (some (.int (q.2 : Nat))) (some (paneD q.1)) z (by rw [List.length_append]; simp; omega)
    refine ⟨x', y', ?_⟩
    rw [List.map_cons]
    refine f_cons rfl (r_seq (r_ext (ds := acc.map plD) (es := [plD (q.1.1, l, t, w, h, sh && ((q.2 : Int) == top))]) rfl (v_call (l_cons (v_var rfl) (l_cons (v_var rfl) (l_cons (v_var rfl) (l_cons (v_and (v_var rfl) fun _ => v_cmp (v_var rfl) (v_ix (v_var (show _ = some (some d) from rfl)) v_int (by rw [hd]; rfl)) rfl) l_nil)))) (places_pane H hk q.1 l t w h g _ m)) (by
      rw [List.length_map]
      have := big
      simp
      omega)) r_nil) ?_
    rw [List.map_cons, show acc ++ (q.1.1, l, t, w, h, sh && ((q.2 : Int) == top)) :: (qs.map fun p => (p.1.1, l, t, w, h, sh && ((p.2 : Int) == top))) = (acc ++ [(q.1.1, l, t, w, h, sh && ((q.2 : Int) == top))]) ++ (qs.map fun p => (p.1.1, l, t, w, h, sh && ((p.2 : Int) == top))) by rw [List.append_assoc]; rfl, ← hy]
    unfold envP
    rw [List.map_append]
    rfl
abbrev bodyF (j : Nat) : I := (.cons (.iff (.tcmp .eq (.ix (.var 0) (.int 0)) (.str "row")) (.cons (.ext 8 (.call j (.cons (.var 10) (.cons (.tup (.cons (.var 4) (.cons (.var 5) (.cons (.var 11) (.cons (.var 7) .nil))))) (.cons (.var 2) (.cons (.var 3) .nil)))))) (.cons (.aug false 4 (.bin .add (.var 11) (.var 2))) .nil)) (.cons (.ext 8 (.call j (.cons (.var 10) (.cons (.tup (.cons (.var 4) (.cons (.var 5) (.cons (.var 6) (.cons (.var 11) .nil))))) (.cons (.var 2) (.cons (.var 3) .nil)))))) (.cons (.aug false 5 (.bin .add (.var 11) (.var 2))) .nil))) .nil)
theorem frame_for {j k : Nat} {d b c : D} {r : Bool} (l0 t0 w h g : Int) (sh : Bool) (m : Store) (hd : d = .tup [.str (kdS r), b, c]) : ∀ (ts : List Tr) (zs : List Int) (l t : Int) (acc : List Pl) (x y z : Option D),
    (∀ q ∈ ts.zip zs, ∀ l t, cl k j [q.1.d, boxD l t (if r then q.2 else w) (if r then h else q.2), .int g, .bl sh] m = .ok (.lst ((q.1.places g l t (if r then q.2 else w) (if r then h else q.2) sh).map plD)) m) → ts.length = zs.length → acc.length + (Tr.paness ts).length ≤ 1000 →
    ∃ l' t' y' z', forS (.tp [10, 11]) (den exm (cl k) (bodyF j)).s (zipD (ts.map Tr.d) (zs.map D.int)) (envP d l0 t0 w h g sh l t acc x y z) m = .nx (envP d l0 t0 w h g sh l' t' (acc ++ Tr.placesF g r ts zs l t w h sh) x y' z') m
  | [], [], l, t, acc, x, y, z, _, _, _ => ⟨l, t, y, z, by
    rw [show Tr.placesF g r [] [] l t w h sh = [] by cases r <;> rw [Tr.placesF] <;> simp, List.append_nil]
    rfl⟩
  | [], s :: zs, l, t, acc, x, y, z, _, hl, _ => by simp at hl
  | u :: ts, [], l, t, acc, x, y, z, _, hl, _ => by simp at hl
  | u :: ts, s :: zs, l, t, acc, x, y, z, hq, hl, hn => by
    rw [Tr.paness, List.length_append] at hn
    have h0 := hq (u, s) (by rw [List.zip_cons_cons]; exact List.mem_cons_self ..) l t
    have hr := fun q hz => hq q (by rw [List.zip_cons_cons]; exact List.mem_cons_of_mem _ hz)
    have hl : ts.length = zs.length := by simpa using hl
    have ap : ∀ (A B C : List Pl), A ++ (B ++ C) = (A ++ B) ++ C := fun A B C => (List.append_assoc A B C).symm
    cases r with
    | true =>
      have pl := Tr.places_len g u l t s h sh
      obtain ⟨l', t', y', z', hy⟩ := frame_for l0 t0 w h g sh m hd ts zs (l + (s + g)) t (acc ++ u.places g l t s h sh) x (some u.d) (some (.int s)) hr hl (by rw [List.length_append]; omega)
      refine ⟨l', t', y', z', ?_⟩
      rw [Tr.placesF, ap, ← hy]
      refine f_cons rfl (r_seq (r_ifT (b_cmp (v_ix (v_var (show _ = some (some d) from rfl)) v_int (by rw [hd]; rfl)) v_str rfl) rfl (r_seq (r_ext (ds := acc.map plD) (es := (u.places g l t s h sh).map plD) rfl (v_call (l_cons (v_var rfl) (l_cons (v_tup (l_cons (v_var rfl) (l_cons (v_var rfl) (l_cons (v_var rfl) (l_cons (v_var rfl) l_nil)))) (nat_le rfl)) (l_cons (v_var rfl) (l_cons (v_var rfl) l_nil)))) h0) (by
        rw [List.length_map, List.length_map]
        have := big
        omega)) (r_seq (r_aug rfl (v_bin (v_var rfl) (v_var rfl) rfl) rfl) r_nil))) r_nil) ?_
      unfold envP
      rw [List.map_append]
      rfl
    | false =>
      have pl := Tr.places_len g u l t w s sh
      obtain ⟨l', t', y', z', hy⟩ := frame_for l0 t0 w h g sh m hd ts zs l (t + (s + g)) (acc ++ u.places g l t w s sh) x (some u.d) (some (.int s)) hr hl (by rw [List.length_append]; omega)
      refine ⟨l', t', y', z', ?_⟩
      rw [Tr.placesF, ap, ← hy]
      refine f_cons rfl (r_seq (r_ifF (b_cmp (v_ix (v_var (show _ = some (some d) from rfl)) v_int (by rw [hd]; rfl)) v_str rfl) rfl (r_seq (r_ext (ds := acc.map plD) (es := (u.places g l t w s sh).map plD) rfl (v_call (l_cons (v_var rfl) (l_cons (v_tup (l_cons (v_var rfl) (l_cons (v_var rfl) (l_cons (v_var rfl) (l_cons (v_var rfl) l_nil)))) (nat_le rfl)) (l_cons (v_var rfl) (l_cons (v_var rfl) l_nil)))) h0) (by
        rw [List.length_map, List.length_map]
        have := big
        omega)) (r_seq (r_aug rfl (v_bin (v_var rfl) (v_var rfl) rfl) rfl) r_nil))) r_nil) ?_
      unfold envP
      rw [List.map_append]
      rfl
theorem places_run {j jz jl js jh : Nat} (H : Has exm cl j (d_places_of j jz)) (Hz : Has exm cl jz (d_sizes_in jl js)) (Hl : Has exm cl jl (d_least_of jl)) (Hh : Has exm cl jh d_held_least) (Hs : Has exm cl js (d_shared_of jh)) {g : Int} (hg : 0 ≤ g) :
    ∀ (k : Nat) (t : Tr), t.hi + 4 ≤ k → t.Ok → t.panes.length ≤ 1000 → ∀ (l tp w h : Int) (sh : Bool) (m : Store), (t.least g).1 ≤ w ∧ w ≤ 2000 → (t.least g).2 ≤ h ∧ h ≤ 2000 → cl k j [t.d, boxD l tp w h, .int g, .bl sh] m = .ok (.lst ((t.places g l tp w h sh).map plD)) m
  | 0, t, hk, _, _, _, _, _, _, _, _, _, _ => by omega
  | k + 1, .pane n pw ph, hk, ok, hn, l, tp, w, h, sh, m, hw, hh => by
    rw [Tr.places]
    exact places_pane H (by omega) (n, pw, ph) l tp w h g sh m
  | k + 1, .stack ps top, hk, ok, hn, l, tp, w, h, sh, m, hw, hh => by
    have hk : 1 + 4 ≤ k + 1 := hk
    rw [H]
    have hd : (Tr.stack ps top).d = .tup [.str "stack", .tup (ps.map paneD), .int top] := rfl
    rw [Tr.panes] at hn
    obtain ⟨x', y', hy⟩ := stack_for (exm := exm) H (k := k) (by omega) l tp w h g sh m hd ps.zipIdx [] none none none (by rw [List.length_zipIdx]; simpa using hn)
    rw [Tr.places]
    refine call_ok (r_seq (r_unp (v_var rfl) rfl) (r_seq (r_ifF (b_cmp (v_ix (v_var (show _ = some (some (Tr.stack ps top).d) from rfl)) v_int (by rw [hd]; rfl)) v_str rfl) (show (("stack" : Str) == ("pane" : Str)) = false by decide) r_nil) (r_seq (r_set (v_lst l_nil (Nat.zero_le _))) (r_seqR (r_ifT (b_cmp (v_ix (v_var (show _ = some (some (Tr.stack ps top).d) from rfl)) v_int (by rw [hd]; rfl)) v_str rfl) (show (("stack" : Str) == ("stack" : Str)) = true by decide) (r_seq (f_of (l_enm (l_cons (v_ix (v_var (show _ = some (some (Tr.stack ps top).d) from rfl)) v_int (by rw [hd]; rfl)) l_nil) ?_) hy) (r_seqR (r_retv rfl))))))))
    show some (enumD (ps.map paneD)) = _
    unfold enumD
    rw [List.zipIdx_map, List.map_map]
    rfl
  | k + 1, .frame r ts ss, hk, ok, hn, l, tp, w, h, sh, m, hw, hh => by
    have hk : Tr.his ts + 1 + 4 ≤ k + 1 := hk
    rw [H]
    have hd : (Tr.frame r ts ss).d = .tup [.str (kdS r), .tup (ts.map Tr.d), zT ss] := Tr.d_eq rfl
    rw [Tr.panes] at hn
    obtain ⟨z1, z2⟩ := sizes_run (exm := exm) (cl := cl) Hz Hl Hh Hs hg ok hw hh (k := k) (by omega) m
    obtain ⟨f1, f2, f3⟩ := frame_rooms hg ok hw hh z2
    obtain ⟨l', t', y', z', hy⟩ := frame_for (exm := exm) (cl := cl) (j := j) (k := k) (r := r) l tp w h g sh m hd ts (Tr.sizes g r ts ss w h) l tp [] none none none (fun q hq l t => by
      have hm : q.1 ∈ ts := (List.of_mem_zip hq).1
      have b := (Tr.Ok.part ok hm).bounds hg _ (Nat.le_refl _)
      have f := f3 q hq
      refine places_run H Hz Hl Hh Hs hg k q.1 (by have := Tr.hi_mem hm; omega) (Tr.Ok.part ok hm) (by have := Tr.paness_mem hm; omega) l t _ _ sh m ?_ ?_
      · cases r with
        | true => exact ⟨f.1, Int.le_trans f.2.1 hw.2⟩
        | false => exact ⟨f.2.2, hw.2⟩
      · cases r with
        | true => exact ⟨f.2.2, hh.2⟩
        | false => exact ⟨f.1, Int.le_trans f.2.1 hh.2⟩) (by omega) (by simpa using hn)
    rw [Tr.places, Tr.sizes_eq]
    refine call_ok (r_seq (r_unp (v_var rfl) rfl) (r_seq (r_ifF (b_cmp (v_ix (v_var (show _ = some (some (Tr.frame r ts ss).d) from rfl)) v_int (by rw [hd]; rfl)) v_str rfl) (show (kdS r == ("pane" : Str)) = false by cases r <;> decide) r_nil) (r_seq (r_set (v_lst l_nil (Nat.zero_le _))) (r_seq (r_ifF (b_cmp (v_ix (v_var (show _ = some (some (Tr.frame r ts ss).d) from rfl)) v_int (by rw [hd]; rfl)) v_str rfl) (show (kdS r == ("stack" : Str)) = false by cases r <;> decide) r_nil) (r_seq (f_of (l_zip (l_cons (v_ix (v_var (show _ = some (some (Tr.frame r ts ss).d) from rfl)) v_int (by rw [hd]; rfl)) (l_cons (v_call (l_cons (v_var rfl) (l_cons (v_var rfl) (l_cons (v_var rfl) (l_cons (v_var rfl) l_nil)))) z1) l_nil)) rfl) hy) (r_seqR (r_retv rfl)))))))
/-! ### look_size, look_room, least, places -/
theorem look_size_ok {j jw x : Nat} (H : Has exm cl j (d_look_size jw x)) (Hw : Has exm cl jw d_is_within) {k : Nat} (hk : 2 ≤ k) {w h g : Int} (hw : 1 ≤ w ∧ w ≤ 2000) (hh : 1 ≤ h ∧ h ≤ 2000) (hg : 0 ≤ g ∧ g ≤ 9) (m : Store) : cl k j [.int w, .int h, .int g] m = .ok .non m := by
  obtain ⟨k, rfl, kh⟩ := lev (n := 1) hk
  rw [H]
  have y : ∀ a b c, a ≤ b ∧ b ≤ c → (!inB a b c) = false := fun a b c z => by rw [inB_iff.mpr z]; rfl
  exact call_nx (r_seq (r_ifF (b_orF (b_not (b_tst (v_call (l_cons (v_var rfl) (l_cons v_int (l_cons v_gint l_nil))) (within_ok Hw kh _ _ _ m)) rfl)) (y _ _ _ hw) (b_orF (b_not (b_tst (v_call (l_cons (v_var rfl) (l_cons v_int (l_cons v_gint l_nil))) (within_ok Hw kh _ _ _ m)) rfl)) (y _ _ _ hh) (b_not (b_tst (v_call (l_cons (v_var rfl) (l_cons v_int (l_cons v_gint l_nil))) (within_ok Hw kh _ _ _ m)) rfl)))) (y _ _ _ hg) r_nil) r_nil)
theorem look_room_ok {j jl x : Nat} (H : Has exm cl j (d_look_room jl x)) (Hl : Has exm cl jl (d_least_of jl)) {t : Tr} (ok : t.Ok) {k : Nat} (hk : t.hi + 2 ≤ k) {w h g : Int} (hw : (t.least g).1 ≤ w) (hh : (t.least g).2 ≤ h) (m : Store) : cl k j [t.d, .int w, .int h, .int g] m = .ok .non m := by
  obtain ⟨k, rfl, kh⟩ := lev (n := t.hi + 1) hk
  rw [H]
  exact call_nx (r_seq (r_set (v_call (l_cons (v_var rfl) (l_cons (v_var rfl) l_nil)) (least_run Hl g k t m kh ok))) (r_seq (r_ifF (b_orF (b_cmp (v_ix (v_var rfl) v_int rfl) (v_var rfl) rfl) (decide_eq_false (by omega)) (b_cmp (v_ix (v_var rfl) v_int rfl) (v_var rfl) rfl)) (decide_eq_false (by omega)) r_nil) r_nil))
end
end PF
namespace PF
open PySem L2
theorem Tr.hi_le : ∀ (n : Nat) {t : Tr} {deep : Int} {kd : Option Bool}, t.hi ≤ n → t.made deep kd = true → (t.hi : Int) + deep ≤ 7 := by
  intro n
  induction n with
  | zero =>
    intro t deep kd hn hm
    cases t with
    | pane a w h =>
      rw [Tr.made, Bool.and_eq_true, decide_eq_true_eq] at hm
      show ((0 : Nat) : Int) + deep ≤ 7
      omega
    | stack ps top => exact absurd hn (by show ¬ (1 ≤ 0); omega)
    | frame r ts ss => exact absurd hn (by show ¬ (Tr.his ts + 1 ≤ 0); omega)
  | succ n ih =>
    intro t deep kd hn hm
    cases t with
    | pane a w h => exact ih (t := .pane a w h) (Nat.zero_le _) hm
    | stack ps top =>
      rw [Tr.made] at hm
      simp only [Bool.and_eq_true, decide_eq_true_eq] at hm
      show ((1 : Nat) : Int) + deep ≤ 7
      omega
    | frame r ts ss =>
      have hn : Tr.his ts + 1 ≤ n + 1 := hn
      rw [Tr.made, Bool.and_eq_true, Tr.mades_eq] at hm
      simp only [Bool.and_eq_true, decide_eq_true_eq] at hm
      have all : ∀ us : List Tr, (∀ u ∈ us, u ∈ ts) → us = [] ∨ (Tr.his us : Int) + (deep + 1) ≤ 7 := by
        intro us
        induction us with
        | nil => exact fun _ => .inl rfl
        | cons u us ih2 =>
          intro hu
          have hm0 := hu u (List.mem_cons_self ..)
          have a := ih (t := u) (by have := Tr.hi_mem hm0; omega) (List.all_eq_true.mp hm.2 u hm0)
          refine .inr ?_
          rw [Tr.his]
          rcases ih2 (fun v hv => hu v (List.mem_cons_of_mem _ hv)) with e | e
          · rw [e]
            show ((max u.hi 0 : Nat) : Int) + (deep + 1) ≤ 7
            omega
          · omega
      have ln := hm.1.1.1.2
      rw [inB_iff] at ln
      show ((Tr.his ts + 1 : Nat) : Int) + deep ≤ 7
      rcases all ts (fun _ z => z) with e | e
      · rw [e] at ln; simp at ln
      · omega
theorem Tr.Good.hi6 {t : Tr} (h : t.Good) : t.hi ≤ 6 := by
  have := Tr.hi_le _ (Nat.le_refl _) h.made
  omega
/-- where the program's defs lie -/
structure Ix where
  (w p s m n t k l h sh ls lr z pl le pa xT xS xR : Nat)
/-- all but least -/
structure Prg0 (exm : Nat → Nat → Bool) (cl : Nat → Nat → List D → M D) (i : Ix) : Prop where
  w : Has exm cl i.w d_is_within
  p : Has exm cl i.p (d_is_pane i.w)
  s : Has exm cl i.s (d_is_stack i.p i.w)
  m : Has exm cl i.m (d_is_made i.p i.s i.w i.m)
  n : Has exm cl i.n (d_panes_of i.n)
  t : Has exm cl i.t (d_is_tree i.m i.n)
  k : Has exm cl i.k (d_look i.t i.xT)
  l : Has exm cl i.l (d_least_of i.l)
  h : Has exm cl i.h d_held_least
  sh : Has exm cl i.sh (d_shared_of i.h)
  ls : Has exm cl i.ls (d_look_size i.w i.xS)
  lr : Has exm cl i.lr (d_look_room i.l i.xR)
  z : Has exm cl i.z (d_sizes_in i.l i.sh)
  pl : Has exm cl i.pl (d_places_of i.pl i.z)
  pa : Has exm cl i.pa (d_places i.k i.ls i.lr i.pl)
structure Prg (exm : Nat → Nat → Bool) (cl : Nat → Nat → List D → M D) (i : Ix) : Prop extends Prg0 exm cl i where
  le : Has exm cl i.le (d_least i.k i.ls i.l)
section
variable {exm : Nat → Nat → Bool} {cl : Nat → Nat → List D → M D} {i : Ix}
theorem Prg0.look (P : Prg0 exm cl i) {t : Tr} (g : t.Good) {k : Nat} (hk : 12 ≤ k) (m : Store) : cl k i.k [t.d] m = .ok .non m := by
  have := g.hi6
  obtain ⟨k, rfl, kh⟩ := lev (n := 11) hk
  exact look_ok P.k m (is_tree_ok P.t P.m P.p P.s P.w P.n g (by omega) m)
theorem Prg.least (P : Prg exm cl i) {t : Tr} (gt : t.Good) {g : Int} (hg : 0 ≤ g ∧ g ≤ 9) {k : Nat} (hk : 13 ≤ k) (m : Store) : cl k i.le [t.d, .int g] m = .ok (prD (t.least g)) m := by
  have := gt.hi6
  obtain ⟨k, rfl, kh⟩ := lev (n := 12) hk
  rw [P.le]
  exact call_ok (r_seq (r_expr (v_call (l_cons (v_var rfl) l_nil) (P.look gt kh m))) (r_seq (r_expr (v_call (l_cons v_int (l_cons v_int (l_cons (v_var rfl) l_nil))) (look_size_ok P.ls P.w (by omega) (by omega) (by omega) hg m))) (r_seqR (r_ret (v_call (l_cons (v_var rfl) (l_cons (v_var rfl) l_nil)) (least_run P.l g k t m (by omega) gt.ok))))))
theorem Prg0.places (P : Prg0 exm cl i) {t : Tr} (gt : t.Good) {g : Int} (hg : 0 ≤ g ∧ g ≤ 9) {w h : Int} (hw : (t.least g).1 ≤ w ∧ w ≤ 2000) (hh : (t.least g).2 ≤ h ∧ h ≤ 2000) {k : Nat} (hk : 13 ≤ k) (m : Store) : cl k i.pa [t.d, .int w, .int h, .int g] m = .ok (.lst ((t.places g 0 0 w h true).map plD)) m := by
  have := gt.hi6
  have nd := gt.need hg
  obtain ⟨k, rfl, kh⟩ := lev (n := 12) hk
  rw [P.pa]
  exact call_ok (r_seq (r_expr (v_call (l_cons (v_var rfl) l_nil) (P.look gt kh m))) (r_seq (r_expr (v_call (l_cons (v_var rfl) (l_cons (v_var rfl) (l_cons (v_var rfl) l_nil))) (look_size_ok P.ls P.w (by omega) (by omega) (by omega) hg m))) (r_seq (r_expr (v_call (l_cons (v_var rfl) (l_cons (v_var rfl) (l_cons (v_var rfl) (l_cons (v_var rfl) l_nil)))) (look_room_ok P.lr P.l gt.ok (by omega) hw.1 hh.1 m))) (r_seqR (r_ret (v_call (l_cons (v_var rfl) (l_cons (v_tup (l_cons v_int (l_cons v_int (l_cons (v_var rfl) (l_cons (v_var rfl) l_nil)))) (nat_le rfl)) (l_cons (v_var rfl) (l_cons v_bl l_nil)))) (places_run P.pl P.z P.l P.h P.sh hg.1 k t (by omega) gt.ok (by have := gt.few; omega) 0 0 w h true m hw hh)))))))
end
end PF
namespace PF
open PySem L2
section
variable {exm : Nat → Nat → Bool} {cl : Nat → Nat → List D → M D}
theorem cell_run {j : Nat} (H : Has exm cl j d__law_cell) {k : Nat} (hk : 1 ≤ k) (ns : List Int) (i : Nat) (z : Int) (hz : z = (i : Int)) (m : Store) : cl k j [.scr ns, .int z] m = .ok (.int (cellAt ns i)) m := by
  subst hz
  obtain ⟨k, rfl, _⟩ := lev (n := 0) hk
  rw [H]
  by_cases h : i < ns.length
  · refine call_ok (r_seqR (r_ifT (b_cmp (v_var rfl) (v_bi (l_cons (v_var rfl) l_nil) rfl) rfl) ?_ (r_seqR (r_ret (v_ix (v_var rfl) (v_var rfl) ?_)))))
    · show decide ((i : Int) < (ns.length : Int)) = true
      rw [decide_eq_true_eq]
      omega
    · show (atI ns (i : Int)).map D.int = _
      rw [at_nat h]
      simp [cellAt, h]
  · refine call_ok (r_seq (r_ifF (b_cmp (v_var rfl) (v_bi (l_cons (v_var rfl) l_nil) rfl) rfl) ?_ r_nil) (r_seqR (r_ret ?_)))
    · show decide ((i : Int) < (ns.length : Int)) = false
      rw [decide_eq_false_iff_not]
      omega
    · have : cellAt ns i = 0 := by
        unfold cellAt
        rw [List.getD_eq_getElem?_getD, List.getElem?_eq_none (by omega)]
        rfl
      rw [this]
      exact v_int
theorem powS {i j : Int} (h : 0 ≤ i ∧ i < 2147483647) (hj : j = 5) : Bop.sem .pow (.int i) (.int j) = some (.int (i ^ 5)) := by
  subst hj
  exact if_pos ⟨by omega, by omega, by omega⟩
theorem seed_run' {j : Nat} (H : Has exm cl j d__law_seed) {k : Nat} (hk : 1 ≤ k) (s x : Int) (m : Store) : ∃ v, cl k j [.int s, .int x] m = .ok (.int v) m ∧ 0 ≤ v ∧ v < 2147483647 := by
  obtain ⟨k, rfl, _⟩ := lev (n := 0) hk
  rw [H]
  refine ⟨_, call_ok (r_seqR (r_ret (v_bin (v_bin (v_bin (v_bin (v_bin (v_bin (v_var rfl) v_int (mulS (.inr (by omega)))) (v_bin v_int (v_var rfl) (mulS (.inl (by omega)))) rfl) v_int rfl) v_int (modS (by omega))) v_int (powS ?_ rfl)) v_int (modS (by omega))))), ?_, ?_⟩
  · exact ⟨Int.emod_nonneg _ (by omega), Int.emod_lt_of_pos _ (by omega)⟩
  · exact Int.emod_nonneg _ (by omega)
  · exact Int.emod_lt_of_pos _ (by omega)
theorem pick_run {j : Nat} (H : Has exm cl j d__law_pick) {k : Nat} (hk : 1 ≤ k) (s : Int) (m : Store) : cl k j [.int s, .int 6] m = .ok (.int (s / 97 % 6)) m := by
  obtain ⟨k, rfl, _⟩ := lev (n := 0) hk
  rw [H]
  exact call_ok (r_seqR (r_ret (v_bin (v_bin (v_var rfl) v_int (divS (by omega))) (v_var rfl) (modS (by omega)))))
theorem mod_b (a : Int) {b : Int} (h : 0 < b) : 0 ≤ a % b ∧ a % b < b := ⟨Int.emod_nonneg _ (by omega), Int.emod_lt_of_pos _ h⟩
/-! ### _law_numbers -/
end
end PF
namespace PF
open PySem L2
mutual
/-- no share above a hundred -/
def Tr.sm : Tr → Bool
  | .pane _ _ _ => true
  | .stack _ _ => true
  | .frame _ ts ss => ss.all (fun s => decide (s ≤ 100)) && Tr.sms ts
def Tr.sms : List Tr → Bool
  | [] => true
  | t :: ts => t.sm && Tr.sms ts
end
end PF
namespace PF
open PySem L2
/-! ### plain facts on what a tree needs -/
theorem maxL_le {l : List Int} {b : Int} (ne : l ≠ []) (h : ∀ x ∈ l, x ≤ b) : maxL l ≤ b := h _ (maxL_mem ne)
theorem maxL_mono {α : Type} {f g : α → Int} {l : List α} {c : Int} (ne : l ≠ []) (h : ∀ x ∈ l, f x ≤ g x + c) : maxL (l.map f) ≤ maxL (l.map g) + c := by
  obtain ⟨a, ha, e⟩ := List.mem_map.mp (maxL_mem (l := l.map f) (by simpa using ne))
  rw [← e]
  have := h a ha
  have := maxL_ge (List.mem_map_of_mem (f := g) ha)
  omega
theorem Tr.Ok.mono {g : Int} (hg : 0 ≤ g) : ∀ (n : Nat) {t : Tr}, t.hi ≤ n → t.Ok → (t.least g).1 ≤ (t.least (g + 1)).1 ∧ (t.least g).2 ≤ (t.least (g + 1)).2 := by
  intro n
  induction n with
  | zero =>
    intro t hn ok
    cases t with
    | pane a w h => exact ⟨Int.le_refl _, Int.le_refl _⟩
    | stack ps top => exact absurd hn (by show ¬ (1 ≤ 0); omega)
    | frame r ts ss => exact absurd hn (by show ¬ (Tr.his ts + 1 ≤ 0); omega)
  | succ n ih =>
    intro t hn ok
    cases hp : t.isP with
    | true =>
      cases t with
      | pane a w h => exact ⟨Int.le_refl _, Int.le_refl _⟩
      | stack => cases hp
      | frame => cases hp
    | false =>
      have IH := fun u (hu : u ∈ t.parts) => ih (t := u) (by have := Tr.part_hi hu; omega) (ok.part hu)
      have hl := ok.len hp
      have ne : t.parts ≠ [] := fun z => by rw [z] at hl; simp at hl
      have m1 := maxL_mono (c := 0) (f := fun u : Tr => (u.least g).1) (g := fun u => (u.least (g + 1)).1) ne fun u hu => by have := (IH u hu).1; omega
      have m2 := maxL_mono (c := 0) (f := fun u : Tr => (u.least g).2) (g := fun u => (u.least (g + 1)).2) ne fun u hu => by have := (IH u hu).2; omega
      have s1 := Sh.sum_le (f := fun u : Tr => (u.least g).1) (g := fun u => (u.least (g + 1)).1) fun u hu => (IH u hu).1
      have s2 := Sh.sum_le (f := fun u : Tr => (u.least g).2) (g := fun u => (u.least (g + 1)).2) fun u hu => (IH u hu).2
      have gg : g * ((t.parts.length : Int) - 1) ≤ (g + 1) * ((t.parts.length : Int) - 1) := Int.mul_le_mul_of_nonneg_right (by omega) (by omega)
      rw [Tr.least_eq g hp, Tr.least_eq (g + 1) hp]
      split
      · exact ⟨by show _ + _ ≤ _ + _; omega, by show maxL _ ≤ maxL _; omega⟩
      · split
        · exact ⟨by show maxL _ ≤ maxL _; omega, by show _ + _ ≤ _ + _; omega⟩
        · exact ⟨by show maxL _ ≤ maxL _; omega, by show maxL _ ≤ maxL _; omega⟩
/-! ### a pane put for another one -/
def putP (p q : Int × Int × Int) : Int × Int × Int := if q.1 = p.1 then p else q
mutual
def Tr.put (p : Int × Int × Int) : Tr → Tr
  | .pane n w h => .pane (putP p (n, w, h)).1 (putP p (n, w, h)).2.1 (putP p (n, w, h)).2.2
  | .stack ps top => .stack (ps.map (putP p)) top
  | .frame r ts ss => .frame r (Tr.puts p ts) ss
def Tr.puts (p : Int × Int × Int) : List Tr → List Tr
  | [] => []
  | t :: ts => t.put p :: Tr.puts p ts
end
theorem Tr.puts_eq (p : Int × Int × Int) : ∀ ts : List Tr, Tr.puts p ts = ts.map (Tr.put p)
  | [] => rfl
  | t :: ts => by rw [Tr.puts, Tr.puts_eq p ts]; rfl
mutual
theorem Tr.put_panes (p : Int × Int × Int) : ∀ t : Tr, (t.put p).panes = t.panes.map (putP p)
  | .pane n w h => by rw [Tr.put, Tr.panes, Tr.panes]; rfl
  | .stack ps top => by rw [Tr.put, Tr.panes, Tr.panes]
  | .frame r ts ss => by rw [Tr.put, Tr.panes, Tr.panes]; exact Tr.puts_panes p ts
theorem Tr.puts_panes (p : Int × Int × Int) : ∀ ts : List Tr, Tr.paness (Tr.puts p ts) = (Tr.paness ts).map (putP p)
  | [] => by rw [Tr.puts, Tr.paness]; rfl
  | t :: ts => by rw [Tr.puts, Tr.paness, Tr.paness, List.map_append, Tr.put_panes p t, Tr.puts_panes p ts]
end
theorem putP_fst (p q : Int × Int × Int) : (putP p q).1 = q.1 := by
  unfold putP
  split
  · rename_i h; exact h.symm
  · rfl
theorem Tr.put_nums (p : Int × Int × Int) (t : Tr) : (t.put p).nums = t.nums := by
  unfold Tr.nums
  rw [Tr.put_panes, List.map_map]
  exact List.map_congr_left fun q _ => putP_fst p q
mutual
theorem Tr.put_made (p : Int × Int × Int) (hp : panB p = true) : ∀ (t : Tr) (deep : Int) (kd : Option Bool), t.made deep kd = true → (t.put p).made deep kd = true
  | .pane n w h, deep, kd, hm => by
    rw [Tr.put, Tr.made]
    rw [Tr.made] at hm
    rw [Bool.and_eq_true] at hm ⊢
    refine ⟨?_, hm.2⟩
    show panB (putP p (n, w, h)) = true
    unfold putP
    split
    · exact hp
    · exact hm.1
  | .stack ps top, deep, kd, hm => by
    rw [Tr.put, Tr.made]
    rw [Tr.made] at hm
    rw [List.length_map]
    simp only [Bool.and_eq_true] at hm ⊢
    refine ⟨⟨hm.1.1, ?_, hm.1.2.2⟩, hm.2⟩
    refine List.all_eq_true.mpr fun q hq => ?_
    obtain ⟨x, hx, e⟩ := List.mem_map.mp hq
    rw [← e]
    unfold putP
    split
    · exact hp
    · exact List.all_eq_true.mp hm.1.2.1 x hx
  | .frame r ts ss, deep, kd, hm => by
    rw [Tr.put, Tr.made]
    rw [Tr.made] at hm
    simp only [Bool.and_eq_true, decide_eq_true_eq] at hm ⊢
    have e : (Tr.puts p ts).length = ts.length := by rw [Tr.puts_eq, List.length_map]
    rw [e]
    exact ⟨hm.1, Tr.puts_made p hp ts _ _ hm.2⟩
theorem Tr.puts_made (p : Int × Int × Int) (hp : panB p = true) : ∀ (ts : List Tr) (deep : Int) (kd : Option Bool), Tr.mades ts deep kd = true → Tr.mades (Tr.puts p ts) deep kd = true
  | [], deep, kd, _ => by rw [Tr.puts, Tr.mades]
  | t :: ts, deep, kd, hm => by
    rw [Tr.mades, Bool.and_eq_true] at hm
    rw [Tr.puts, Tr.mades, Bool.and_eq_true]
    exact ⟨Tr.put_made p hp t deep kd hm.1, Tr.puts_made p hp ts deep kd hm.2⟩
end
theorem Tr.Good.put {t : Tr} (g : t.Good) {p : Int × Int × Int} (hp : panB p = true) : (t.put p).Good := ⟨Tr.put_made p hp t _ _ g.made, by rw [Tr.put_panes, List.length_map]; exact g.few, by rw [Tr.put_nums]; exact g.nd⟩
end PF
namespace PF
open PySem L2
theorem has_of {exm : Nat → Nat → Bool} {fds : List FD} {j : Nat} {d : FD} (h : fds[j]? = some d) (hj : j < 1000) : Has exm (run2 exm fds) j d := fun k => by
  rw [run2_lo hj]
  exact run_at h
theorem ne_self {d : D} (h : d.pl = true) (hd : d.dp ≤ 64) : Cop.sem .ne d d = some (.bl false) := by
  have e : eqOk d d = true := eqOk_iff.mpr ⟨h, h, hd, hd⟩
  show neD d d = _
  unfold neD
  rw [eqb_refl d h, e, Bool.or_true, if_pos rfl]
  rfl
theorem eq_self {d : D} (h : d.pl = true) (hd : d.dp ≤ 64) : Cop.sem .eq d d = some (.bl true) := by
  have e : eqOk d d = true := eqOk_iff.mpr ⟨h, h, hd, hd⟩
  show eqD d d = _
  unfold eqD
  rw [eqb_refl d h, e, Bool.or_true, if_pos rfl]
theorem plL_of : ∀ {ds : List D}, (∀ d ∈ ds, d.pl = true) → D.plL ds = true
  | [], _ => rfl
  | d :: ds, h => by
    rw [D.plL, h d (List.mem_cons_self ..), plL_of fun e he => h e (List.mem_cons_of_mem _ he)]
    rfl
theorem dpL_of {n : Nat} : ∀ {ds : List D}, (∀ d ∈ ds, d.dp ≤ n) → D.dpL ds ≤ n
  | [], _ => Nat.zero_le _
  | d :: ds, h => by
    have a := h d (List.mem_cons_self ..)
    have b := dpL_of fun e he => h e (List.mem_cons_of_mem _ he)
    rw [D.dpL]
    omega
theorem min2 (a b : Int) : Bi.sem .min [.int a, .int b] = some (.int (min a b)) := by
  show some (D.int (if b < a then b else a)) = _
  congr 2
  split <;> omega
theorem max2 (a b : Int) : Bi.sem .max [.int a, .int b] = some (.int (max a b)) := by
  show some (D.int (if b > a then b else a)) = _
  congr 2
  split <;> omega
end PF
namespace PF
open PySem L2
/-! ### trees as plain data -/
theorem Tr.d_pl : ∀ (n : Nat) (t : Tr), t.hi ≤ n → t.d.pl = true ∧ t.d.dp ≤ 2 * t.hi + 1 := by
  intro n
  induction n with
  | zero =>
    intro t hn
    cases t with
    | pane a w h => exact ⟨by show (PyData.strOk _ && _) = true; rw [show PyData.strOk ("pane" : Str) = true by decide +kernel]; rfl, nat_le rfl⟩
    | stack ps top => exact absurd hn (by show ¬ (1 ≤ 0); omega)
    | frame r ts ss => exact absurd hn (by show ¬ (Tr.his ts + 1 ≤ 0); omega)
  | succ n ih =>
    intro t hn
    cases hp : t.isP with
    | true =>
      cases t with
      | pane a w h => exact ⟨by show (PyData.strOk _ && _) = true; rw [show PyData.strOk ("pane" : Str) = true by decide +kernel]; rfl, nat_le rfl⟩
      | stack => cases hp
      | frame => cases hp
    | false =>
      have th : t.third.pl = true ∧ t.third.dp ≤ 1 := by
        cases t with
        | pane => cases hp
        | stack ps top => exact ⟨rfl, nat_le rfl⟩
        | frame r ts ss =>
          refine ⟨plL_of fun d hd => ?_, ?_⟩
          · obtain ⟨z, _, rfl⟩ := List.mem_map.mp hd
            rfl
          · show D.dpL (ss.map D.int) + 1 ≤ 1
            have : D.dpL (ss.map D.int) ≤ 0 := dpL_of fun d hd => by
              obtain ⟨z, _, rfl⟩ := List.mem_map.mp hd
              exact Nat.le_refl _
            omega
      have kd : (D.str t.kd).pl = true := by
        cases t with
        | pane => cases hp
        | stack ps top => show PyData.strOk ("stack" : Str) = true; decide +kernel
        | frame r ts ss =>
          show PyData.strOk (kdS r) = true
          cases r <;> decide +kernel
      have h1 : 1 ≤ t.hi := by
        cases t with
        | pane => cases hp
        | stack ps top => exact Nat.le_refl _
        | frame r ts ss => show 1 ≤ Tr.his ts + 1; omega
      have a1 : D.plL (t.parts.map Tr.d) = true := plL_of fun d hd => by
        obtain ⟨u, hu, rfl⟩ := List.mem_map.mp hd
        exact (ih u (by have := Tr.part_hi hu; omega)).1
      have a2 : D.dpL (t.parts.map Tr.d) ≤ 2 * (t.hi - 1) + 1 := dpL_of fun d hd => by
        obtain ⟨u, hu, rfl⟩ := List.mem_map.mp hd
        have b1 := Tr.part_hi hu
        have b2 := (ih u (by omega)).2
        omega
      rw [Tr.d_eq hp]
      constructor
      · show ((D.str t.kd).pl && (D.plL (t.parts.map Tr.d) && (t.third.pl && true))) = true
        rw [kd, a1, th.1]
        rfl
      · show max 0 (max (D.dpL (t.parts.map Tr.d) + 1) (max t.third.dp 0)) + 1 ≤ _
        omega
theorem ne_tree {t : Tr} (h : t.hi ≤ 30) : Cop.sem .ne t.d t.d = some (.bl false) := by
  have := Tr.d_pl _ t (Nat.le_refl _)
  exact ne_self this.1 (by omega)
theorem eq_tree {t : Tr} (h : t.hi ≤ 30) : Cop.sem .eq t.d t.d = some (.bl true) := by
  have := Tr.d_pl _ t (Nat.le_refl _)
  exact eq_self this.1 (by omega)
theorem zL_pl (l : List Int) : (zL l).pl = true := plL_of fun d hd => by
  obtain ⟨z, _, rfl⟩ := List.mem_map.mp hd
  rfl
theorem zL_dp (l : List Int) : (zL l).dp ≤ 64 := by
  show D.dpL (l.map D.int) + 1 ≤ 64
  have : D.dpL (l.map D.int) ≤ 0 := dpL_of fun d hd => by
    obtain ⟨z, _, rfl⟩ := List.mem_map.mp hd
    exact Nat.le_refl _
  omega
/-! ### turned -/
end PF
namespace PF
open PySem L2
/-! ### trees in rooms: one induction for all that is told of places -/
structure Fit (g : Int) (r : Bool) (ts : List Tr) (zs : List Int) (w h : Int) : Prop where
  len : zs.length = ts.length
  two : 2 ≤ ts.length
  sum : zs.sum = (if r then w else h) - g * ((ts.length : Int) - 1)
  one : ∀ q ∈ ts.zip zs, sideL r (q.1.least g) ≤ q.2 ∧ q.2 ≤ (if r then w else h) ∧ sideL (!r) (q.1.least g) ≤ (if r then h else w)
  pos : ∀ z ∈ zs, 1 ≤ z
theorem Tr.fit_ind {g : Int} (hg : 0 ≤ g) (hS : ∀ S L R, Inp S L R → SizeOut S L R (shF S L R)) {P : Tr → Int → Int → Int → Int → Bool → List Pl → Prop}
    (pane : ∀ a pw ph l tp w h sh, 1 ≤ w → 1 ≤ h → P (.pane a pw ph) l tp w h sh [(a, l, tp, w, h, sh)])
    (stack : ∀ ps top l tp w h sh, (Tr.stack ps top).Ok → 1 ≤ w → 1 ≤ h → P (.stack ps top) l tp w h sh (ps.zipIdx.map fun p => (p.1.1, l, tp, w, h, sh && ((p.2 : Int) == top))))
    (row : ∀ ts ss zs l tp w h sh, (Tr.frame true ts ss).Ok → 1 ≤ w → 1 ≤ h → Fit g true ts zs w h → (∀ q ∈ ts.zip zs, ∀ l, P q.1 l tp q.2 h sh (q.1.places g l tp q.2 h sh)) → P (.frame true ts ss) l tp w h sh (Tr.placesF g true ts zs l tp w h sh))
    (col : ∀ ts ss zs l tp w h sh, (Tr.frame false ts ss).Ok → 1 ≤ w → 1 ≤ h → Fit g false ts zs w h → (∀ q ∈ ts.zip zs, ∀ tp, P q.1 l tp w q.2 sh (q.1.places g l tp w q.2 sh)) → P (.frame false ts ss) l tp w h sh (Tr.placesF g false ts zs l tp w h sh)) :
    ∀ (n : Nat) (t : Tr), t.hi ≤ n → t.Ok → ∀ (l tp w h : Int) (sh : Bool), (t.least g).1 ≤ w ∧ w ≤ 2000 → (t.least g).2 ≤ h ∧ h ≤ 2000 → P t l tp w h sh (t.places g l tp w h sh)
  | n, .pane a pw ph, hn, ok, l, tp, w, h, sh, hw, hh => by
    rw [Tr.places]
    have := ok.pane
    rw [Tr.least] at hw hh
    exact pane a pw ph l tp w h sh (by have := hw.1; dsimp only at this; omega) (by have := hh.1; dsimp only at this; omega)
  | n, .stack ps top, hn, ok, l, tp, w, h, sh, hw, hh => by
    rw [Tr.places]
    have b := ok.bounds hg _ (Nat.le_refl _)
    exact stack ps top l tp w h sh ok (by omega) (by omega)
  | 0, .frame r ts ss, hn, ok, l, tp, w, h, sh, hw, hh => absurd hn (by show ¬ (Tr.his ts + 1 ≤ 0); omega)
  | n + 1, .frame r ts ss, hn, ok, l, tp, w, h, sh, hw, hh => by
    have hn : Tr.his ts + 1 ≤ n + 1 := hn
    rw [Tr.places, Tr.sizes_eq]
    have so := hS _ _ _ (frame_inp hg ok hw hh)
    obtain ⟨f1, f2, f3⟩ := frame_rooms hg ok hw hh so
    have ln : 2 ≤ ts.length ∧ ts.length ≤ 6 := ok.len rfl
    have b := ok.bounds hg _ (Nat.le_refl _)
    have nn : ∀ z ∈ Tr.sizes g r ts ss w h, (1 : Int) ≤ z := fun z hz => by
      obtain ⟨j, hj, e⟩ := List.mem_iff_getElem.mp hz
      have hj2 : j < ts.length := by rw [← f1]; exact hj
      have hz2 : (ts[j], (Tr.sizes g r ts ss w h)[j]) ∈ ts.zip (Tr.sizes g r ts ss w h) := by
        refine List.mem_iff_getElem.mpr ⟨j, by rw [List.length_zip]; omega, ?_⟩
        rw [List.getElem_zip]
      have a := (f3 _ hz2).1
      have b := (Tr.Ok.part ok (List.getElem_mem hj2)).bounds hg _ (Nat.le_refl _)
      rw [e] at a
      have a : sideL r (ts[j].least g) ≤ z := a
      unfold sideL at a
      split at a <;> omega
    have fit : Fit g r ts (Tr.sizes g r ts ss w h) w h := ⟨f1, ln.1, f2, f3, nn⟩
    have IH := fun (x : Tr × Int) (hx : x ∈ ts.zip (Tr.sizes g r ts ss w h)) (l tp w h : Int) => Tr.fit_ind hg hS pane stack row col n x.1 (by have := Tr.hi_mem (List.of_mem_zip hx).1; omega) (Tr.Ok.part ok (List.of_mem_zip hx).1) l tp w h sh
    cases r with
    | true => exact row ts ss _ l tp w h sh ok (by omega) (by omega) fit fun x hx l => IH x hx l tp x.2 h ⟨(f3 x hx).1, Int.le_trans (f3 x hx).2.1 hw.2⟩ ⟨(f3 x hx).2.2, hh.2⟩
    | false => exact col ts ss _ l tp w h sh ok (by omega) (by omega) fit fun x hx tp => IH x hx l tp w x.2 ⟨(f3 x hx).2.2, hw.2⟩ ⟨(f3 x hx).1, Int.le_trans (f3 x hx).2.1 hh.2⟩
/-- the places tell the panes in their order -/
theorem row_nums {g tp w h : Int} {sh : Bool} : ∀ (ts : List Tr) (zs : List Int) (l : Int), zs.length = ts.length → (∀ q ∈ ts.zip zs, ∀ l, (q.1.places g l tp q.2 h sh).map (·.1) = q.1.panes.map (·.1)) → (Tr.placesF g true ts zs l tp w h sh).map (·.1) = (Tr.paness ts).map (·.1)
  | [], zs, l, _, _ => by cases zs <;> rfl
  | t :: ts, [], l, hl, _ => by cases hl
  | t :: ts, z :: zs, l, hl, h => by
    rw [Tr.placesF, Tr.paness, List.map_append, List.map_append, h (t, z) (by rw [List.zip_cons_cons]; exact List.mem_cons_self ..) l, row_nums ts zs _ (by simpa using hl) fun q hq => h q (by rw [List.zip_cons_cons]; exact List.mem_cons_of_mem _ hq)]
theorem col_nums {g l w h : Int} {sh : Bool} : ∀ (ts : List Tr) (zs : List Int) (tp : Int), zs.length = ts.length → (∀ q ∈ ts.zip zs, ∀ tp, (q.1.places g l tp w q.2 sh).map (·.1) = q.1.panes.map (·.1)) → (Tr.placesF g false ts zs l tp w h sh).map (·.1) = (Tr.paness ts).map (·.1)
  | [], zs, tp, _, _ => by cases zs <;> rfl
  | t :: ts, [], tp, hl, _ => by cases hl
  | t :: ts, z :: zs, tp, hl, h => by
    rw [Tr.placesF, Tr.paness, List.map_append, List.map_append, h (t, z) (by rw [List.zip_cons_cons]; exact List.mem_cons_self ..) tp, col_nums ts zs _ (by simpa using hl) fun q hq => h q (by rw [List.zip_cons_cons]; exact List.mem_cons_of_mem _ hq)]
theorem Tr.places_nums {g : Int} (hg : 0 ≤ g) (hS : ∀ S L R, Inp S L R → SizeOut S L R (shF S L R)) {t : Tr} (ok : t.Ok) (l tp w h : Int) (sh : Bool) (hw : (t.least g).1 ≤ w ∧ w ≤ 2000) (hh : (t.least g).2 ≤ h ∧ h ≤ 2000) : (t.places g l tp w h sh).map (·.1) = t.nums := by
  refine Tr.fit_ind hg hS (P := fun t l tp w h sh qs => qs.map (·.1) = t.nums) (fun _ _ _ _ _ _ _ _ _ _ => rfl) (fun ps top l tp w h sh _ _ _ => ?_) (fun ts ss zs l tp w h sh _ _ _ f ih => row_nums ts zs l f.len ih) (fun ts ss zs l tp w h sh _ _ _ f ih => col_nums ts zs tp f.len ih) _ t (Nat.le_refl _) ok l tp w h sh hw hh
  show _ = ps.map (·.1)
  rw [List.map_map]
  rw [show ((fun x : Pl => x.1) ∘ fun p : (Int × Int × Int) × Nat => (p.1.1, l, tp, w, h, sh && ((p.2 : Int) == top))) = (fun p : Int × Int × Int => p.1) ∘ Prod.fst from rfl, ← List.map_map, List.zipIdx_map_fst]
end PF
namespace PF
open PySem L2
/-! ### parts of good trees -/
mutual
theorem Tr.made_dn : ∀ (t : Tr) {D D' : Int} {kd : Option Bool}, D' ≤ D → t.made D kd = true → t.made D' kd = true
  | .pane n w h, D, D', kd, hd, hm => by
    rw [Tr.made] at hm ⊢
    simp only [Bool.and_eq_true, decide_eq_true_eq] at hm ⊢
    exact ⟨hm.1, by omega⟩
  | .stack ps top, D, D', kd, hd, hm => by
    rw [Tr.made] at hm ⊢
    simp only [Bool.and_eq_true, decide_eq_true_eq] at hm ⊢
    exact ⟨hm.1, by omega⟩
  | .frame r ts ss, D, D', kd, hd, hm => by
    rw [Tr.made] at hm ⊢
    simp only [Bool.and_eq_true, decide_eq_true_eq] at hm ⊢
    obtain ⟨⟨⟨⟨⟨h1, h2⟩, h3⟩, h4⟩, h5⟩, h6⟩ := hm
    exact ⟨⟨⟨⟨⟨by omega, h2⟩, h3⟩, h4⟩, h5⟩, Tr.mades_dn ts (by omega) h6⟩
theorem Tr.mades_dn : ∀ (ts : List Tr) {D D' : Int} {kd : Option Bool}, D' ≤ D → Tr.mades ts D kd = true → Tr.mades ts D' kd = true
  | [], D, D', kd, hd, hm => by rw [Tr.mades]
  | t :: ts, D, D', kd, hd, hm => by
    rw [Tr.mades, Bool.and_eq_true] at hm ⊢
    exact ⟨Tr.made_dn t hd hm.1, Tr.mades_dn ts hd hm.2⟩
end
theorem Tr.made_none : ∀ {t : Tr} {D : Int} {kd : Option Bool}, t.made D kd = true → t.made D none = true
  | .pane n w h, D, kd, hm => by rw [Tr.made] at hm ⊢; exact hm
  | .stack ps top, D, kd, hm => by rw [Tr.made] at hm ⊢; exact hm
  | .frame r ts ss, D, kd, hm => by
    rw [Tr.made] at hm ⊢
    simp only [Bool.and_eq_true, decide_eq_true_eq] at hm ⊢
    obtain ⟨⟨⟨⟨⟨h1, h2⟩, h3⟩, h4⟩, h5⟩, h6⟩ := hm
    exact ⟨⟨⟨⟨⟨h1, by simp⟩, h3⟩, h4⟩, h5⟩, h6⟩
theorem panes_sub : ∀ {ts : List Tr} {u : Tr}, u ∈ ts → u.panes.Sublist (Tr.paness ts)
  | t :: ts, u, h => by
    rw [Tr.paness]
    rcases List.mem_cons.mp h with e | e
    · rw [e]; exact List.sublist_append_left _ _
    · exact (panes_sub e).trans (List.sublist_append_right _ _)
theorem Tr.Good.part {t u : Tr} (g : t.Good) (hu : u ∈ t.parts) : u.Good := by
  have hp : t.isP = false := by
    cases t with
    | pane => cases hu
    | stack => rfl
    | frame => rfl
  have sl : u.panes.Sublist t.panes := by rw [Tr.panes_eq hp]; exact panes_sub hu
  refine ⟨?_, by have := sl.length_le; have := g.few; omega, g.nd.sublist (sl.map _)⟩
  cases t with
  | pane => cases hu
  | stack ps top =>
    obtain ⟨p, hpm, e⟩ := List.mem_map.mp hu
    rw [← e]
    have hm := g.made
    rw [Tr.made] at hm
    simp only [Bool.and_eq_true, decide_eq_true_eq] at hm
    rw [Tr.made, List.all_eq_true.mp hm.1.2.1 p hpm]
    rfl
  | frame r ts ss =>
    have hm := g.made
    rw [Tr.made, Bool.and_eq_true, Tr.mades_eq] at hm
    exact Tr.made_none (Tr.made_dn u (by omega) (List.all_eq_true.mp hm.2 u hu))
/-! ### dicts by numbers -/
abbrev kp (p : Int × Int × Int) : Key × D := (.inl p.1, prD p.2)
end PF
namespace PF
open PySem L2
/-! ### turned: all is turned -/
/-! ### tiles -/
abbrev Bx := Int × Int × Int × Int
def Pl.box (q : Pl) : Bx := (q.2.1, q.2.2.1, q.2.2.2.1, q.2.2.2.2.1)
def Pl.sh (q : Pl) : Bool := q.2.2.2.2.2
def nearB (g : Int) (a b : Bx) : Bool := !(decide (a.1 + a.2.2.1 + g ≤ b.1) || decide (b.1 + b.2.2.1 + g ≤ a.1)) && (decide (a.2.1 + a.2.2.2 + g > b.2.1) && decide (b.2.1 + b.2.2.2 + g > a.2.1))
def nearT (g : Int) (q o : Pl) : Bool := !(o.1 == q.1) && nearB g (Pl.box q) (Pl.box o)
def nearL (g : Int) (q : Pl) (qs : List Pl) : List Pl := (qs.filter Pl.sh).filter (nearT g q)
def Tile (g : Int) (qs : List Pl) : Prop := ∀ q ∈ qs, (nearL g q qs).map Pl.box = if Pl.sh q then [] else [Pl.box q]
theorem nearL_app (g : Int) (q : Pl) (A B : List Pl) : nearL g q (A ++ B) = nearL g q A ++ nearL g q B := by
  unfold nearL
  rw [List.filter_append, List.filter_append]
theorem nearL_nil {g : Int} {q : Pl} {A : List Pl} (h : ∀ a ∈ A, nearB g (Pl.box q) (Pl.box a) = false) : nearL g q A = [] := by
  unfold nearL
  rw [List.filter_eq_nil_iff]
  intro a ha
  rw [nearT, h a (List.mem_filter.mp ha).1, Bool.and_false]
  decide
theorem near_comm (g : Int) (a b : Bx) : nearB g a b = nearB g b a := by
  unfold nearB
  rw [Bool.or_comm, Bool.and_comm (decide (a.2.1 + a.2.2.2 + g > b.2.1))]
theorem Tile.app {g : Int} {A B : List Pl} (hA : Tile g A) (hB : Tile g B) (sep : ∀ a ∈ A, ∀ b ∈ B, nearB g (Pl.box a) (Pl.box b) = false) : Tile g (A ++ B) := by
  intro q hq
  rw [nearL_app, List.map_append]
  rcases List.mem_append.mp hq with z | z
  · rw [hA q z, nearL_nil fun b hb => sep q z b hb]
    simp
  · rw [hB q z, nearL_nil fun a ha => by rw [near_comm]; exact sep a ha q z]
    simp
/-- a place lies within a box -/
def Inn (q : Pl) (l tp w h : Int) : Prop := l ≤ q.2.1 ∧ q.2.1 + q.2.2.2.1 ≤ l + w ∧ tp ≤ q.2.2.1 ∧ q.2.2.1 + q.2.2.2.2.1 ≤ tp + h ∧ 1 ≤ q.2.2.2.1 ∧ 1 ≤ q.2.2.2.2.1
def area (q : Pl) : Int := q.2.2.2.1 * q.2.2.2.2.1
def areas (qs : List Pl) : Int := ((qs.filter Pl.sh).map area).sum
theorem areas_app (A B : List Pl) : areas (A ++ B) = areas A + areas B := by
  unfold areas
  rw [List.filter_append, List.map_append, List.sum_append]
theorem idx_filter {α : Type} : ∀ (ps : List α) (s k : Nat) (hk : k < ps.length), ((ps.zipIdx s).filter fun p => (p.2 : Int) == ((s + k : Nat) : Int)) = [(ps[k], s + k)]
  | [], s, k, hk => absurd hk (by simp)
  | a :: ps, s, 0, hk => by
    rw [List.zipIdx_cons, List.filter_cons, if_pos (by simp)]
    have : (ps.zipIdx (s + 1)).filter (fun p => (p.2 : Int) == ((s + 0 : Nat) : Int)) = [] := by
      rw [List.filter_eq_nil_iff]
      intro x hx
      have := List.le_snd_of_mem_zipIdx hx
      simp
      omega
    rw [this]
    rfl
  | a :: ps, s, k + 1, hk => by
    rw [List.zipIdx_cons, List.filter_cons, if_neg (by simp; omega)]
    have := idx_filter ps (s + 1) k (by simpa using hk)
    rw [show s + 1 + k = s + (k + 1) by omega] at this
    rw [this]
    rfl
structure Til (g : Int) (t : Tr) (l tp w h : Int) (qs : List Pl) : Prop where
  inn : ∀ q ∈ qs, Inn q l tp w h
  tile : t.nums.Nodup → Tile g qs
  area : g = 0 → areas qs = w * h
theorem row_til {g : Int} (hg : 0 ≤ g) {tp w h : Int} : ∀ (ts : List Tr) (zs : List Int) (l : Int), zs.length = ts.length → (∀ z ∈ zs, 1 ≤ z) → (∀ q ∈ ts.zip zs, ∀ l, Til g q.1 l tp q.2 h (q.1.places g l tp q.2 h true)) →
    (∀ q ∈ Tr.placesF g true ts zs l tp w h true, Inn q l tp (zs.sum + g * zs.length - g) h) ∧ (((Tr.paness ts).map (·.1)).Nodup → Tile g (Tr.placesF g true ts zs l tp w h true)) ∧ (g = 0 → areas (Tr.placesF g true ts zs l tp w h true) = zs.sum * h)
  | [], [], l, _, _, _ => ⟨fun q hq => by (cases hq), fun _ q hq => (by cases hq), fun _ => by show (0 : Int) = 0 * h; omega⟩
  | [], z :: zs, l, hl, _, _ => by cases hl
  | t :: ts, [], l, hl, _, _ => by cases hl
  | t :: ts, z :: zs, l, hl, hp, ih => by
    obtain ⟨a1, a2, a3⟩ := row_til hg (tp := tp) (w := w) (h := h) ts zs (l + (z + g)) (by simpa using hl) (fun y hy => hp y (List.mem_cons_of_mem _ hy)) fun q hq => ih q (by rw [List.zip_cons_cons]; exact List.mem_cons_of_mem _ hq)
    have b := ih (t, z) (by rw [List.zip_cons_cons]; exact List.mem_cons_self ..) l
    dsimp only at b
    have z1 := hp z (List.mem_cons_self ..)
    have e : (z :: zs).sum + g * ((z :: zs).length : Int) - g = z + (zs.sum + g * (zs.length : Int)) := by
      rw [List.sum_cons, List.length_cons, Int.natCast_succ, Int.mul_add]
      omega
    have s0 : 0 ≤ zs.sum := by
      have := Sh.sum_nn (f := fun x : Int => x) (l := zs) fun y hy => by have := hp y (List.mem_cons_of_mem _ hy); omega
      rw [List.map_id'] at this
      exact this
    have g0 : 0 ≤ g * (zs.length : Int) := Int.mul_nonneg hg (by omega)
    rw [Tr.placesF]
    refine ⟨fun q hq => ?_, fun nd => ?_, fun gz => ?_⟩
    · rw [e]
      rcases List.mem_append.mp hq with y | y
      · have := b.inn q y
        unfold Inn at this ⊢
        omega
      · have := a1 q y
        unfold Inn at this ⊢
        omega
    · rw [Tr.paness, List.map_append, List.nodup_append] at nd
      refine Tile.app (b.tile nd.1) (a2 nd.2.1) fun x hx y hy => ?_
      have i1 := b.inn x hx
      have i2 := a1 y hy
      unfold Inn at i1 i2
      unfold nearB Pl.box
      dsimp only
      rw [decide_eq_true (by omega), Bool.true_or]
      rfl
    · rw [areas_app, b.area gz, a3 gz, List.sum_cons, Int.add_mul]
theorem col_til {g : Int} (hg : 0 ≤ g) {l w h : Int} : ∀ (ts : List Tr) (zs : List Int) (tp : Int), zs.length = ts.length → (∀ z ∈ zs, 1 ≤ z) → (∀ q ∈ ts.zip zs, ∀ tp, Til g q.1 l tp w q.2 (q.1.places g l tp w q.2 true)) →
    (∀ q ∈ Tr.placesF g false ts zs l tp w h true, Inn q l tp w (zs.sum + g * zs.length - g)) ∧ (((Tr.paness ts).map (·.1)).Nodup → Tile g (Tr.placesF g false ts zs l tp w h true)) ∧ (g = 0 → areas (Tr.placesF g false ts zs l tp w h true) = w * zs.sum)
  | [], [], tp, _, _, _ => ⟨fun q hq => by (cases hq), fun _ q hq => (by cases hq), fun _ => by show (0 : Int) = w * 0; omega⟩
  | [], z :: zs, tp, hl, _, _ => by cases hl
  | t :: ts, [], tp, hl, _, _ => by cases hl
  | t :: ts, z :: zs, tp, hl, hp, ih => by
    obtain ⟨a1, a2, a3⟩ := col_til hg (l := l) (w := w) (h := h) ts zs (tp + (z + g)) (by simpa using hl) (fun y hy => hp y (List.mem_cons_of_mem _ hy)) fun q hq => ih q (by rw [List.zip_cons_cons]; exact List.mem_cons_of_mem _ hq)
    have b := ih (t, z) (by rw [List.zip_cons_cons]; exact List.mem_cons_self ..) tp
    dsimp only at b
    have z1 := hp z (List.mem_cons_self ..)
    have e : (z :: zs).sum + g * ((z :: zs).length : Int) - g = z + (zs.sum + g * (zs.length : Int)) := by
      rw [List.sum_cons, List.length_cons, Int.natCast_succ, Int.mul_add]
      omega
    have s0 : 0 ≤ zs.sum := by
      have := Sh.sum_nn (f := fun x : Int => x) (l := zs) fun y hy => by have := hp y (List.mem_cons_of_mem _ hy); omega
      rw [List.map_id'] at this
      exact this
    have g0 : 0 ≤ g * (zs.length : Int) := Int.mul_nonneg hg (by omega)
    rw [Tr.placesF]
    refine ⟨fun q hq => ?_, fun nd => ?_, fun gz => ?_⟩
    · rw [e]
      rcases List.mem_append.mp hq with y | y
      · have := b.inn q y
        unfold Inn at this ⊢
        omega
      · have := a1 q y
        unfold Inn at this ⊢
        omega
    · rw [Tr.paness, List.map_append, List.nodup_append] at nd
      refine Tile.app (b.tile nd.1) (a2 nd.2.1) fun x hx y hy => ?_
      have i1 := b.inn x hx
      have i2 := a1 y hy
      unfold Inn at i1 i2
      unfold nearB Pl.box
      dsimp only
      rw [decide_eq_false (show ¬ x.2.2.1 + x.2.2.2.2.1 + g > y.2.2.1 by omega), Bool.false_and, Bool.and_false]
    · rw [areas_app, b.area gz, a3 gz, List.sum_cons, Int.mul_add]
theorem Tr.til {g : Int} (hg : 0 ≤ g) (hS : ∀ S L R, Inp S L R → SizeOut S L R (shF S L R)) {t : Tr} (ok : t.Ok) (l tp w h : Int) (hw : (t.least g).1 ≤ w ∧ w ≤ 2000) (hh : (t.least g).2 ≤ h ∧ h ≤ 2000) : Til g t l tp w h (t.places g l tp w h true) := by
  refine Tr.fit_ind hg hS (P := fun t l tp w h sh qs => sh = true → Til g t l tp w h qs) ?_ ?_ ?_ ?_ _ t (Nat.le_refl _) ok l tp w h true hw hh rfl
  · intro a pw ph l tp w h sh hw hh e
    subst e
    refine ⟨fun q hq => ?_, fun _ q hq => ?_, fun _ => ?_⟩
    · rw [List.mem_singleton.mp hq]
      unfold Inn
      dsimp only
      omega
    · rw [List.mem_singleton.mp hq]
      simp [nearL, nearT, Pl.sh]
    · show w * h + 0 = w * h
      exact Int.add_zero _
  · intro ps top l tp w h sh ok hw hh e
    subst e
    obtain ⟨deep, kd, hm⟩ := ok
    rw [Tr.made] at hm
    simp only [Bool.and_eq_true, decide_eq_true_eq, inB_iff] at hm
    obtain ⟨k, rfl, hk⟩ : ∃ k : Nat, top = (k : Int) ∧ k < ps.length := ⟨top.toNat, by omega, by omega⟩
    let f : (Int × Int × Int) × Nat → Pl := fun p => (p.1.1, l, tp, w, h, true && ((p.2 : Int) == (k : Int)))
    have shown : (ps.zipIdx.map f).filter Pl.sh = [(ps[k].1, l, tp, w, h, true)] := by
      rw [List.filter_map, show Pl.sh ∘ f = fun p => (p.2 : Int) == ((0 + k : Nat) : Int) from funext fun p => by show (true && ((p.2 : Int) == (k : Int))) = _; rw [Bool.true_and, Nat.zero_add], idx_filter ps 0 k hk]
      show [(ps[k].1, l, tp, w, h, true && (((0 + k : Nat) : Int) == (k : Int)))] = _
      rw [Nat.zero_add, beq_self_eq_true]
      rfl
    refine ⟨fun q hq => ?_, fun nd q hq => ?_, fun _ => ?_⟩
    · obtain ⟨p, _, rfl⟩ := List.mem_map.mp hq
      show l ≤ l ∧ l + w ≤ l + w ∧ tp ≤ tp ∧ tp + h ≤ tp + h ∧ 1 ≤ w ∧ 1 ≤ h
      omega
    · show (((ps.zipIdx.map f).filter Pl.sh).filter (nearT g q)).map Pl.box = _
      rw [shown]
      obtain ⟨p, hp, rfl⟩ := List.mem_map.mp hq
      obtain ⟨p1, p2⟩ := p
      have hp := List.mem_zipIdx' hp
      obtain ⟨hi, e⟩ := hp
      have hi : p2 < ps.length := hi
      have e : p1 = ps[p2] := e
      subst e
      by_cases z : p2 = k
      · subst z
        simp [nearT, Pl.sh]
      · have ne : ¬ ps[k].1 = ps[p2].1 := fun y => by
          have nd : (ps.map (·.1)).Nodup := nd
          have := (List.getElem_inj (i := k) (j := p2) (h₀ := by rw [List.length_map]; exact hk) (h₁ := by rw [List.length_map]; exact hi) nd).mp (by rw [List.getElem_map, List.getElem_map]; exact y)
          omega
        have nb : nearB g (l, tp, w, h) (l, tp, w, h) = true := by
          unfold nearB
          dsimp only
          rw [decide_eq_false (show ¬ l + w + g ≤ l by omega), decide_eq_true (show tp + h + g > tp by omega)]
          rfl
        have z2 : ¬ (p2 : Int) = (k : Int) := by omega
        simp [nearT, Pl.sh, Pl.box, ne, nb, z2]
    · unfold areas
      show ((List.filter Pl.sh (ps.zipIdx.map f)).map area).sum = _
      rw [shown]
      simp [area]
  · intro ts ss zs l tp w h sh ok hw hh f ih e
    subst e
    obtain ⟨a1, a2, a3⟩ := row_til hg (w := w) ts zs l f.len f.pos fun q hq l => ih q hq l rfl
    have fs : zs.sum = w - g * ((ts.length : Int) - 1) := f.sum
    have ew : zs.sum + g * (zs.length : Int) - g = w := by
      rw [fs, f.len, Int.mul_sub]
      omega
    refine ⟨fun q hq => ?_, a2, fun gz => ?_⟩
    · have := a1 q hq
      rw [ew] at this
      exact this
    · rw [a3 gz, fs, gz]
      congr 1
      omega
  · intro ts ss zs l tp w h sh ok hw hh f ih e
    subst e
    obtain ⟨a1, a2, a3⟩ := col_til hg (h := h) ts zs tp f.len f.pos fun q hq tp => ih q hq tp rfl
    have fs : zs.sum = h - g * ((ts.length : Int) - 1) := f.sum
    have ew : zs.sum + g * (zs.length : Int) - g = h := by
      rw [fs, f.len, Int.mul_sub]
      omega
    refine ⟨fun q hq => ?_, a2, fun gz => ?_⟩
    · have := a1 q hq
      rw [ew] at this
      exact this
    · rw [a3 gz, fs, gz]
      congr 1
      omega
end PF
namespace PF
open PySem L2
/-! ### texts: what is read of them -/
abbrev Tx := List Nat
/-! what is read is taken away -/
/-! ### pieces of texts -/
def pos (A a : Tx) : Int := (A.length : Int) - (a.length : Int)
end PF
namespace PF
open PySem L2
section
variable {exm : Nat → Nat → Bool} {cl : Nat → List D → M D} {m m1 m2 : Store} {rho r : En} {a as b : I} {d : D} {ds : List D} {e j n : Nat} {k : Bool} {t : Tg}
theorem f_consR {F : SM} {d0 : D} (hb : t.bind d0 rho = some r) (h : F r m = .rt d m1) : forS t F (d0 :: ds) rho m = .rt d m1 := by
  unfold forS
  rw [hb]
  show cont _ (F r m) = _
  rw [h]
  rfl
end
end PF
namespace PF
open PySem L2
theorem made_stack {ps : List (Int × Int × Int)} {top deep : Int} {kd : Option Bool} (hm : (Tr.stack ps top).made deep kd = true) : (2 ≤ ps.length ∧ ps.length ≤ 6) ∧ (∀ p ∈ ps, panB p = true) ∧ (0 ≤ top ∧ top < ps.length) ∧ deep ≤ 6 := by
  rw [Tr.made] at hm
  simp only [Bool.and_eq_true, decide_eq_true_eq, inB_iff, List.all_eq_true] at hm
  exact ⟨by omega, hm.1.2.1, by omega, hm.2⟩
theorem made_frame {r : Bool} {ts : List Tr} {ss : List Int} {deep : Int} {kd : Option Bool} (hm : (Tr.frame r ts ss).made deep kd = true) : (2 ≤ ts.length ∧ ts.length ≤ 6) ∧ ss.length = ts.length ∧ (∀ s ∈ ss, 1 ≤ s ∧ s ≤ 1000000000000000000000000000000) ∧ (∀ u ∈ ts, u.made (deep + 1) (some r) = true) ∧ deep ≤ 6 := by
  rw [Tr.made, Tr.mades_eq] at hm
  simp only [Bool.and_eq_true, decide_eq_true_eq, inB_iff, List.all_eq_true] at hm
  exact ⟨by omega, hm.1.1.2, hm.1.2, hm.2, hm.1.1.1.1.1⟩
/-! ### how long texts are -/
end PF
namespace PF
open PySem L2
/-- whether it is a good tree -/
def Tr.good (t : Tr) : Bool := t.made 1 none && (decide ((t.nums.length : Int) ≤ 12) && decide ((distN t.nums).length = t.nums.length))
end PF
namespace PF
open PySem L2
/-! ### trees changed: has, place_in, framed -/
def Tr.hasN (n : Int) (t : Tr) : Bool := t.panes.any fun p => p.1 == n
def Tr.isF : Tr → Bool
  | .frame _ _ _ => true
  | _ => false
def Tr.isK (r : Bool) : Tr → Bool
  | .frame r' _ _ => r' == r
  | _ => false
abbrev ones (n : Nat) : List Int := List.replicate n 1
theorem first_has {n : Int} : ∀ {ts : List Tr}, (ts.any fun t => t.hasN n) = true → ∃ A u B, ts = A ++ u :: B ∧ (∀ a ∈ A, a.hasN n = false) ∧ u.hasN n = true
  | [], h => by cases h
  | t :: ts, h => by
    cases z : t.hasN n with
    | true => exact ⟨[], t, ts, rfl, fun _ h => (by cases h), z⟩
    | false =>
      rw [List.any_cons, z, Bool.false_or] at h
      obtain ⟨A, u, B, e, h1, h2⟩ := first_has h
      refine ⟨t :: A, u, B, by rw [e]; rfl, fun a ha => ?_, h2⟩
      rcases List.mem_cons.mp ha with q | q
      · rw [q]; exact z
      · exact h1 a q
theorem any_paness (n : Int) : ∀ ts : List Tr, ((Tr.paness ts).any fun p => p.1 == n) = ts.any fun t => t.hasN n
  | [] => rfl
  | t :: ts => by
    rw [Tr.paness, List.any_append, any_paness n ts, List.any_cons]
    rfl
theorem Tr.hasN_parts {n : Int} {t : Tr} (hp : t.isP = false) : t.hasN n = t.parts.any fun u => u.hasN n := by
  unfold Tr.hasN
  rw [Tr.panes_eq hp]
  exact any_paness n _
theorem kdS_eq (r q : Bool) : (kdS r == kdS q) = (r == q) := by cases r <;> cases q <;> decide
theorem Tr.kd_isK {r : Bool} : ∀ t : Tr, (t.kd == kdS r) = t.isK r
  | .pane _ _ _ => show (("pane" : Str) == kdS r) = false by cases r <;> decide
  | .stack _ _ => show (("stack" : Str) == kdS r) = false by cases r <;> decide
  | .frame q _ _ => kdS_eq q r
theorem Tr.ix0 : ∀ t : Tr, ixD t.d (.int 0) = some (.str t.kd)
  | .pane _ _ _ => rfl
  | .stack _ _ => rfl
  | .frame _ _ _ => rfl
theorem ix_head (x : D) (xs : List D) : ixD (.lst (x :: xs)) (.int 0) = some x := by
  show atI (x :: xs) ((0 : Nat) : Int) = _
  rw [at_nat (by simp)]
  rfl
theorem ix_headT (x : D) (xs : List D) : ixD (.tup (x :: xs)) (.int 0) = some x := by
  show atI (x :: xs) ((0 : Nat) : Int) = _
  rw [at_nat (by simp)]
  rfl
section
variable {exm : Nat → Nat → Bool} {cl : Nat → Nat → List D → M D}
theorem has_run {j jn : Nat} (H : Has exm cl j (d_has jn)) (Hn : Has exm cl jn (d_panes_of jn)) {t : Tr} (hl : t.panes.length ≤ 1000) {k : Nat} (hk : t.hi + 2 ≤ k) (n : Int) (m : Store) : cl k j [t.d, .int n] m = .ok (.bl (t.hasN n)) m := by
  obtain ⟨k, rfl, kh⟩ := lev (n := t.hi + 1) hk
  rw [H]
  refine call_ok (r_seqR (r_ret (v_cmp (v_var rfl) (v_compA paneD (fun p => .int p.1) (l_seq (v_call (l_cons (v_var rfl) l_nil) (panes_run Hn k t m kh hl)) rfl) (by have := big; omega) fun p _ => ⟨_, rfl, v_ix (x := paneD p) (v_var rfl) v_int rfl⟩) ?_)))
  show inD false (.int n) (.lst (t.panes.map fun p => .int p.1)) = _
  have fl : (t.panes.map fun p => D.int p.1).all D.flat = true := by
    rw [List.all_eq_true]
    intro x hx
    obtain ⟨p, _, rfl⟩ := List.mem_map.mp hx
    rfl
  show (if (D.flat (.int n) && (t.panes.map fun p => D.int p.1).all D.flat) = true then some (D.bl (if false = true then _ else (t.panes.map fun p => D.int p.1).any fun y => y.eqb (.int n))) else none) = _
  rw [fl, if_pos (show (D.flat (.int n) && true) = true from rfl), if_neg (by decide), List.any_map]
  rfl
theorem place_run {j jh jn : Nat} (H : Has exm cl j (d_place_in jh)) (Hh : Has exm cl jh (d_has jn)) (Hn : Has exm cl jn (d_panes_of jn)) {t : Tr} (hp : t.isP = false) (hl : t.panes.length ≤ 1000) (hq : t.parts.length ≤ 100) {n : Int} {A B : List Tr} {u : Tr} (e : t.parts = A ++ u :: B) (hA : ∀ a ∈ A, a.hasN n = false) (hu : u.hasN n = true) {k : Nat} (hk : t.hi + 2 ≤ k) (m : Store) :
    cl k j [t.d, .int n] m = .ok (dN A.length) m := by
  obtain ⟨k, rfl, kh⟩ := lev (n := t.hi + 1) hk
  rw [H]
  have en : enm1 [.tup (t.parts.map Tr.d)] = some (t.parts.zipIdx.map fun q => .tup [dN q.2, q.1.d]) := by
    show some (enumD (t.parts.map Tr.d)) = _
    unfold enumD
    rw [List.zipIdx_map, List.map_map]
    rfl
  rw [Tr.d_eq hp]
  have c := v_comp (exm := exm) (cl := cl k) (m := m) (it := .ienm (.cons (.ix (.var 0) (.int 1)) .nil)) (t := .tp [2, 3]) (c := .tst (.call jh (.cons (.var 3) (.cons (.var 1) .nil)))) (f := .var 2) (vs := [2, 3]) (rho := [some (.tup [.str t.kd, .tup (t.parts.map Tr.d), t.third]), some (.int n), none, none]) (fun q : Tr × Nat => .tup [dN q.2, q.1.d]) (fun q => q.1.hasN n) (fun q => dN q.2) (is := t.parts.zipIdx) (l_enm (l_cons (v_ix (v_var rfl) v_int rfl) l_nil) en) (by rw [List.length_zipIdx]; have := big; omega) fun q hq => ⟨_, rfl, by
    have hm := List.fst_mem_of_mem_zipIdx hq
    have h1 := Tr.part_hi hm
    have h2 : q.1.panes.length ≤ (Tr.paness t.parts).length := Tr.paness_mem hm
    rw [← Tr.panes_eq hp] at h2
    exact b_tst (v_call (l_cons (v_var rfl) (l_cons (v_var rfl) l_nil)) (has_run Hh Hn (by omega) (by omega) n m)) rfl, fun _ => v_var rfl⟩
  have f : (t.parts.zipIdx.filter fun q => q.1.hasN n) = (u, A.length) :: ((B.zipIdx (A.length + 1)).filter fun q => q.1.hasN n) := by
    rw [e, List.zipIdx_append, List.filter_append, List.filter_eq_nil_iff.mpr, List.nil_append, List.zipIdx_cons, List.filter_cons, if_pos hu, Nat.zero_add]
    intro q hq
    rw [hA q.1 (List.fst_mem_of_mem_zipIdx hq)]
    decide
  rw [f, List.map_cons] at c
  exact call_ok (r_seqR (r_ret (v_ix c v_int (ix_head _ _))))
/-! reduced, of ones -/
theorem red_while {c0 : Nat → List D → M D} {d : D} {m : Store} : whileS (den exm c0 (.tcmp .gt (.var 2) (.int 0))).b (den exm c0 (.cons (.unp (.tp [1, 2]) (.tup (.cons (.var 2) (.cons (.bin .mod (.var 1) (.var 2)) .nil)))) .nil)).s 2000 [some d, some (.int 1), some (.int 1)] m = .nx [some d, some (.int 1), some (.int 0)] m :=
  w_t (b_cmp (v_var rfl) v_int rfl) rfl (r_seq (r_unp (v_tup (l_cons (v_var rfl) (l_cons (v_bin (v_var rfl) (v_var rfl) rfl) l_nil)) (nat_le rfl)) rfl) r_nil) (w_f (b_cmp (v_var rfl) v_int rfl) rfl)
theorem red_for {c0 : Nat → List D → M D} {d : D} {m : Store} : ∀ (n : Nat) (x : Option D), ∃ y, forS (.nm 2) (den exm c0 (.cons (.whl 2000 (.tcmp .gt (.var 2) (.int 0)) (.cons (.unp (.tp [1, 2]) (.tup (.cons (.var 2) (.cons (.bin .mod (.var 1) (.var 2)) .nil)))) .nil)) .nil)).s ((ones n).map D.int) [some d, some (.int 1), x] m = .nx [some d, some (.int 1), y] m
  | 0, x => ⟨x, f_nil⟩
  | n + 1, x => by
    obtain ⟨y, e⟩ := red_for n (some (.int 0))
    exact ⟨y, by rw [← e]; exact f_cons rfl (r_seq (red_while (exm := exm) (c0 := c0)) r_nil) rfl⟩
theorem reduced_ones {j : Nat} (H : Has exm cl j d_reduced) {k : Nat} (hk : 1 ≤ k) {n : Nat} (h1 : 1 ≤ n) (h2 : n ≤ 100) (m : Store) : cl k j [zT (ones n)] m = .ok (zT (ones n)) m := by
  obtain ⟨k, rfl, _⟩ := lev (n := 0) hk
  rw [H]
  obtain ⟨y, e⟩ := red_for (exm := exm) (c0 := cl k) (d := zT (ones n)) (m := m) n none
  have i0 : ixD (zT (ones n)) (.int 0) = some (.int 1) := by
    obtain ⟨n', rfl⟩ : ∃ n', n = n' + 1 := ⟨n - 1, by omega⟩
    exact ix_headT _ _
  have c : ∀ y : Option D, (den exm (cl k) (.comp (.iseq (.var 0)) (.nm 2) .hole (.bin .div (.var 2) (.var 1)) [2])).v [some (zT (ones n)), some (.int 1), y] m = .ok (.lst ((ones n).map fun s => .int (s / 1))) m := fun y =>
    v_compA D.int (fun s => .int (s / 1)) (l_seq (x := zT (ones n)) (v_var rfl) rfl) (by rw [List.length_replicate]; have := big; omega) fun s _ => ⟨_, rfl, v_bin (v_var rfl) (v_var rfl) (divS (by omega))⟩
  have ed : ((ones n).map fun s => D.int (s / 1)) = (ones n).map D.int := List.map_congr_left fun s _ => by rw [Int.ediv_one]
  refine call_ok (r_seq (r_set (v_ix (v_var rfl) v_int i0)) (r_seq (f_of (l_seq (x := zT (ones n)) (v_var rfl) rfl) e) (r_seqR (r_ret (v_bi (l_cons (c y) l_nil) ?_)))))
  rw [ed]
  rfl
/-! framed, with nothing to be opened -/
abbrev frI : I := (.cons (.iff (.tand (.tcmp .ne (.var 8) (.var 5)) (.tcmp .eq (.ix (.ix (.var 1) (.var 8)) (.int 0)) (.var 0))) (.cons (.set 7 (.bin .mul (.var 7) (.bi .sum (.cons (.ix (.ix (.var 1) (.var 8)) (.int 2)) .nil)))) .nil) .nil) .nil)
abbrev EF (r : Bool) (ps : List Tr) (ss : List Int) (f : List Tr) (g : List Int) (x5 x6 x7 x8 : Option D) : En := [some (.str (kdS r)), some (.tup (ps.map Tr.d)), some (zT ss), some (.lst (f.map Tr.d)), some (.lst (g.map D.int)), x5, x6, x7, x8, none]
theorem fr_inner {c0 : Nat → List D → M D} {r : Bool} {ps : List Tr} {ss : List Int} {f : List Tr} {g : List Int} {x6 : Option D} {at' : Nat} {m : Store} (hk : ∀ p ∈ ps, p.isK r = false) : ∀ (is : List Nat) (x8 : Option D), (∀ i ∈ is, i < ps.length) → ∃ y8, forS (.nm 8) (den exm c0 frI).s (is.map dN) (EF r ps ss f g (some (dN at')) x6 (some (.int 1)) x8) m = .nx (EF r ps ss f g (some (dN at')) x6 (some (.int 1)) y8) m
  | [], x8, _ => ⟨x8, f_nil⟩
  | i :: is, x8, h => by
    obtain ⟨y8, e⟩ := fr_inner hk is (some (dN i)) fun z hz => h z (List.mem_cons_of_mem _ hz)
    have hi := h i (List.mem_cons_self ..)
    refine ⟨y8, ?_⟩
    rw [← e, List.map_cons]
    have gi : ixD (.tup (ps.map Tr.d)) (dN i) = some ps[i].d := by
      show atI (ps.map Tr.d) (i : Int) = _
      rw [at_nat (by rw [List.length_map]; exact hi), List.getElem_map]
    refine f_cons rfl (r_seq (r_ifF (b_and (b_cmp (v_var rfl) (v_var rfl) rfl) fun _ => b_cmp (v_ix (v_ix (v_var rfl) (v_var rfl) gi) v_int (Tr.ix0 _)) (v_var rfl) rfl) ?_ r_nil) r_nil) rfl
    show (_ && (ps[i].kd == kdS r)) = false
    rw [Tr.kd_isK, hk _ (List.getElem_mem hi), Bool.and_false]
abbrev frO : I := (.cons (.set 7 (.int 1)) (.cons (.for (.irng1 (.cons (.bi .len (.cons (.var 1) .nil)) .nil)) (.nm 8) frI) (.cons (.iff (.tcmp .eq (.ix (.var 6) (.int 0)) (.var 0)) (.cons (.ext 3 (.ix (.var 6) (.int 1))) (.cons (.ext 4 (.comp (.iseq (.ix (.var 6) (.int 2))) (.nm 9) .hole (.bin .mul (.bin .mul (.ix (.var 2) (.var 5)) (.var 7)) (.var 9)) [9])) .nil)) (.cons (.app 3 (.var 6)) (.cons (.app 4 (.bin .mul (.ix (.var 2) (.var 5)) (.var 7))) .nil))) .nil)))
theorem fr_outer {c0 : Nat → List D → M D} {r : Bool} {ps : List Tr} {ss : List Int} {m : Store} (hk : ∀ p ∈ ps, p.isK r = false) (hl : ps.length ≤ 100) (hs : ss.length = ps.length) : ∀ (qs : List (Tr × Nat)) (f : List Tr) (g : List Int) (x5 x6 x7 x8 : Option D), (∀ q ∈ qs, q.1 ∈ ps ∧ q.2 < ps.length) → f.length + qs.length ≤ 100 → g.length + qs.length ≤ 100 →
    ∃ y5 y6 y7 y8, forS (.tp [5, 6]) (den exm c0 frO).s (qs.map fun q => .tup [dN q.2, q.1.d]) (EF r ps ss f g x5 x6 x7 x8) m = .nx (EF r ps ss (f ++ qs.map (·.1)) (g ++ qs.map fun q => at_ ss q.2) y5 y6 y7 y8) m
  | [], f, g, x5, x6, x7, x8, _, _, _ => ⟨x5, x6, x7, x8, by simp only [List.map_nil, List.append_nil]; exact f_nil⟩
  | q :: qs, f, g, x5, x6, x7, x8, h, h1, h2 => by
    obtain ⟨hm, hi⟩ := h q (List.mem_cons_self ..)
    rw [List.length_cons] at h1 h2
    obtain ⟨z8, ei⟩ := fr_inner (exm := exm) (c0 := c0) (r := r) (ss := ss) (f := f) (g := g) (x6 := some q.1.d) (at' := q.2) (m := m) hk (List.range ps.length) x8 fun i hi => List.mem_range.mp hi
    obtain ⟨y5, y6, y7, y8, e⟩ := fr_outer hk hl hs qs (f ++ [q.1]) (g ++ [at_ ss q.2]) (some (dN q.2)) (some q.1.d) (some (.int 1)) z8 (fun z hz => h z (List.mem_cons_of_mem _ hz)) (by rw [List.length_append, List.length_singleton]; omega) (by rw [List.length_append, List.length_singleton]; omega)
    refine ⟨y5, y6, y7, y8, ?_⟩
    rw [show f ++ (q :: qs).map (·.1) = (f ++ [q.1]) ++ qs.map (·.1) by simp, show g ++ (q :: qs).map (fun q => at_ ss q.2) = (g ++ [at_ ss q.2]) ++ qs.map (fun q => at_ ss q.2) by simp, ← e, List.map_cons]
    have ln : ∀ {rho : En}, rho[1]? = some (some (.tup (ps.map Tr.d))) → (den exm c0 (.bi .len (.cons (.var 1) .nil))).v rho m = .ok (dN ps.length) m := fun h => v_bi (l_cons (v_var h) l_nil) (by
      show some (D.int ((ps.map Tr.d).length : Int)) = _
      rw [List.length_map])
    refine f_cons rfl (r_seq (r_set v_int) (r_seq (f_of (l_rng (l_cons (ln rfl) l_nil) (rng_of ps.length (by omega))) ei) (r_seq (r_ifF (b_cmp (v_ix (v_var rfl) v_int (Tr.ix0 _)) (v_var rfl) rfl) (show (q.1.kd == kdS r) = false by rw [Tr.kd_isK]; exact hk _ hm) (r_seq (r_app (ds := f.map Tr.d) rfl (v_var rfl) (by rw [List.length_map]; have := big; omega)) (r_seq (r_app (ds := g.map D.int) rfl (v_bin (d := .int (at_ ss q.2 * 1)) (v_ix (v_var rfl) (v_var rfl) ((Shs.tup ss).ix q.2 (by omega))) (v_var rfl) (mulS (.inr (by omega)))) (by rw [List.length_map]; have := big; omega)) r_nil))) r_nil))) ?_
    show forS _ _ _ [some (.str (kdS r)), some (.tup (ps.map Tr.d)), some (zT ss), some (.lst (f.map Tr.d ++ [q.1.d])), some (.lst (g.map D.int ++ [.int (at_ ss q.2 * 1)])), some (dN q.2), some q.1.d, some (.int 1), z8, none] m = _
    rw [Int.mul_one]
    unfold EF
    rw [List.map_append, List.map_append]
    rfl
theorem framed_run {j jr : Nat} (H : Has exm cl j (d_framed jr)) {r : Bool} {ps : List Tr} {ss rs : List Int} (hk : ∀ p ∈ ps, p.isK r = false) (h2 : 2 ≤ ps.length) (hl : ps.length ≤ 100) (hs : ss.length = ps.length) {k : Nat} (m : Store) (hr : cl k jr [zT ss] m = .ok (zT rs) m) :
    cl (k + 1) j [.str (kdS r), .tup (ps.map Tr.d), zT ss] m = .ok (Tr.frame r ps rs).d m := by
  rw [H, show (Tr.frame r ps rs).d = .tup [.str (kdS r), .tup (ps.map Tr.d), zT rs] from Tr.d_eq rfl]
  obtain ⟨y5, y6, y7, y8, e⟩ := fr_outer (exm := exm) (c0 := cl k) (r := r) (m := m) hk hl hs ps.zipIdx [] [] none none none none (fun q hq => ⟨List.fst_mem_of_mem_zipIdx hq, by have := List.snd_lt_of_mem_zipIdx hq; omega⟩) (by rw [List.length_zipIdx]; simpa using hl) (by rw [List.length_zipIdx]; simpa using hl)
  have e1 : ([] ++ ps.zipIdx.map (·.1) : List Tr) = ps := by rw [List.nil_append, List.zipIdx_map_fst]
  have e2 : ([] ++ ps.zipIdx.map fun q => at_ ss q.2) = ss := by
    rw [List.nil_append]
    refine List.ext_getElem? fun i => ?_
    rw [List.getElem?_map, List.getElem?_zipIdx]
    by_cases hi : i < ps.length
    · rw [List.getElem?_eq_getElem hi, List.getElem?_eq_getElem (show i < ss.length by omega)]
      show some (at_ ss (0 + i)) = _
      rw [Nat.zero_add]
      show some (ss.getD i 0) = _
      simp [show i < ss.length by omega]
    · rw [List.getElem?_eq_none (by omega), List.getElem?_eq_none (by omega)]
      rfl
  rw [e1, e2] at e
  have en : enm1 [.tup (ps.map Tr.d)] = some (ps.zipIdx.map fun q => .tup [dN q.2, q.1.d]) := by
    show some (enumD (ps.map Tr.d)) = _
    unfold enumD
    rw [List.zipIdx_map, List.map_map]
    rfl
  have ln : (den exm (cl k) (.bi .len (.cons (.var 1) .nil))).v [some (.str (kdS r)), some (.tup (ps.map Tr.d)), some (zT ss), none, none, none, none, none, none, none] m = .ok (dN ps.length) m := v_bi (l_cons (v_var rfl) l_nil) (by
    show some (D.int ((ps.map Tr.d).length : Int)) = _
    rw [List.length_map])
  refine call_ok (r_seq (r_ifF (b_cmp ln v_int rfl) (show ((ps.length : Int) == 1) = false from beq_eq_false_iff_ne.mpr (by omega)) r_nil) (r_seq (r_set (v_lst l_nil (Nat.zero_le _))) (r_seq (r_set (v_lst l_nil (Nat.zero_le _))) (r_seq (f_of (l_enm (l_cons (v_var rfl) l_nil) en) e) (r_seqR (r_ret (v_tup (l_cons (v_var rfl) (l_cons (v_bi (l_cons (v_var rfl) l_nil) rfl) (l_cons (v_call (l_cons (v_bi (l_cons (v_var rfl) l_nil) rfl) l_nil) hr) l_nil))) (nat_le rfl))))))))
end
end PF
namespace PF
open PySem L2
theorem cut_to {α : Type} (A B : List α) : cutL (A ++ B) none (some (A.length : Int)) = A := by
  unfold cutL
  rw [HT.sIx_none, HT.sIx_nat, List.drop_zero, Nat.sub_zero, List.length_append, Nat.min_eq_left (by omega), List.take_left]
theorem cut_from {α : Type} (A B : List α) {z : Int} (hz : z = (A.length : Int)) : cutL (A ++ B) (some z) none = B := by
  subst hz
  unfold cutL
  rw [HT.sIx_none, HT.sIx_nat, List.length_append, Nat.min_eq_left (by omega), List.drop_left, List.take_of_length_le (by omega)]
theorem add_tup {xs ys : List D} (h : xs.length + ys.length ≤ 1000) : Bop.sem .add (.tup xs) (.tup ys) = some (.tup (xs ++ ys)) := by
  show (if xs.length + ys.length ≤ sizeLine then some (D.tup (xs ++ ys)) else none) = _
  rw [if_pos (by have := big; omega)]
/-! ### a pane beside another, on another, a pane shown: as functions -/
abbrev pT (p : Int × Int × Int) : Tr := .pane p.1 p.2.1 p.2.2
mutual
/-- all shares 1 -/
def Tr.ev : Tr → Bool
  | .pane _ _ _ => true
  | .stack _ _ => true
  | .frame _ ts ss => decide (ss = ones ts.length) && Tr.evs ts
def Tr.evs : List Tr → Bool
  | [] => true
  | t :: ts => t.ev && Tr.evs ts
end
theorem Tr.evs_eq : ∀ ts : List Tr, Tr.evs ts = ts.all Tr.ev
  | [] => rfl
  | t :: ts => by rw [Tr.evs, Tr.evs_eq ts]; rfl
def twoF (kd bh : Bool) (p : Int × Int × Int) (t : Tr) : Tr := .frame kd (if bh then [t, pT p] else [pT p, t]) (ones 2)
mutual
def Tr.bes (n : Int) (kd bh : Bool) (p : Int × Int × Int) : Tr → Tr
  | .pane a w h => twoF kd bh p (.pane a w h)
  | .stack ps top => twoF kd bh p (.stack ps top)
  | .frame r ts _ => .frame r (Tr.bess n kd bh p r ts) (ones (Tr.bess n kd bh p r ts).length)
def Tr.bess (n : Int) (kd bh : Bool) (p : Int × Int × Int) (r : Bool) : List Tr → List Tr
  | [] => []
  | t :: ts => if t.hasN n = true then (if (t.isF || (r != kd)) = true then t.bes n kd bh p :: ts else if bh = true then t :: pT p :: ts else pT p :: t :: ts) else t :: Tr.bess n kd bh p r ts
end
mutual
def Tr.stk (n : Int) (p : Int × Int × Int) : Tr → Tr
  | .pane a w h => .stack [(a, w, h), p] 1
  | .stack ps _ => .stack (ps ++ [p]) ps.length
  | .frame r ts ss => .frame r (Tr.stks n p ts) ss
def Tr.stks (n : Int) (p : Int × Int × Int) : List Tr → List Tr
  | [] => []
  | t :: ts => if t.hasN n = true then t.stk n p :: ts else t :: Tr.stks n p ts
end
mutual
def Tr.rse (n : Int) : Tr → Tr
  | .pane a w h => .pane a w h
  | .stack ps _ => .stack ps (ps.findIdx fun p => p.1 == n)
  | .frame r ts ss => .frame r (Tr.rses n ts) ss
def Tr.rses (n : Int) : List Tr → List Tr
  | [] => []
  | t :: ts => if t.hasN n = true then t.rse n :: ts else t :: Tr.rses n ts
end
theorem bess_split {n : Int} {kd bh : Bool} {p : Int × Int × Int} {r : Bool} {B : List Tr} {u : Tr} : ∀ {A : List Tr}, (∀ a ∈ A, a.hasN n = false) → Tr.bess n kd bh p r (A ++ u :: B) = A ++ Tr.bess n kd bh p r (u :: B)
  | [], _ => rfl
  | a :: A, h => by
    rw [List.cons_append, Tr.bess, if_neg (by rw [h a (List.mem_cons_self ..)]; decide), bess_split fun x hx => h x (List.mem_cons_of_mem _ hx)]
    rfl
theorem stks_split {n : Int} {p : Int × Int × Int} {B : List Tr} {u : Tr} (hu : u.hasN n = true) : ∀ {A : List Tr}, (∀ a ∈ A, a.hasN n = false) → Tr.stks n p (A ++ u :: B) = A ++ u.stk n p :: B
  | [], _ => by rw [List.nil_append, Tr.stks, if_pos hu]; rfl
  | a :: A, h => by
    rw [List.cons_append, Tr.stks, if_neg (by rw [h a (List.mem_cons_self ..)]; decide), stks_split hu fun x hx => h x (List.mem_cons_of_mem _ hx)]
    rfl
theorem rses_split {n : Int} {B : List Tr} {u : Tr} (hu : u.hasN n = true) : ∀ {A : List Tr}, (∀ a ∈ A, a.hasN n = false) → Tr.rses n (A ++ u :: B) = A ++ u.rse n :: B
  | [], _ => by rw [List.nil_append, Tr.rses, if_pos hu]; rfl
  | a :: A, h => by
    rw [List.cons_append, Tr.rses, if_neg (by rw [h a (List.mem_cons_self ..)]; decide), rses_split hu fun x hx => h x (List.mem_cons_of_mem _ hx)]
    rfl
/-- a part of a frame is no frame of its kind -/
theorem made_isK : ∀ {t : Tr} {deep : Int} {r : Bool}, t.made deep (some r) = true → t.isK r = false
  | .pane _ _ _, _, _, _ => rfl
  | .stack _ _, _, _, _ => rfl
  | .frame q ts ss, deep, r, h => by
    rw [Tr.made] at h
    simp only [Bool.and_eq_true, decide_eq_true_eq] at h
    have := h.1.1.1.1.2
    show (q == r) = false
    rw [beq_eq_false_iff_ne]
    exact fun e => this (by rw [e])
theorem bes_isK {n : Int} {kd bh : Bool} {p : Int × Int × Int} {r : Bool} : ∀ {t : Tr}, t.isK r = false → (t.isF || (r != kd)) = true → (t.bes n kd bh p).isK r = false
  | .pane _ _ _, _, h => by
    have h : (false || (r != kd)) = true := h
    show (kd == r) = false
    cases kd <;> cases r <;> first | rfl | (exact absurd h (by decide))
  | .stack _ _, _, h => by
    have h : (false || (r != kd)) = true := h
    show (kd == r) = false
    cases kd <;> cases r <;> first | rfl | (exact absurd h (by decide))
  | .frame q ts ss, h, _ => h
theorem stk_isK {n : Int} {p : Int × Int × Int} {r : Bool} : ∀ {t : Tr}, t.isK r = false → (t.stk n p).isK r = false
  | .pane _ _ _, _ => rfl
  | .stack _ _, _ => rfl
  | .frame _ _ _, h => h
def sideS : Bool → Bool → Str
  | true, false => "left"
  | true, true => "right"
  | false, false => "above"
  | false, true => "below"
theorem frame_split {r : Bool} {ts : List Tr} {ss : List Int} {A B : List Tr} {u : Tr} (e : ts = A ++ u :: B) : (Tr.frame r ts ss).d = .tup [.str (kdS r), .tup (A.map Tr.d ++ u.d :: B.map Tr.d), zT ss] := by
  rw [show (Tr.frame r ts ss).d = .tup [.str (kdS r), .tup (ts.map Tr.d), zT ss] from Tr.d_eq rfl, e, List.map_append, List.map_cons]
section
variable {exm : Nat → Nat → Bool} {cl : Nat → Nat → List D → M D}
theorem is_frame_run {j : Nat} (H : Has exm cl j d_is_frame) {k : Nat} (hk : 1 ≤ k) (t : Tr) (m : Store) : cl k j [t.d] m = .ok (.bl t.isF) m := by
  obtain ⟨k, rfl, _⟩ := lev (n := 0) hk
  rw [H]
  refine call_ok (r_seqR (r_ret (v_cmp (v_ix (v_var rfl) v_int (Tr.ix0 t)) (v_tup (l_cons v_str (l_cons v_str l_nil)) (nat_le rfl)) ?_)))
  cases t with
  | pane => rfl
  | stack => rfl
  | frame r _ _ => cases r <;> rfl
theorem mid_cut {c0 : Nat → List D → M D} {rho : En} {m : Store} {e x y : I} {xs : List D} {v : D} {a : D} {b : List D} (he : (den exm c0 e).v rho m = .ok (.tup (xs ++ a :: b)) m) (hx : (den exm c0 x).v rho m = .ok (dN xs.length) m) (hv : (den exm c0 y).v rho m = .ok v m) (hl : xs.length + b.length ≤ 900) :
    (den exm c0 (.bin .add (.bin .add (.sl e .hole (.prt x)) (.tup (.cons y .nil))) (.sl e (.prt (.bin .add x (.int 1))) .hole))).v rho m = .ok (.tup (xs ++ v :: b)) m := by
  rw [show xs ++ v :: b = (xs ++ [v]) ++ b by simp]
  refine v_bin (v_bin (v_sl he o_hole (o_prt hx) ?_) (v_tup (l_cons hv l_nil) (nat_le rfl)) (add_tup (by rw [List.length_singleton]; omega))) (v_sl he (o_prt (v_bin hx v_int rfl)) o_hole ?_) (add_tup (by rw [List.length_append, List.length_singleton]; omega))
  · show some (D.tup (cutL (xs ++ a :: b) none (some (xs.length : Int)))) = _
    rw [cut_to]
  · show some (D.tup (cutL (xs ++ a :: b) (some ((xs.length : Int) + 1)) none)) = _
    rw [show xs ++ a :: b = (xs ++ [a]) ++ b by simp, cut_from _ _ (by rw [List.length_append, List.length_singleton]; omega)]
theorem with_part_run {j jf jr : Nat} (H : Has exm cl j (d_with_part jf)) (Hf : Has exm cl jf (d_framed jr)) {r : Bool} {A B : List Tr} {u v : Tr} {ss rs : List Int} (hk : ∀ p ∈ A ++ v :: B, p.isK r = false) (h2 : 2 ≤ (A ++ v :: B).length) (hl : (A ++ v :: B).length ≤ 100) (hs : ss.length = (A ++ v :: B).length) {k : Nat} (m : Store) (hr : cl k jr [zT ss] m = .ok (zT rs) m) :
    cl (k + 2) j [(Tr.frame r (A ++ u :: B) ss).d, dN A.length, v.d] m = .ok (Tr.frame r (A ++ v :: B) rs).d m := by
  rw [H, frame_split rfl]
  have fr := framed_run Hf hk h2 hl hs m hr
  rw [List.length_append, List.length_cons] at hl
  have mc := mid_cut (exm := exm) (c0 := cl (k + 1)) (rho := [some (.tup [.str (kdS r), .tup (A.map Tr.d ++ u.d :: B.map Tr.d), zT ss]), some (dN A.length), some v.d]) (m := m) (e := .ix (.var 0) (.int 1)) (x := .var 1) (y := .var 2) (xs := A.map Tr.d) (v := v.d) (a := u.d) (b := B.map Tr.d) (v_ix (v_var rfl) v_int rfl) (by rw [List.length_map]; exact v_var rfl) (v_var rfl) (by rw [List.length_map, List.length_map]; omega)
  rw [show A.map Tr.d ++ v.d :: B.map Tr.d = (A ++ v :: B).map Tr.d by rw [List.map_append, List.map_cons]] at mc
  exact call_ok (r_seqR (r_ret (v_call (l_cons (v_ix (v_var rfl) v_int rfl) (l_cons mc (l_cons (v_ix (v_var rfl) v_int rfl) l_nil))) fr)))
theorem stacked_run {j jp jh jn jw jf jr : Nat} (H : Has exm cl j (d_stacked jp jw j)) (Hp : Has exm cl jp (d_place_in jh)) (Hh : Has exm cl jh (d_has jn)) (Hn : Has exm cl jn (d_panes_of jn)) (Hw : Has exm cl jw (d_with_part jf)) (Hf : Has exm cl jf (d_framed jr)) (Hr : Has exm cl jr d_reduced) (n : Int) (p : Int × Int × Int) :
    ∀ (k : Nat) (t : Tr) (deep : Int) (kd : Option Bool) (m : Store), t.hi + 4 ≤ k → t.made deep kd = true → t.ev = true → t.panes.length ≤ 1000 → t.hasN n = true → cl k j [t.d, .int n, paneD p] m = .ok (t.stk n p).d m
  | 0, t, deep, kd, m, hk, _, _, _, _ => by omega
  | k + 1, .pane a w h, deep, kd, m, hk, hm, he, hl, hn => by
    rw [H]
    exact call_ok (r_seqR (r_ifT (b_cmp (v_ix (x := paneD (a, w, h)) (v_var rfl) v_int rfl) v_str rfl) rfl (r_seqR (r_ret (v_tup (l_cons v_str (l_cons (v_tup (l_cons (v_var rfl) (l_cons (v_var rfl) l_nil)) (nat_le rfl)) (l_cons v_int l_nil))) (nat_le rfl))))))
  | k + 1, .stack ps top, deep, kd, m, hk, hm, he, hl, hn => by
    obtain ⟨h1, h2, h3, h4⟩ := made_stack hm
    rw [H]
    have hd : (Tr.stack ps top).d = .tup [.str "stack", .tup (ps.map paneD), .int top] := rfl
    have d0 : ∀ {rho : En}, rho[0]? = some (some (Tr.stack ps top).d) → (den exm (cl k) (.ix (.var 0) (.int 0))).v rho m = .ok (.str "stack") m := fun h => v_ix (v_var h) v_int rfl
    have d1 : ∀ {rho : En}, rho[0]? = some (some (Tr.stack ps top).d) → (den exm (cl k) (.ix (.var 0) (.int 1))).v rho m = .ok (.tup (ps.map paneD)) m := fun h => v_ix (v_var h) v_int rfl
    rw [show ((Tr.stack ps top).stk n p).d = .tup [.str "stack", .tup (ps.map paneD ++ [paneD p]), .int (ps.length : Int)] by
      show D.tup [.str "stack", .tup ((ps ++ [p]).map paneD), .int (ps.length : Int)] = _
      rw [List.map_append]
      rfl]
    exact call_ok (r_seq (r_ifF (b_cmp (d0 rfl) v_str rfl) (show (("stack" : Str) == ("pane" : Str)) = false by decide) r_nil) (r_seqR (r_ifT (b_cmp (d0 rfl) v_str rfl) (show (("stack" : Str) == ("stack" : Str)) = true by decide) (r_seqR (r_ret (v_tup (l_cons v_str (l_cons (v_bin (d1 rfl) (v_tup (l_cons (v_var rfl) l_nil) (nat_le rfl)) (add_tup (by rw [List.length_map]; show _ + 1 ≤ 1000; omega))) (l_cons (v_bi (l_cons (d1 rfl) l_nil) (by show some (D.int ((ps.map paneD).length : Int)) = _; rw [List.length_map])) l_nil))) (nat_le rfl)))))))
  | k + 1, .frame r ts ss, deep, kd, m, hk, hm, he, hl, hn => by
    have hk : Tr.his ts + 1 + 4 ≤ k + 1 := hk
    obtain ⟨h1, h2, h3, h4, h5⟩ := made_frame hm
    rw [Tr.ev, Bool.and_eq_true, decide_eq_true_eq, Tr.evs_eq, List.all_eq_true] at he
    have hn' := hn
    rw [Tr.hasN_parts rfl] at hn'
    obtain ⟨A, u, B, e, hA, hu⟩ := first_has hn'
    have e : ts = A ++ u :: B := e
    have mu : u ∈ ts := by rw [e]; exact List.mem_append_right _ (List.mem_cons_self ..)
    rw [H]
    have pl := place_run Hp Hh Hn (t := .frame r ts ss) rfl hl (by show ts.length ≤ 100; omega) e hA hu (k := k) (by show Tr.his ts + 1 + 2 ≤ k; omega) m
    have hlp : (Tr.paness ts).length ≤ 1000 := hl
    have ih := stacked_run H Hp Hh Hn Hw Hf Hr n p k u (deep + 1) (some r) m (by have := Tr.hi_mem mu; omega) (h4 u mu) (he.2 u mu) (by have := Tr.paness_mem mu; omega) hu
    obtain ⟨k2, rfl⟩ : ∃ k2, k = k2 + 2 := ⟨k - 2, by omega⟩
    have len : (A ++ u.stk n p :: B).length = ts.length := by rw [e, List.length_append, List.length_append, List.length_cons, List.length_cons]
    have wp := with_part_run Hw Hf (r := r) (A := A) (B := B) (u := u) (v := u.stk n p) (ss := ss) (rs := ss) (fun q hq => by
      rcases List.mem_append.mp hq with z | z
      · exact made_isK (h4 q (by rw [e]; exact List.mem_append_left _ z))
      · rcases List.mem_cons.mp z with y | y
        · rw [y]; exact stk_isK (made_isK (h4 u mu))
        · exact made_isK (h4 q (by rw [e]; exact List.mem_append_right _ (List.mem_cons_of_mem _ y)))) (by omega) (by omega) (by omega) (k := k2) m (by rw [he.1]; exact reduced_ones Hr (by omega) (by omega) (by omega) m)
    rw [← e] at wp
    rw [Tr.stk, e, stks_split hu hA, ← e]
    have hd : (Tr.frame r ts ss).d = .tup [.str (kdS r), .tup (A.map Tr.d ++ u.d :: B.map Tr.d), zT ss] := frame_split e
    have gi : ixD (.tup (A.map Tr.d ++ u.d :: B.map Tr.d)) (dN A.length) = some u.d := by
      show atI _ ((A.length : Nat) : Int) = _
      rw [at_nat (by rw [List.length_append, List.length_map, List.length_cons]; omega)]
      simp
    have d0 : ∀ {rho : En}, rho[0]? = some (some (Tr.frame r ts ss).d) → (den exm (cl (k2 + 2)) (.ix (.var 0) (.int 0))).v rho m = .ok (.str (kdS r)) m := fun h => v_ix (v_var h) v_int (by rw [hd]; rfl)
    have d1 : ∀ {rho : En}, rho[0]? = some (some (Tr.frame r ts ss).d) → (den exm (cl (k2 + 2)) (.ix (.var 0) (.int 1))).v rho m = .ok (.tup (A.map Tr.d ++ u.d :: B.map Tr.d)) m := fun h => v_ix (v_var h) v_int (by rw [hd]; rfl)
    exact call_ok (r_seq (r_ifF (b_cmp (d0 rfl) v_str rfl) (show (kdS r == ("pane" : Str)) = false by cases r <;> decide) r_nil) (r_seq (r_ifF (b_cmp (d0 rfl) v_str rfl) (show (kdS r == ("stack" : Str)) = false by cases r <;> decide) r_nil) (r_seq (r_set (v_call (l_cons (v_var rfl) (l_cons (v_var rfl) l_nil)) pl)) (r_seqR (r_ret (v_call (l_cons (v_var rfl) (l_cons (v_var rfl) (l_cons (v_call (l_cons (v_ix (d1 rfl) (v_var rfl) gi) (l_cons (v_var rfl) (l_cons (v_var rfl) l_nil))) ih) l_nil))) wp))))))
end
end PF
namespace PF
open PySem L2
theorem first_pane {n : Int} : ∀ {ps : List (Int × Int × Int)}, (ps.any fun p => p.1 == n) = true → ∃ A q B, ps = A ++ q :: B ∧ (∀ a ∈ A, (a.1 == n) = false) ∧ (q.1 == n) = true ∧ (ps.findIdx fun p => p.1 == n) = A.length
  | [], h => by cases h
  | p :: ps, h => by
    cases z : p.1 == n with
    | true => exact ⟨[], p, ps, rfl, fun _ h => (by cases h), z, by rw [List.findIdx_cons, z]; rfl⟩
    | false =>
      rw [List.any_cons, z, Bool.false_or] at h
      obtain ⟨A, q, B, e, h1, h2, h3⟩ := first_pane h
      refine ⟨p :: A, q, B, by rw [e]; rfl, fun a ha => ?_, h2, by rw [List.findIdx_cons, z, h3]; rfl⟩
      rcases List.mem_cons.mp ha with y | y
      · rw [y]; exact z
      · exact h1 a y
theorem pT_has (n : Int) (p : Int × Int × Int) : (pT p).hasN n = (p.1 == n) := by
  show (([(p.1, p.2.1, p.2.2)] : List (Int × Int × Int)).any fun q => q.1 == n) = _
  simp
section
variable {exm : Nat → Nat → Bool} {cl : Nat → Nat → List D → M D}
theorem raised_run {j jp jh jn : Nat} (H : Has exm cl j (d_raised jp j)) (Hp : Has exm cl jp (d_place_in jh)) (Hh : Has exm cl jh (d_has jn)) (Hn : Has exm cl jn (d_panes_of jn)) (n : Int) :
    ∀ (k : Nat) (t : Tr) (deep : Int) (kd : Option Bool) (m : Store), t.hi + 3 ≤ k → t.made deep kd = true → t.panes.length ≤ 1000 → t.hasN n = true → cl k j [t.d, .int n] m = .ok (t.rse n).d m
  | 0, t, deep, kd, m, hk, _, _, _ => by omega
  | k + 1, .pane a w h, deep, kd, m, hk, hm, hl, hn => by
    rw [H]
    exact call_ok (r_seqR (r_ifT (b_cmp (v_ix (x := paneD (a, w, h)) (v_var rfl) v_int rfl) v_str rfl) rfl (r_seqR (r_ret (v_var rfl)))))
  | k + 1, .stack ps top, deep, kd, m, hk, hm, hl, hn => by
    have hk : 1 + 3 ≤ k + 1 := hk
    obtain ⟨h1, h2, h3, h4⟩ := made_stack hm
    obtain ⟨A, q, B, e, hA, hq, hi⟩ := first_pane hn
    have pl := place_run Hp Hh Hn (t := .stack ps top) rfl hl (by show (ps.map _).length ≤ 100; rw [List.length_map]; omega) (A := A.map pT) (u := pT q) (B := B.map pT) (by show ps.map _ = _; rw [show ps = A ++ q :: B from e, List.map_append, List.map_cons]) (fun a ha => by
      obtain ⟨x, hx, rfl⟩ := List.mem_map.mp ha
      rw [pT_has]
      exact hA x hx) (by rw [pT_has]; exact hq) (k := k) (by show 1 + 2 ≤ k; omega) m
    rw [List.length_map] at pl
    rw [H]
    have hi : (ps.findIdx fun p => p.1 == n) = A.length := hi
    rw [show ((Tr.stack ps top).rse n).d = .tup [.str "stack", .tup (ps.map paneD), dN A.length] by
      show D.tup [.str "stack", .tup (ps.map paneD), .int ((ps.findIdx fun p => p.1 == n : Nat) : Int)] = _
      rw [hi]]
    have d0 : ∀ {rho : En}, rho[0]? = some (some (Tr.stack ps top).d) → (den exm (cl k) (.ix (.var 0) (.int 0))).v rho m = .ok (.str "stack") m := fun h => v_ix (v_var h) v_int rfl
    have d1 : ∀ {rho : En}, rho[0]? = some (some (Tr.stack ps top).d) → (den exm (cl k) (.ix (.var 0) (.int 1))).v rho m = .ok (.tup (ps.map paneD)) m := fun h => v_ix (v_var h) v_int rfl
    exact call_ok (r_seq (r_ifF (b_cmp (d0 rfl) v_str rfl) (show (("stack" : Str) == ("pane" : Str)) = false by decide) r_nil) (r_seq (r_set (v_call (l_cons (v_var rfl) (l_cons (v_var rfl) l_nil)) pl)) (r_seqR (r_ifT (b_cmp (d0 rfl) v_str rfl) (show (("stack" : Str) == ("stack" : Str)) = true by decide) (r_seqR (r_ret (v_tup (l_cons v_str (l_cons (d1 rfl) (l_cons (v_var rfl) l_nil))) (nat_le rfl))))))))
  | k + 1, .frame r ts ss, deep, kd, m, hk, hm, hl, hn => by
    have hk : Tr.his ts + 1 + 3 ≤ k + 1 := hk
    obtain ⟨h1, h2, h3, h4, h5⟩ := made_frame hm
    have hn' := hn
    rw [Tr.hasN_parts rfl] at hn'
    obtain ⟨A, u, B, e, hA, hu⟩ := first_has hn'
    have e : ts = A ++ u :: B := e
    have mu : u ∈ ts := by rw [e]; exact List.mem_append_right _ (List.mem_cons_self ..)
    have hlp : (Tr.paness ts).length ≤ 1000 := hl
    rw [H]
    have pl := place_run Hp Hh Hn (t := .frame r ts ss) rfl hl (by show ts.length ≤ 100; omega) e hA hu (k := k) (by show Tr.his ts + 1 + 2 ≤ k; omega) m
    have ih := raised_run H Hp Hh Hn n k u (deep + 1) (some r) m (by have := Tr.hi_mem mu; omega) (h4 u mu) (by have := Tr.paness_mem mu; omega) hu
    have hd : (Tr.frame r ts ss).d = .tup [.str (kdS r), .tup (A.map Tr.d ++ u.d :: B.map Tr.d), zT ss] := frame_split e
    have le : A.length + B.length + 1 = ts.length := by rw [e, List.length_append, List.length_cons]; omega
    have gi : ixD (.tup (A.map Tr.d ++ u.d :: B.map Tr.d)) (dN A.length) = some u.d := by
      show atI _ ((A.length : Nat) : Int) = _
      rw [at_nat (by rw [List.length_append, List.length_map, List.length_cons]; omega)]
      simp
    have d0 : ∀ {rho : En}, rho[0]? = some (some (Tr.frame r ts ss).d) → (den exm (cl k) (.ix (.var 0) (.int 0))).v rho m = .ok (.str (kdS r)) m := fun h => v_ix (v_var h) v_int (by rw [hd]; rfl)
    have d1 : ∀ {rho : En}, rho[0]? = some (some (Tr.frame r ts ss).d) → (den exm (cl k) (.ix (.var 0) (.int 1))).v rho m = .ok (.tup (A.map Tr.d ++ u.d :: B.map Tr.d)) m := fun h => v_ix (v_var h) v_int (by rw [hd]; rfl)
    have d2 : ∀ {rho : En}, rho[0]? = some (some (Tr.frame r ts ss).d) → (den exm (cl k) (.ix (.var 0) (.int 2))).v rho m = .ok (zT ss) m := fun h => v_ix (v_var h) v_int (by rw [hd]; rfl)
    rw [Tr.rse, show Tr.rses n ts = A ++ u.rse n :: B by rw [e]; exact rses_split hu hA]
    rw [frame_split (ts := A ++ u.rse n :: B) rfl]
    have mc := mid_cut (exm := exm) (c0 := cl k) (rho := [some (Tr.frame r ts ss).d, some (.int n), some (dN A.length)]) (m := m) (e := .ix (.var 0) (.int 1)) (x := .var 2) (y := .call j (.cons (.ix (.ix (.var 0) (.int 1)) (.var 2)) (.cons (.var 1) .nil))) (xs := A.map Tr.d) (v := (u.rse n).d) (a := u.d) (b := B.map Tr.d) (d1 rfl) (by rw [List.length_map]; exact v_var rfl) (v_call (l_cons (v_ix (d1 rfl) (v_var rfl) gi) (l_cons (v_var rfl) l_nil)) ih) (by rw [List.length_map, List.length_map]; omega)
    exact call_ok (r_seq (r_ifF (b_cmp (d0 rfl) v_str rfl) (show (kdS r == ("pane" : Str)) = false by cases r <;> decide) r_nil) (r_seq (r_set (v_call (l_cons (v_var rfl) (l_cons (v_var rfl) l_nil)) pl)) (r_seq (r_ifF (b_cmp (d0 rfl) v_str rfl) (show (kdS r == ("stack" : Str)) = false by cases r <;> decide) r_nil) (r_seqR (r_ret (v_tup (l_cons (d0 rfl) (l_cons mc (l_cons (d2 rfl) l_nil))) (nat_le rfl)))))))
theorem ins_cut {c0 : Nat → List D → M D} {rho : En} {m : Store} {e x y : I} {xs : List D} {v : D} {b : List D} (he : (den exm c0 e).v rho m = .ok (.tup (xs ++ b)) m) (hx : (den exm c0 x).v rho m = .ok (dN xs.length) m) (hv : (den exm c0 y).v rho m = .ok v m) (hl : xs.length + b.length ≤ 900) :
    (den exm c0 (.bin .add (.bin .add (.sl e .hole (.prt x)) (.tup (.cons y .nil))) (.sl e (.prt x) .hole))).v rho m = .ok (.tup (xs ++ v :: b)) m := by
  rw [show xs ++ v :: b = (xs ++ [v]) ++ b by simp]
  refine v_bin (v_bin (v_sl he o_hole (o_prt hx) ?_) (v_tup (l_cons hv l_nil) (nat_le rfl)) (add_tup (by rw [List.length_singleton]; omega))) (v_sl he (o_prt hx) o_hole ?_) (add_tup (by rw [List.length_append, List.length_singleton]; omega))
  · show some (D.tup (cutL (xs ++ b) none (some (xs.length : Int)))) = _
    rw [cut_to]
  · show some (D.tup (cutL (xs ++ b) (some (xs.length : Int)) none)) = _
    rw [cut_from _ _ rfl]
theorem ones_map (a b : Nat) : (ones (a + b)).map D.int = (ones a).map D.int ++ (ones b).map D.int := by
  rw [← List.map_append, List.replicate_append_replicate]
theorem beside_run {j ji jf jr jp jh jn jw : Nat} (H : Has exm cl j (d_beside ji jf jp jw j)) (Hi : Has exm cl ji d_is_frame) (Hp : Has exm cl jp (d_place_in jh)) (Hh : Has exm cl jh (d_has jn)) (Hn : Has exm cl jn (d_panes_of jn)) (Hw : Has exm cl jw (d_with_part jf)) (Hf : Has exm cl jf (d_framed jr)) (Hr : Has exm cl jr d_reduced) (n : Int) (kd bh : Bool) (p : Int × Int × Int) :
    ∀ (k : Nat) (t : Tr) (deep : Int) (kp : Option Bool) (m : Store), t.hi + 5 ≤ k → t.made deep kp = true → t.ev = true → t.panes.length ≤ 1000 → t.hasN n = true → cl k j [t.d, .int n, .str (sideS kd bh), paneD p] m = .ok (t.bes n kd bh p).d m
  | 0, t, deep, kp, m, hk, _, _, _, _ => by omega
  | k + 1, t, deep, kp, m, hk, hm, he, hl, hn => by
    have g4 : ∀ {rho : En}, rho[2]? = some (some (.str (sideS kd bh))) → (den exm (cl k) (.gix "KINDS" [("left", .s "row"), ("right", .s "row"), ("above", .s "column"), ("below", .s "column")] (.var 2))).v rho m = .ok (.str (kdS kd)) m := fun h => v_gix (v_var h) (by cases kd <;> cases bh <;> rfl)
    have g5 : ∀ {rho : En}, rho[2]? = some (some (.str (sideS kd bh))) → (den exm (cl k) (.bi .int (.cons (.cmp .inn (.var 2) (.tup (.cons (.str "right") (.cons (.str "below") .nil)))) .nil))).v rho m = .ok (dN (if bh then 1 else 0)) m := fun h => v_bi (l_cons (v_cmp (d := .bl bh) (v_var h) (v_tup (l_cons v_str (l_cons v_str l_nil)) (nat_le rfl)) (by cases kd <;> cases bh <;> rfl)) l_nil) (by cases bh <;> rfl)
    have isf := is_frame_run Hi (k := k) (by omega) t m
    rw [H]
    cases hF : t.isF with
    | false =>
      rw [hF] at isf
      have nk : ∀ q ∈ (if bh then [t, pT p] else [pT p, t]), q.isK kd = false := fun q hq => by
        have : q = t ∨ q = pT p := by
          cases bh
          · rcases List.mem_cons.mp hq with z | z
            · exact .inr z
            · exact .inl (List.mem_singleton.mp z)
          · rcases List.mem_cons.mp hq with z | z
            · exact .inl z
            · exact .inr (List.mem_singleton.mp z)
        rcases this with z | z
        · rw [z]
          cases t with
          | pane => rfl
          | stack => rfl
          | frame => cases hF
        · rw [z]; rfl
      obtain ⟨k1, rfl⟩ : ∃ k1, k = k1 + 1 := ⟨k - 1, by omega⟩
      have fr := framed_run Hf (r := kd) (ps := if bh then [t, pT p] else [pT p, t]) (ss := ones 2) (rs := ones 2) nk (by cases bh <;> exact nat_le rfl) (by cases bh <;> exact nat_le rfl) (by cases bh <;> rfl) (k := k1) m (reduced_ones Hr (by omega) (by decide) (by decide) m)
      rw [show t.bes n kd bh p = .frame kd (if bh then [t, pT p] else [pT p, t]) (ones 2) by
        cases t with
        | pane => rfl
        | stack => rfl
        | frame => cases hF]
      refine call_ok (r_seq (r_set (g4 rfl)) (r_seq (r_set (g5 rfl)) (r_seqR (r_ifT (b_not (k := false) (b_tst (v_call (l_cons (v_var rfl) l_nil) isf) rfl)) rfl (r_seqR (r_ret (v_call (l_cons (v_var rfl) (l_cons (d := .tup ((if bh then [t, pT p] else [pT p, t]).map Tr.d)) (v_ix (v_lst (l_cons (v_tup (l_cons (v_var rfl) (l_cons (v_var rfl) l_nil)) (nat_le rfl)) (l_cons (v_tup (l_cons (v_var rfl) (l_cons (v_var rfl) l_nil)) (nat_le rfl)) l_nil)) (nat_le rfl)) (v_var rfl) ?_) (l_cons (v_tup (l_cons v_int (l_cons v_int l_nil)) (nat_le rfl)) l_nil))) fr)))))))
      cases bh <;> rfl
    | true =>
      rw [hF] at isf
      cases t with
      | pane => cases hF
      | stack => cases hF
      | frame r ts ss =>
        have hk : Tr.his ts + 1 + 5 ≤ k + 1 := hk
        obtain ⟨h1, h2, h3, h4, h5⟩ := made_frame hm
        rw [Tr.ev, Bool.and_eq_true, decide_eq_true_eq, Tr.evs_eq, List.all_eq_true] at he
        have hn' := hn
        rw [Tr.hasN_parts rfl] at hn'
        obtain ⟨A, u, B, e, hA, hu⟩ := first_has hn'
        have e : ts = A ++ u :: B := e
        have mu : u ∈ ts := by rw [e]; exact List.mem_append_right _ (List.mem_cons_self ..)
        have le : A.length + B.length + 1 = ts.length := by rw [e, List.length_append, List.length_cons]; omega
        have hlp : (Tr.paness ts).length ≤ 1000 := hl
        have pl := place_run Hp Hh Hn (t := .frame r ts ss) rfl hl (by show ts.length ≤ 100; omega) e hA hu (k := k) (by show Tr.his ts + 1 + 2 ≤ k; omega) m
        have ih := beside_run H Hi Hp Hh Hn Hw Hf Hr n kd bh p k u (deep + 1) (some r) m (by have := Tr.hi_mem mu; omega) (h4 u mu) (he.2 u mu) (by have := Tr.paness_mem mu; omega) hu
        have isu := is_frame_run Hi (k := k) (by omega) u m
        have hd : (Tr.frame r ts ss).d = .tup [.str (kdS r), .tup (A.map Tr.d ++ u.d :: B.map Tr.d), zT ss] := frame_split e
        have gi : ixD (.tup (A.map Tr.d ++ u.d :: B.map Tr.d)) (dN A.length) = some u.d := by
          show atI _ ((A.length : Nat) : Int) = _
          rw [at_nat (by rw [List.length_append, List.length_map, List.length_cons]; omega)]
          simp
        have d0 : ∀ {rho : En}, rho[0]? = some (some (Tr.frame r ts ss).d) → (den exm (cl k) (.ix (.var 0) (.int 0))).v rho m = .ok (.str (kdS r)) m := fun h => v_ix (v_var h) v_int (by rw [hd]; rfl)
        have d1 : ∀ {rho : En}, rho[0]? = some (some (Tr.frame r ts ss).d) → (den exm (cl k) (.ix (.var 0) (.int 1))).v rho m = .ok (.tup (A.map Tr.d ++ u.d :: B.map Tr.d)) m := fun h => v_ix (v_var h) v_int (by rw [hd]; rfl)
        have d2 : ∀ {rho : En}, rho[0]? = some (some (Tr.frame r ts ss).d) → (den exm (cl k) (.ix (.var 0) (.int 2))).v rho m = .ok (zT ss) m := fun h => v_ix (v_var h) v_int (by rw [hd]; rfl)
        have nk : ∀ q ∈ ts, q.isK r = false := fun q hq => made_isK (h4 q hq)
        have tst : (den exm (cl k) (.tor (.tst (.call ji (.cons (.ix (.ix (.var 0) (.int 1)) (.var 6)) .nil))) (.tcmp .ne (.ix (.var 0) (.int 0)) (.var 4)))).b [some (Tr.frame r ts ss).d, some (.int n), some (.str (sideS kd bh)), some (paneD p), some (.str (kdS kd)), some (dN (if bh then 1 else 0)), some (dN A.length), none] m = .ok (u.isF || (r != kd)) m := by
          rw [show (r != kd) = !(kdS r == kdS kd) by rw [kdS_eq]; rfl]
          exact b_or (b_tst (v_call (l_cons (v_ix (d1 rfl) (v_var rfl) gi) l_nil) isu) rfl) fun _ => b_cmp (d0 rfl) (v_var rfl) rfl
        rw [Tr.bes, show Tr.bess n kd bh p r ts = A ++ Tr.bess n kd bh p r (u :: B) by rw [e]; exact bess_split hA, Tr.bess, if_pos hu]
        cases z : (u.isF || (r != kd)) with
        | true =>
          rw [if_pos rfl]
          have len : (A ++ u.bes n kd bh p :: B).length = ts.length := by rw [List.length_append, List.length_cons]; omega
          obtain ⟨k2, rfl⟩ : ∃ k2, k = k2 + 2 := ⟨k - 2, by omega⟩
          have wp := with_part_run Hw Hf (r := r) (A := A) (B := B) (u := u) (v := u.bes n kd bh p) (ss := ss) (rs := ones ts.length) (fun q hq => by
            rcases List.mem_append.mp hq with y | y
            · exact nk q (by rw [e]; exact List.mem_append_left _ y)
            · rcases List.mem_cons.mp y with w | w
              · rw [w]; exact bes_isK (nk u mu) z
              · exact nk q (by rw [e]; exact List.mem_append_right _ (List.mem_cons_of_mem _ w))) (by omega) (by omega) (by omega) (k := k2) m (by rw [he.1]; exact reduced_ones Hr (by omega) (by omega) (by omega) m)
          rw [← e] at wp
          rw [len]
          exact call_ok (r_seq (r_set (g4 rfl)) (r_seq (r_set (g5 rfl)) (r_seq (r_ifF (b_not (k := true) (b_tst (v_call (l_cons (v_var rfl) l_nil) isf) rfl)) rfl r_nil) (r_seq (r_set (v_call (l_cons (v_var rfl) (l_cons (v_var rfl) l_nil)) pl)) (r_seqR (r_ifT tst z (r_seqR (r_ret (v_call (l_cons (v_var rfl) (l_cons (v_var rfl) (l_cons (v_call (l_cons (v_ix (d1 rfl) (v_var rfl) gi) (l_cons (v_var rfl) (l_cons (v_var rfl) (l_cons (v_var rfl) l_nil)))) ih) l_nil))) wp)))))))))
        | false =>
          rw [if_neg (by decide)]
          have zk : r = kd := by
            rw [Bool.or_eq_false_iff] at z
            have := z.2
            cases r <;> cases kd <;> first | rfl | (exact absurd this (by decide))
          subst zk
          obtain ⟨k1, rfl⟩ : ∃ k1, k = k1 + 1 := ⟨k - 1, by omega⟩
          let X : List Tr := if bh then A ++ [u] else A
          let Y : List Tr := if bh then B else u :: B
          have hX : X.length = A.length + (if bh then 1 else 0) := by
            show (if bh then A ++ [u] else A).length = _
            cases bh
            · rfl
            · show (A ++ [u]).length = _
              rw [List.length_append]
              rfl
          have hXY : X ++ Y = ts := by
            rw [e]
            show (if bh then A ++ [u] else A) ++ (if bh then B else u :: B) = _
            cases bh
            · rfl
            · show (A ++ [u]) ++ B = _
              simp
          have hres : A ++ (if bh = true then u :: pT p :: B else pT p :: u :: B) = X ++ pT p :: Y := by
            show _ = (if bh then A ++ [u] else A) ++ pT p :: (if bh then B else u :: B)
            cases bh
            · rfl
            · show _ = (A ++ [u]) ++ pT p :: B
              simp
          have lXY : X.length + Y.length = ts.length := by rw [← List.length_append, hXY]
          have fr := framed_run Hf (r := r) (ps := X ++ pT p :: Y) (ss := ones (X ++ pT p :: Y).length) (rs := ones (X ++ pT p :: Y).length) (fun q hq => by
            rcases List.mem_append.mp hq with y | y
            · exact nk q (by rw [← hXY]; exact List.mem_append_left _ y)
            · rcases List.mem_cons.mp y with w | w
              · rw [w]; rfl
              · exact nk q (by rw [← hXY]; exact List.mem_append_right _ w)) (by rw [List.length_append, List.length_cons]; omega) (by rw [List.length_append, List.length_cons]; omega) (by rw [List.length_replicate]) (k := k1) m (reduced_ones Hr (by omega) (by rw [List.length_append, List.length_cons]; omega) (by rw [List.length_append, List.length_cons]; omega) m)
          rw [hres]
          have dp : A.map Tr.d ++ u.d :: B.map Tr.d = X.map Tr.d ++ Y.map Tr.d := by rw [← List.map_append, hXY, e, List.map_append, List.map_cons]
          have dz : zT ss = .tup ((ones X.length).map D.int ++ (ones Y.length).map D.int) := by
            rw [he.1, ← ones_map, lXY]
          have ic := ins_cut (exm := exm) (c0 := cl (k1 + 1)) (rho := [some (Tr.frame r ts ss).d, some (.int n), some (.str (sideS r bh)), some (paneD p), some (.str (kdS r)), some (dN (if bh then 1 else 0)), some (dN A.length), some (dN X.length)]) (m := m) (e := .ix (.var 0) (.int 1)) (x := .var 7) (y := .var 3) (xs := X.map Tr.d) (v := paneD p) (b := Y.map Tr.d) (by rw [← dp]; exact d1 rfl) (by rw [List.length_map]; exact v_var rfl) (v_var rfl) (by rw [List.length_map, List.length_map]; omega)
          have is := ins_cut (exm := exm) (c0 := cl (k1 + 1)) (rho := [some (Tr.frame r ts ss).d, some (.int n), some (.str (sideS r bh)), some (paneD p), some (.str (kdS r)), some (dN (if bh then 1 else 0)), some (dN A.length), some (dN X.length)]) (m := m) (e := .ix (.var 0) (.int 2)) (x := .var 7) (y := .ix (.ix (.var 0) (.int 2)) (.var 6)) (xs := (ones X.length).map D.int) (v := .int 1) (b := (ones Y.length).map D.int) (by rw [← dz]; exact d2 rfl) (by rw [List.length_map, List.length_replicate]; exact v_var rfl) (v_ix (d2 rfl) (v_var rfl) (by
            rw [he.1]
            have := (Shs.tup (ones ts.length)).ix A.length (by rw [List.length_replicate]; omega)
            rw [this]
            show some (D.int ((ones ts.length).getD A.length 0)) = _
            simp [show A.length < ts.length by omega])) (by rw [List.length_map, List.length_map, List.length_replicate, List.length_replicate]; omega)
          have ep : X.map Tr.d ++ paneD p :: Y.map Tr.d = (X ++ pT p :: Y).map Tr.d := by rw [List.map_append, List.map_cons]; rfl
          have eo : (ones X.length).map D.int ++ D.int 1 :: (ones Y.length).map D.int = (ones (X ++ pT p :: Y).length).map D.int := by
            rw [List.length_append, List.length_cons, ones_map]
            rfl
          rw [ep] at ic
          rw [eo] at is
          refine call_ok (r_seq (r_set (g4 rfl)) (r_seq (r_set (g5 rfl)) (r_seq (r_ifF (b_not (k := true) (b_tst (v_call (l_cons (v_var rfl) l_nil) isf) rfl)) rfl r_nil) (r_seq (r_set (v_call (l_cons (v_var rfl) (l_cons (v_var rfl) l_nil)) pl)) (r_seq (r_ifF tst z r_nil) (r_seq (r_set (d := dN X.length) (v_bin (v_var rfl) (v_var rfl) ?_)) (r_seqR (r_ret (v_call (l_cons (v_var rfl) (l_cons ic (l_cons is l_nil))) fr)))))))))
          show some (D.int ((A.length : Int) + ((if bh then 1 else 0 : Nat) : Int))) = some (D.int ((X.length : Nat) : Int))
          rw [hX]
          cases bh <;> rfl
end
end PF
namespace PF
open PySem L2
/-! ### shares divided by what divides all -/
def gcdL (a : Nat) (ns : List Nat) : Nat := ns.foldl Nat.gcd a
def gcdZ (ss : List Int) : Nat := gcdL (ss.headD 1).toNat (ss.map Int.toNat)
def red (ss : List Int) : List Int := ss.map fun s => s / (gcdZ ss : Int)
theorem gcdL_pos : ∀ (ns : List Nat) {a : Nat}, 0 < a → 0 < gcdL a ns
  | [], _, h => h
  | b :: ns, a, h => gcdL_pos ns (Nat.gcd_pos_of_pos_left b h)
theorem gcdL_dvd : ∀ (ns : List Nat) (a : Nat), gcdL a ns ∣ a ∧ ∀ b ∈ ns, gcdL a ns ∣ b
  | [], a => ⟨Nat.dvd_refl a, fun _ h => (by cases h)⟩
  | c :: ns, a => by
    obtain ⟨h1, h2⟩ := gcdL_dvd ns (Nat.gcd a c)
    refine ⟨Nat.dvd_trans h1 (Nat.gcd_dvd_left a c), fun b hb => ?_⟩
    rcases List.mem_cons.mp hb with e | e
    · rw [e]; exact Nat.dvd_trans h1 (Nat.gcd_dvd_right a c)
    · exact h2 b e
theorem gcdL_le {ns : List Nat} {a : Nat} (h : 0 < a) : gcdL a ns ≤ a := Nat.le_of_dvd h (gcdL_dvd ns a).1
section
variable {ss : List Int} (hp : ∀ s ∈ ss, 1 ≤ s)
include hp
theorem gcdZ_pos : 0 < gcdZ ss := by
  refine gcdL_pos _ ?_
  cases ss with
  | nil => decide
  | cons s l =>
    have := hp s (List.mem_cons_self ..)
    show 0 < s.toNat
    omega
end
section
variable {exm : Nat → Nat → Bool} {cl : Nat → Nat → List D → M D}
abbrev euB : I := (.cons (.unp (.tp [1, 2]) (.tup (.cons (.var 2) (.cons (.bin .mod (.var 1) (.var 2)) .nil)))) .nil)
theorem eu_step {c0 : Nat → List D → M D} {d : D} {m : Store} (a b : Nat) (hb : 0 < b) {n : Nat} {res : Rs} (h : whileS (den exm c0 (.tcmp .gt (.var 2) (.int 0))).b (den exm c0 euB).s n [some d, some (.int b), some (.int ((a % b : Nat) : Int))] m = res) :
    whileS (den exm c0 (.tcmp .gt (.var 2) (.int 0))).b (den exm c0 euB).s (n + 1) [some d, some (.int a), some (.int b)] m = res :=
  w_t (b_cmp (v_var rfl) v_int rfl) (decide_eq_true (by show ((b : Nat) : Int) > 0; omega)) (r_seq (r_unp (v_tup (l_cons (v_var rfl) (l_cons (v_bin (d := .int ((a % b : Nat) : Int)) (v_var rfl) (v_var rfl) (by rw [Int.natCast_emod]; exact modS (by omega))) l_nil)) (nat_le rfl)) rfl) r_nil) h
theorem eu_while {c0 : Nat → List D → M D} {d : D} {m : Store} : ∀ (f a b n : Nat), 0 < a → b < 2 ^ f → 2 * f + 1 ≤ n → whileS (den exm c0 (.tcmp .gt (.var 2) (.int 0))).b (den exm c0 euB).s n [some d, some (.int a), some (.int b)] m = .nx [some d, some (.int ((Nat.gcd a b : Nat) : Int)), some (.int 0)] m := by
  have fin : ∀ (a n : Nat), 1 ≤ n → whileS (den exm c0 (.tcmp .gt (.var 2) (.int 0))).b (den exm c0 euB).s n [some d, some (.int a), some (.int ((0 : Nat) : Int))] m = .nx [some d, some (.int ((Nat.gcd a 0 : Nat) : Int)), some (.int 0)] m := fun a n hn => by
    obtain ⟨n, rfl⟩ : ∃ n', n = n' + 1 := ⟨n - 1, by omega⟩
    rw [Nat.gcd_zero_right]
    exact w_f (b_cmp (v_var rfl) v_int rfl) (by decide)
  intro f
  induction f with
  | zero =>
    intro a b n ha hb hn
    obtain rfl : b = 0 := by have : (2 : Nat) ^ 0 = 1 := rfl; omega
    exact fin a n (by omega)
  | succ f ih =>
    intro a b n ha hb hn
    by_cases hb0 : b = 0
    · subst hb0
      exact fin a n (by omega)
    · obtain ⟨n, rfl⟩ : ∃ n', n = n' + 1 + 1 := ⟨n - 2, by omega⟩
      refine eu_step a b (by omega) ?_
      rw [Nat.gcd_comm, Nat.gcd_rec b a, Nat.gcd_comm]
      have h1 := Nat.mod_lt a (show b > 0 by omega)
      generalize a % b = c at h1
      by_cases hc0 : c = 0
      · subst hc0
        exact fin b _ (by omega)
      · refine eu_step b c (by omega) ?_
        have h2 := Nat.mod_lt b (show c > 0 by omega)
        have e := Nat.gcd_rec c b
        rw [Nat.gcd_comm b c, e, Nat.gcd_comm]
        refine ih c (b % c) n (by omega) ?_ (by omega)
        have h3 := Nat.mod_add_div b c
        have : 1 ≤ b / c := Nat.div_pos (by omega) (by omega)
        have h4 : c * 1 ≤ c * (b / c) := Nat.mul_le_mul_left c this
        have h5 : (2 : Nat) ^ (f + 1) = 2 * 2 ^ f := by rw [Nat.pow_succ]; omega
        omega
theorem eu_for {c0 : Nat → List D → M D} {d : D} {m : Store} : ∀ (ns : List Nat) (a : Nat) (x : Option D), 0 < a → (∀ b ∈ ns, b < 2 ^ 999) → ∃ y, forS (.nm 2) (den exm c0 (.cons (.whl 2000 (.tcmp .gt (.var 2) (.int 0)) euB) .nil)).s (ns.map fun (b : Nat) => D.int (b : Int)) [some d, some (.int a), x] m = .nx [some d, some (.int ((gcdL a ns : Nat) : Int)), y] m
  | [], a, x, _, _ => ⟨x, f_nil⟩
  | b :: ns, a, x, ha, hb => by
    obtain ⟨y, e⟩ := eu_for ns (Nat.gcd a b) (some (.int 0)) (Nat.gcd_pos_of_pos_left b ha) fun c hc => hb c (List.mem_cons_of_mem _ hc)
    refine ⟨y, ?_⟩
    refine Eq.trans ?_ e
    exact f_cons rfl (r_seq (show (den exm c0 (.whl 2000 (.tcmp .gt (.var 2) (.int 0)) euB)).s _ _ = _ from eu_while (exm := exm) (c0 := c0) 999 a b 2000 ha (hb b (List.mem_cons_self ..)) (by omega)) r_nil) rfl
theorem divB {i j : Int} (h : 0 < j) (hb : j.natAbs.log2 < 2000) : Bop.sem .div (.int i) (.int j) = some (.int (i / j)) := if_pos ⟨h, by omega⟩
theorem lt_pow {s : Int} {b : Nat} (h : s ≤ (b : Int)) (hb : b < 2 ^ 999) : s.toNat < 2 ^ 999 := Nat.lt_of_le_of_lt (by omega) hb
theorem reduced_run {j : Nat} (H : Has exm cl j d_reduced) {k : Nat} (hk : 1 ≤ k) {ss : List Int} (ne : ss ≠ []) (hl : ss.length ≤ 100) (hp : ∀ s ∈ ss, 1 ≤ s) {b : Nat} (hs : ∀ s ∈ ss, s ≤ (b : Int)) (hb : b < 2 ^ 999) (m : Store) : cl k j [zT ss] m = .ok (zT (red ss)) m := by
  obtain ⟨k, rfl, _⟩ := lev (n := 0) hk
  rw [H]
  obtain ⟨s0, l, rfl⟩ : ∃ s l, ss = s :: l := by cases ss with | nil => exact absurd rfl ne | cons s l => exact ⟨s, l, rfl⟩
  have p0 := hp s0 (List.mem_cons_self ..)
  have g0 := gcdZ_pos hp
  obtain ⟨y, e⟩ := eu_for (exm := exm) (c0 := cl k) (d := zT (s0 :: l)) (m := m) ((s0 :: l).map Int.toNat) s0.toNat none (by omega) fun c hc => by
    obtain ⟨s, hs', rfl⟩ := List.mem_map.mp hc
    exact lt_pow (hs s hs') hb
  have e1 : ((s0 :: l).map Int.toNat).map (fun (b : Nat) => D.int (b : Int)) = (s0 :: l).map D.int := by
    rw [List.map_map]
    refine List.map_congr_left fun s hs' => ?_
    have := hp s hs'
    show D.int ((s.toNat : Nat) : Int) = .int s
    rw [show ((s.toNat : Nat) : Int) = s by omega]
  rw [e1, show ((s0.toNat : Nat) : Int) = s0 by omega] at e
  have hlog : ((gcdZ (s0 :: l) : Nat) : Int).natAbs.log2 < 2000 := by
    have : gcdZ (s0 :: l) ≤ s0.toNat := gcdL_le (show 0 < s0.toNat by omega)
    have h2 := lt_pow (hs s0 (List.mem_cons_self ..)) hb
    have h3 : gcdZ (s0 :: l) < 2 ^ 999 := Nat.lt_of_le_of_lt this h2
    have := (Nat.log2_lt (Nat.ne_of_gt g0)).mpr h3
    show (gcdZ (s0 :: l)).log2 < 2000
    omega
  have c : ∀ y : Option D, (den exm (cl k) (.comp (.iseq (.var 0)) (.nm 2) .hole (.bin .div (.var 2) (.var 1)) [2])).v [some (zT (s0 :: l)), some (.int (gcdZ (s0 :: l) : Int)), y] m = .ok (.lst ((s0 :: l).map fun s => .int (s / (gcdZ (s0 :: l) : Int)))) m := fun y =>
    v_compA D.int (fun s => .int (s / (gcdZ (s0 :: l) : Int))) (l_seq (x := zT (s0 :: l)) (v_var rfl) rfl) (by have := big; omega) fun s _ => ⟨_, rfl, v_bin (v_var rfl) (v_var rfl) (divB (by omega) hlog)⟩
  refine call_ok (r_seq (r_set (v_ix (v_var rfl) v_int (ix_headT _ _))) (r_seq (f_of (l_seq (x := zT (s0 :: l)) (v_var rfl) rfl) e) (r_seqR (r_ret (v_bi (l_cons (c y) l_nil) ?_)))))
  show some (D.tup _) = some (D.tup _)
  unfold red
  rw [List.map_map]
  rfl
end
end PF
namespace PF
open PySem L2
/-! ### the wall in the store -/
abbrev wOb (W H g : Int) (now : D) (ps us : List D) : Ob := [("width", .int W), ("height", .int H), ("gap", .int g), ("now", now), ("past", .lst ps), ("undone", .lst us)]
abbrev wS (W H g : Int) (now : D) (ps us : List D) : Store := [wOb W H g now ps us]
section
variable {W H g W' H' : Int} {now now' : D} {ps us ps' us' : List D}
theorem g_w : obGet (wS W H g now ps us) 0 "width" = some (.int W) := by kernel_rfl
theorem g_h : obGet (wS W H g now ps us) 0 "height" = some (.int H) := by kernel_rfl
theorem g_g : obGet (wS W H g now ps us) 0 "gap" = some (.int g) := by kernel_rfl
theorem g_n : obGet (wS W H g now ps us) 0 "now" = some now := by kernel_rfl
theorem g_p : obGet (wS W H g now ps us) 0 "past" = some (.lst ps) := by kernel_rfl
theorem p_n : obPut (wS W H g now ps us) 0 "now" now' = wS W H g now' ps us := by kernel_rfl
theorem p_p : obPut (wS W H g now ps us) 0 "past" (.lst ps') = wS W H g now ps' us := by kernel_rfl
theorem p_u : obPut (wS W H g now ps us) 0 "undone" (.lst us') = wS W H g now ps us' := by kernel_rfl
theorem sm_w : smOb (wS W H g now ps us) 0 = true := by kernel_rfl
theorem nd_w : ndOb (wS W H g now ps us) 0 = true := by
  show decide ((([("width", .int W), ("height", .int H), ("gap", .int g), ("now", now), ("past", .lst ps), ("undone", .lst us)] : Ob).map (·.1)).Nodup) = true
  exact (by decide +kernel : decide ((["width", "height", "gap", "now", "past", "undone"] : List Str).Nodup) = true)
end
/-- no field of a wall -/
def noFld (mt : Str) : Prop := ∀ (W H g : Int) (now : D) (ps us : List D), ((wOb W H g now ps us).lookup mt).isNone = true
section
variable {exm : Nat → Nat → Bool} {cl : Nat → List D → M D} {m m1 : Store} {rho : En} {a : I} {d : D} {i n : Nat} {f f2 : Str}
theorem r_fset (ha : (den exm cl a).v rho m = .ok d m1) (ho : objAt i rho = some n) (hl : isLst d = false) (hs : smOb m1 n = true) : (den exm cl (.fset i f a)).s rho m = .nx rho (obPut m1 n f d) := by
  show fsetS i f (den exm cl a).v rho m = _
  unfold fsetS
  refine (exS_ok (a := ()) (m' := obPut m1 n f d) ?_)
  rw [bnd_ok ha, bnd_ok (lift_ok ho)]
  show (if (!isLst d && smOb m1 n) = true then R.ok () (obPut m1 n f d) else R.bad) = _
  rw [hl, hs]
  rfl
theorem r_fnew (ho : objAt i rho = some n) (hs : smOb m n = true) : (den exm cl (.fnew i f)).s rho m = .nx rho (obPut m n f (.lst [])) := by
  show fnewS i f rho m = _
  unfold fnewS
  rw [ho]
  show (if smOb m n = true then Rs.nx rho (obPut m n f (.lst [])) else .bad) = _
  rw [hs]
  rfl
theorem r_fapp {ds : List D} (ho : objAt i rho = some n) (h1 : obGet m n f = some (.lst ds)) (h2 : obGet m n f2 = some d) (hl : isLst d = false) (hd : ds.length < sizeLine) (hn : ndOb m n = true) : (den exm cl (.fapp i f f2)).s rho m = .nx rho (obPut m n f (.lst (ds ++ [d]))) := by
  show fappS i f f2 rho m = _
  unfold fappS
  rw [ho]
  have l1 : lstF m n f = some ds := by unfold lstF; rw [h1]
  show (match lstF m n f, obGet m n f2 with
    | some ds, some d => if (!isLst d && decide (ds.length < sizeLine) && ndOb m n) = true then Rs.nx rho (obPut m n f (.lst (ds ++ [d]))) else .bad
    | _, _ => .bad) = _
  rw [l1, h2]
  show (if (!isLst d && decide (ds.length < sizeLine) && ndOb m n) = true then Rs.nx rho (obPut m n f (.lst (ds ++ [d]))) else .bad) = _
  rw [hl, hn, decide_eq_true hd]
  rfl
end
/-! ### equality of tree data -/
mutual
/-- numbers, words and tuples alone -/
def D.strict : D → Bool
  | .int _ => true
  | .str _ => true
  | .tup xs => D.strictL xs
  | _ => false
def D.strictL : List D → Bool
  | [] => true
  | x :: xs => x.strict && D.strictL xs
end
mutual
theorem eqb_strict : ∀ (x y : D), x.strict = true → y.strict = true → x.eqb y = true → x = y
  | .int i, .int j, _, _, h => by
    have h : (i == j) = true := h
    rw [beq_iff_eq.mp h]
  | .str i, .str j, _, _, h => by
    have h : (i == j) = true := h
    rw [beq_iff_eq.mp h]
  | .tup xs, .tup ys, hx, hy, h => by rw [eqbL_strict xs ys hx hy h]
  | .int _, .str _, _, _, h => by cases h
  | .int _, .tup _, _, _, h => by cases h
  | .str _, .int _, _, _, h => by cases h
  | .str _, .tup _, _, _, h => by cases h
  | .tup _, .int _, _, _, h => by cases h
  | .tup _, .str _, _, _, h => by cases h
theorem eqbL_strict : ∀ (xs ys : List D), D.strictL xs = true → D.strictL ys = true → D.eqbL xs ys = true → xs = ys
  | [], [], _, _, _ => rfl
  | [], _ :: _, _, _, h => by cases h
  | _ :: _, [], _, _, h => by cases h
  | x :: xs, y :: ys, hx, hy, h => by
    rw [D.strictL, Bool.and_eq_true] at hx hy
    rw [D.eqbL, Bool.and_eq_true] at h
    rw [eqb_strict x y hx.1 hy.1 h.1, eqbL_strict xs ys hx.2 hy.2 h.2]
end
theorem strictL_of : ∀ {ds : List D}, (∀ d ∈ ds, d.strict = true) → D.strictL ds = true
  | [], _ => rfl
  | d :: ds, h => by
    rw [D.strictL, h d (List.mem_cons_self ..), strictL_of fun e he => h e (List.mem_cons_of_mem _ he)]
    rfl
theorem Tr.d_strict : ∀ (n : Nat) (t : Tr), t.hi ≤ n → t.d.strict = true
  | n, .pane a w h, _ => rfl
  | n, .stack ps top, _ => by
    show D.strictL [.str "stack", .tup (ps.map paneD), .int top] = true
    have : D.strictL (ps.map paneD) = true := strictL_of fun d hd => by
      obtain ⟨p, _, rfl⟩ := List.mem_map.mp hd
      rfl
    show (true && (D.strictL (ps.map paneD) && (true && true))) = true
    rw [this]
    rfl
  | 0, .frame r ts ss, hn => absurd hn (by show ¬ (Tr.his ts + 1 ≤ 0); omega)
  | n + 1, .frame r ts ss, hn => by
    have hn : Tr.his ts + 1 ≤ n + 1 := hn
    rw [show (Tr.frame r ts ss).d = .tup [.str (kdS r), .tup (ts.map Tr.d), zT ss] from Tr.d_eq rfl]
    have h1 : D.strictL (ts.map Tr.d) = true := strictL_of fun d hd => by
      obtain ⟨u, hu, rfl⟩ := List.mem_map.mp hd
      exact Tr.d_strict n u (by have := Tr.hi_mem hu; omega)
    have h2 : D.strictL (ss.map D.int) = true := strictL_of fun d hd => by
      obtain ⟨u, hu, rfl⟩ := List.mem_map.mp hd
      rfl
    show (true && (D.strictL (ts.map Tr.d) && (D.strictL (ss.map D.int) && true))) = true
    rw [h1, h2]
    rfl
open Classical in
theorem ne_trees {t u : Tr} (h1 : t.hi ≤ 30) (h2 : u.hi ≤ 30) : Cop.sem .ne u.d t.d = some (.bl (!decide (u.d = t.d))) := by
  have a := Tr.d_pl _ t (Nat.le_refl _)
  have b := Tr.d_pl _ u (Nat.le_refl _)
  have e : eqOk u.d t.d = true := eqOk_iff.mpr ⟨b.1, a.1, by omega, by omega⟩
  show neD u.d t.d = _
  unfold neD
  rw [e, Bool.or_true, if_pos rfl]
  congr 3
  rw [Bool.eq_iff_iff, decide_eq_true_eq]
  exact ⟨eqb_strict _ _ (Tr.d_strict _ u (Nat.le_refl _)) (Tr.d_strict _ t (Nat.le_refl _)), fun z => by rw [z]; exact eqb_refl _ a.1⟩
theorem isn_tree (t : Tr) : Cop.sem .isn t.d .non = some (.bl true) := by
  cases t with
  | pane => rfl
  | stack => rfl
  | frame r ts ss => rw [show (Tr.frame r ts ss).d = .tup [.str (kdS r), .tup (ts.map Tr.d), zT ss] from Tr.d_eq rfl]; rfl
theorem is_tree' (t : Tr) : Cop.sem .is t.d .non = some (.bl false) := by
  cases t with
  | pane => rfl
  | stack => rfl
  | frame r ts ss => rw [show (Tr.frame r ts ss).d = .tup [.str (kdS r), .tup (ts.map Tr.d), zT ss] from Tr.d_eq rfl]; rfl
theorem lst_tree (t : Tr) : isLst t.d = false := by
  cases t with
  | pane => rfl
  | stack => rfl
  | frame r ts ss => rw [show (Tr.frame r ts ss).d = .tup [.str (kdS r), .tup (ts.map Tr.d), zT ss] from Tr.d_eq rfl]; rfl
structure IxW where
  (w p s m n t l h sh ls lr z pl ha re fm pi ifr wp be st ra ini lkp lkn lks tt bg sp sk sw sc tr ps xT xS xR xNP xTh xSd xTM : Nat)
structure PrgW (exm : Nat → Nat → Bool) (cl : Nat → Nat → List D → M D) (i : IxW) : Prop where
  w : Has exm cl i.w d_is_within
  p : Has exm cl i.p (d_is_pane i.w)
  s : Has exm cl i.s (d_is_stack i.p i.w)
  m : Has exm cl i.m (d_is_made i.p i.s i.w i.m)
  n : Has exm cl i.n (d_panes_of i.n)
  t : Has exm cl i.t (d_is_tree i.m i.n)
  l : Has exm cl i.l (d_least_of i.l)
  h : Has exm cl i.h d_held_least
  sh : Has exm cl i.sh (d_shared_of i.h)
  ls : Has exm cl i.ls (d_look_size i.w i.xS)
  lr : Has exm cl i.lr (d_look_room i.l i.xR)
  z : Has exm cl i.z (d_sizes_in i.l i.sh)
  pl : Has exm cl i.pl (d_places_of i.pl i.z)
  ha : Has exm cl i.ha (d_has i.n)
  re : Has exm cl i.re d_reduced
  fm : Has exm cl i.fm (d_framed i.re)
  pi : Has exm cl i.pi (d_place_in i.ha)
  ifr : Has exm cl i.ifr d_is_frame
  wp : Has exm cl i.wp (d_with_part i.fm)
  be : Has exm cl i.be (d_beside i.ifr i.fm i.pi i.wp i.be)
  st : Has exm cl i.st (d_stacked i.pi i.wp i.st)
  ra : Has exm cl i.ra (d_raised i.pi i.ra)
  ini : Has exm cl i.ini (d_W___init__ i.ls)
  lkp : Has exm cl i.lkp (d_W_look_pane i.w i.ha i.xNP)
  lkn : Has exm cl i.lkn (d_W_look_new i.p i.xT i.ha i.xTh)
  lks : Has exm cl i.lks (d_W_look_side i.xSd)
  tt : Has exm cl i.tt (d_W_turn_to i.t i.xTM i.lr)
  bg : Has exm cl i.bg (d_W_begin i.lkn i.xTh i.tt)
  sp : Has exm cl i.sp (d_W_split i.lkp i.lks i.lkn i.tt i.be)
  sk : Has exm cl i.sk (d_W_stack i.lkp i.lkn i.tt i.st)
  sw : Has exm cl i.sw (d_W_show i.lkp i.tt i.ra)
  sc : Has exm cl i.sc (d_W_screen i.ls i.lr)
  tr : Has exm cl i.tr d_W_tree
  ps : Has exm cl i.ps (d_W_places i.pl)
  mak : ∀ k, cl (k + 1) (i.ini + 1000) = cl k i.ini
theorem nf1 : noFld "look_pane" := fun _ _ _ _ _ _ => by kernel_rfl
theorem nf2 : noFld "look_new" := fun _ _ _ _ _ _ => by kernel_rfl
theorem nf3 : noFld "look_side" := fun _ _ _ _ _ _ => by kernel_rfl
theorem nf4' : noFld "turn_to" := fun _ _ _ _ _ _ => by kernel_rfl
theorem nf5 : noFld "begin" := fun _ _ _ _ _ _ => by kernel_rfl
theorem nf6' : noFld "split" := fun _ _ _ _ _ _ => by kernel_rfl
theorem nf7 : noFld "stack" := fun _ _ _ _ _ _ => by kernel_rfl
theorem nf8 : noFld "show" := fun _ _ _ _ _ _ => by kernel_rfl
theorem nf10 : noFld "places" := fun _ _ _ _ _ _ => by kernel_rfl
theorem nf11 : noFld "tree" := fun _ _ _ _ _ _ => by kernel_rfl
section
variable {exm : Nat → Nat → Bool} {cl : Nat → Nat → List D → M D} {i : IxW}
section
variable {c0 : Nat → List D → M D} {rho : En} {W H g : Int} {now : D} {ps us : List D} {a as : I} {mt : Str} {j e : Nat} {ds : List D} {d : D} {m2 : Store}
theorem w_meth (hm : noFld mt) (ha : (den exm c0 a).v rho (wS W H g now ps us) = .ok (.obj 0) (wS W H g now ps us)) (hs : (den exm c0 as).l rho (wS W H g now ps us) = .ok ds (wS W H g now ps us)) (hc : c0 j (.obj 0 :: ds) (wS W H g now ps us) = .ok d m2) : (den exm c0 (.meth mt j a as)).v rho (wS W H g now ps us) = .ok d m2 :=
  v_meth ha rfl (hm ..) hs hc
theorem w_meth0 (hm : noFld mt) (ha : (den exm c0 a).v rho (wS W H g now ps us) = .ok (.obj 0) (wS W H g now ps us)) (hc : c0 j [.obj 0] (wS W H g now ps us) = .ok d m2) : (den exm c0 (.meth0 mt j a)).v rho (wS W H g now ps us) = .ok d m2 :=
  v_meth0 ha rfl (hm ..) hc
end
theorem PrgW.look_pane (P : PrgW exm cl i) {t : Tr} (hl : t.panes.length ≤ 1000) (hh : t.hi ≤ 10) {k : Nat} (hk : 14 ≤ k) {n : Int} (hn : 0 ≤ n ∧ n ≤ 99) (ht : t.hasN n = true) {W H g : Int} {ps us : List D} :
    cl k i.lkp [.obj 0, .int n] (wS W H g t.d ps us) = .ok .non (wS W H g t.d ps us) := by
  obtain ⟨k, rfl, kh⟩ := lev (n := 13) hk
  rw [P.lkp]
  have hs := has_run P.ha P.n hl (k := k) (by omega) n (wS W H g t.d ps us)
  rw [ht] at hs
  have wi := within_ok P.w (k := k) (by omega) n 0 99 (wS W H g t.d ps us)
  rw [inB_iff.mpr hn] at wi
  exact call_nx (r_seq (r_ifF (k := false) (b_orF (b_not (k := true) (b_tst (v_call (l_cons (v_var rfl) (l_cons v_int (l_cons v_int l_nil))) wi) rfl)) rfl (b_orF (k1 := false) (b_cmp (v_fld (v_var rfl) g_n (lst_tree t)) v_non (is_tree' t)) rfl (b_not (k := true) (b_tst (v_call (l_cons (v_fld (v_var rfl) g_n (lst_tree t)) (l_cons (v_var rfl) l_nil)) hs) rfl)))) rfl r_nil) r_nil)
theorem PrgW.look_new (P : PrgW exm cl i) {t : Tr} (hl : t.panes.length ≤ 1000) (hh : t.hi ≤ 10) {k : Nat} (hk : 14 ≤ k) {p : Int × Int × Int} (hp : panB p = true) (ht : t.hasN p.1 = false) {W H g : Int} {ps us : List D} :
    cl k i.lkn [.obj 0, paneD p] (wS W H g t.d ps us) = .ok .non (wS W H g t.d ps us) := by
  obtain ⟨k, rfl, kh⟩ := lev (n := 13) hk
  rw [P.lkn]
  have hs := has_run P.ha P.n hl (k := k) (by omega) p.1 (wS W H g t.d ps us)
  rw [ht] at hs
  have p4 := is_pane4 P.p P.w (k := k) (by omega) p (wS W H g t.d ps us)
  rw [hp] at p4
  exact call_nx (r_seq (r_ifF (b_not (k := true) (b_tst (v_call (l_cons (v_var rfl) l_nil) p4) rfl)) rfl r_nil) (r_seq (r_ifF (k := false) (b_andT (k1 := true) (b_cmp (v_fld (v_var rfl) g_n (lst_tree t)) v_non (isn_tree t)) rfl (b_tst (v_call (l_cons (v_fld (v_var rfl) g_n (lst_tree t)) (l_cons (v_ix (x := paneD p) (v_var rfl) v_int rfl) l_nil)) hs) rfl)) rfl r_nil) r_nil))
theorem PrgW.look_side (P : PrgW exm cl i) {k : Nat} (hk : 1 ≤ k) (kd bh : Bool) (m : Store) : cl k i.lks [.obj 0, .str (sideS kd bh)] m = .ok .non m := by
  obtain ⟨k, rfl, kh⟩ := lev (n := 0) hk
  rw [P.lks]
  exact call_nx (r_seq (r_ifF (k := false) (b_orF (b_not (k := true) (b_tst (v_isi (v_var rfl) rfl) rfl)) rfl (b_gin (v_var rfl) (by cases kd <;> cases bh <;> rfl))) rfl r_nil) r_nil)
open Classical in
/-- another tree that may be and has room -/
theorem PrgW.turn_to (P : PrgW exm cl i) {t u : Tr} (hh : t.hi ≤ 10) (gu : u.Good) {k : Nat} (hk : 14 ≤ k) {W H g : Int} (hw : (u.least g).1 ≤ W) (hH : (u.least g).2 ≤ H) {ps us : List D} (hp : ps.length ≤ 900) :
    cl k i.tt [.obj 0, u.d] (wS W H g t.d ps us) = .ok .non (if u.d = t.d then wS W H g t.d ps us else wS W H g u.d (ps ++ [t.d]) []) := by
  have uh := gu.hi6
  obtain ⟨k, rfl, kh⟩ := lev (n := 13) hk
  rw [P.tt]
  have it := is_tree_ok P.t P.m P.p P.s P.w P.n gu (k := k) (by omega) (wS W H g t.d ps us)
  have lr := look_room_ok P.lr P.l gu.ok (k := k) (by omega) hw hH (wS W H g t.d ps us)
  have hd : ∀ {res : Rs}, (den exm (cl k) (.cons (.iff (.tcmp .ne (.var 1) (.fld (.var 0) "now")) (.cons (.fapp 0 "past" "now") (.cons (.fnew 0 "undone") (.cons (.fset 0 "now" (.var 1)) .nil))) .nil) .nil)).s [some (.obj 0), some u.d] (wS W H g t.d ps us) = res → (den exm (cl k) (d_W_turn_to i.t i.xTM i.lr).ir).s ([.obj 0, u.d].map some ++ List.replicate ((d_W_turn_to i.t i.xTM i.lr).N.length - [D.obj 0, u.d].length) none) (wS W H g t.d ps us) = res := fun h =>
    r_seq (r_ifF (k := false) (b_andT (k1 := true) (b_cmp (v_var rfl) v_non (isn_tree u)) rfl (b_not (k := true) (b_tst (v_call (l_cons (v_var rfl) l_nil) it) rfl))) rfl r_nil) (r_seq (r_ifT (k := true) (b_cmp (v_var rfl) v_non (isn_tree u)) rfl (r_seq (r_expr (v_call (l_cons (v_var rfl) (l_cons (v_fld (v_var rfl) g_w rfl) (l_cons (v_fld (v_var rfl) g_h rfl) (l_cons (v_fld (v_var rfl) g_g rfl) l_nil)))) lr)) r_nil)) h)
  by_cases z : u.d = t.d
  · rw [if_pos z]
    exact call_nx (hd (r_seq (r_ifF (b_cmp (v_var rfl) (v_fld (v_var rfl) g_n (lst_tree t)) (ne_trees (by omega) (by omega))) (by rw [decide_eq_true z]; rfl) r_nil) r_nil))
  · rw [if_neg z]
    refine call_nx (r := [some (.obj 0), some u.d]) (hd (r_seq (r := [some (.obj 0), some u.d]) (m1 := wS W H g u.d (ps ++ [t.d]) []) (r_ifT (b_cmp (v_var rfl) (v_fld (v_var rfl) g_n (lst_tree t)) (ne_trees (by omega) (by omega))) (by rw [decide_eq_false z]; rfl) (r_seq (r_fapp rfl g_p g_n (lst_tree t) (by have := big; omega) nd_w) ?_)) r_nil))
    rw [p_p]
    refine r_seq (r_fnew rfl sm_w) ?_
    rw [p_u]
    refine r_seq (r_fset (v_var rfl) rfl (lst_tree u) sm_w) ?_
    rw [p_n]
    exact r_nil
end
end PF
namespace PF
open PySem L2
theorem made_panB : ∀ (n : Nat) (t : Tr), t.hi ≤ n → ∀ (deep : Int) (kd : Option Bool), t.made deep kd = true → ∀ p ∈ t.panes, panB p = true
  | n, .pane a w h, _, deep, kd, hm, p, hp => by
    rw [Tr.made, Bool.and_eq_true] at hm
    rw [List.mem_singleton.mp hp]
    exact hm.1
  | n, .stack ps top, _, deep, kd, hm, p, hp => (made_stack hm).2.1 p hp
  | 0, .frame r ts ss, hn, _, _, _, _, _ => absurd hn (by show ¬ (Tr.his ts + 1 ≤ 0); omega)
  | n + 1, .frame r ts ss, hn, deep, kd, hm, p, hp => by
    have hn : Tr.his ts + 1 ≤ n + 1 := hn
    obtain ⟨h1, h2, h3, h4, h5⟩ := made_frame hm
    rw [Tr.panes, Tr.paness_eq] at hp
    obtain ⟨u, hu, hpu⟩ := List.mem_flatMap.mp hp
    exact made_panB n u (by have := Tr.hi_mem hu; omega) _ _ (h4 u hu) p hpu
theorem Tr.Good.num {t : Tr} (g : t.Good) {n : Int} (h : t.hasN n = true) : 0 ≤ n ∧ n ≤ 99 := by
  unfold Tr.hasN at h
  obtain ⟨p, hp, e⟩ := List.any_eq_true.mp h
  have := made_panB _ t (Nat.le_refl _) _ _ g.made p hp
  unfold panB at this
  simp only [Bool.and_eq_true, inB_iff] at this
  rw [← beq_iff_eq.mp e]
  exact this.1
section
variable {exm : Nat → Nat → Bool} {cl : Nat → Nat → List D → M D} {i : IxW}
theorem PrgW.places_st (P : PrgW exm cl i) {t : Tr} (gt : t.Good) {k : Nat} (hk : 20 ≤ k) {W H g : Int} (hg : 0 ≤ g ∧ g ≤ 9) (hw : (t.least g).1 ≤ W ∧ W ≤ 2000) (hh : (t.least g).2 ≤ H ∧ H ≤ 2000) {ps us : List D} :
    cl k i.ps [.obj 0] (wS W H g t.d ps us) = .ok (.lst ((t.places g 0 0 W H true).map plD)) (wS W H g t.d ps us) := by
  have th := gt.hi6
  have few := gt.few
  obtain ⟨k, rfl, kh⟩ := lev (n := 19) hk
  have pr := places_run P.pl P.z P.l P.h P.sh hg.1 k t (by omega) gt.ok (by omega) 0 0 W H true (wS W H g t.d ps us) hw hh
  rw [P.ps]
  exact call_ok (r_seq (r_ifF (k := false) (b_cmp (v_fld (v_var rfl) g_n (lst_tree t)) v_non (is_tree' t)) rfl r_nil) (r_seqR (r_ret (v_call (l_cons (v_fld (v_var rfl) g_n (lst_tree t)) (l_cons (v_tup (l_cons v_int (l_cons v_int (l_cons (v_fld (v_var rfl) g_w rfl) (l_cons (v_fld (v_var rfl) g_h rfl) l_nil)))) (nat_le rfl)) (l_cons (v_fld (v_var rfl) g_g rfl) (l_cons v_bl l_nil)))) pr))))
theorem PrgW.tree_st (P : PrgW exm cl i) {t : Tr} {k : Nat} (hk : 1 ≤ k) {W H g : Int} {ps us : List D} : cl k i.tr [.obj 0] (wS W H g t.d ps us) = .ok t.d (wS W H g t.d ps us) := by
  obtain ⟨k, rfl, kh⟩ := lev (n := 0) hk
  rw [P.tr]
  exact call_ok (r_seqR (r_ret (v_fld (v_var rfl) g_n (lst_tree t))))
theorem PrgW.make_st (P : PrgW exm cl i) {k : Nat} (hk : 20 ≤ k) {W H g : Int} (hw : 1 ≤ W ∧ W ≤ 2000) (hh : 1 ≤ H ∧ H ≤ 2000) (hg : 0 ≤ g ∧ g ≤ 9) {as : I} {rho : En} (ha : (den exm (cl k) as).l rho [] = .ok [.int W, .int H, .int g] []) : (den exm (cl k) (.make i.ini as)).v rho [] = .ok (.obj 0) (wS W H g .non [] []) := by
  obtain ⟨k, rfl, kh⟩ := lev (n := 19) hk
  obtain ⟨k', rfl, kh'⟩ := lev (n := 18) kh
  have ls := look_size_ok P.ls P.w (k := k') (by omega) hw hh hg [[]]
  have ini : cl (k' + 1) i.ini [.obj 0, .int W, .int H, .int g] [[]] = .ok .non (wS W H g .non [] []) := by
    rw [P.ini]
    refine call_nx (r := [some (.obj 0), some (.int W), some (.int H), some (.int g)]) (r_seq (r_expr (v_call (l_cons (v_var rfl) (l_cons (v_var rfl) (l_cons (v_var rfl) l_nil))) ls)) (r_seq (r_fset (v_var rfl) rfl rfl (by kernel_rfl)) ?_))
    refine r_seq (r_fset (v_var rfl) rfl rfl (by kernel_rfl)) ?_
    refine r_seq (r_fset (v_var rfl) rfl rfl (by kernel_rfl)) ?_
    refine r_seq (r_fset v_non rfl rfl (by kernel_rfl)) ?_
    refine r_seq (r_fnew rfl (by kernel_rfl)) ?_
    refine r_seq (r_fnew rfl (by kernel_rfl)) ?_
    kernel_rfl
  show bnd ((den exm (cl (k' + 1 + 1)) as).l rho) (makeM (cl (k' + 1 + 1) (i.ini + 1000))) [] = _
  rw [bnd_ok ha]
  unfold makeM
  rw [P.mak]
  show (match cl (k' + 1) i.ini [.obj 0, .int W, .int H, .int g] [[]] with
    | .ok d m' => if isNon d = true then R.ok (D.obj 0) m' else R.bad
    | .exc c m' => .exc c m'
    | .bad => .bad) = _
  rw [ini]
  rfl
end
end PF
namespace PF
open PySem L2
/-! ### a place in a tree -/
inductive Spot where
  | hole | inn (r : Bool) (A : List Tr) (c : Spot) (B : List Tr)
def Spot.kind : Spot → Option Bool → Option Bool
  | .hole, k => k
  | .inn r _ c _, _ => c.kind (some r)
def Spot.pre : Spot → List (Int × Int × Int)
  | .hole => []
  | .inn _ A c _ => Tr.paness A ++ c.pre
def Spot.app : Spot → Spot → Spot
  | .hole, e => e
  | .inn r A c B, e => .inn r A (c.app e) B
theorem paness_app : ∀ (A B : List Tr), Tr.paness (A ++ B) = Tr.paness A ++ Tr.paness B
  | [], _ => rfl
  | a :: A, B => by rw [List.cons_append, Tr.paness, Tr.paness, paness_app A B, List.append_assoc]
end PF
namespace PF
open PySem L2
theorem Tr.Ok.ne {t : Tr} (ok : t.Ok) : t.panes ≠ [] := fun z => by
  have := (ok.bounds (g := 0) (Int.le_refl _) _ (Nat.le_refl _)).1
  rw [z] at this
  simp at this
end PF
namespace PF
open PySem L2
/-! ### what a wall tells -/
def plT (q : Pl) : D := .tup [.int q.2.1, .int q.2.2.1, .int q.2.2.2.1, .int q.2.2.2.2.1, .bl q.2.2.2.2.2]
def optD : Option Int → D
  | none => .non
  | some n => .int n
theorem filter_num {α : Type} (f : α → Int) : ∀ {qs : List α} {q : α}, (qs.map f).Nodup → q ∈ qs → (qs.filter fun o => f o == f q) = [q]
  | [], _, _, h => by cases h
  | a :: qs, q, nd, h => by
    rw [List.map_cons, List.nodup_cons] at nd
    rcases List.mem_cons.mp h with e | e
    · subst e
      rw [List.filter_cons, if_pos (beq_self_eq_true _), List.filter_eq_nil_iff.mpr]
      intro o ho z
      exact nd.1 (by rw [← beq_iff_eq.mp z]; exact List.mem_map_of_mem ho)
    · rw [List.filter_cons, if_neg, filter_num f nd.2 e]
      intro z
      exact nd.1 (by rw [beq_iff_eq.mp z]; exact List.mem_map_of_mem e)
def inC (x y : Int) (q : Pl) : Bool := (decide (q.2.1 ≤ x) && decide (x < q.2.1 + q.2.2.2.1)) && (decide (q.2.2.1 ≤ y) && decide (y < q.2.2.1 + q.2.2.2.2.1))
def pos' (kd : Bool) (q : Pl) : Int := if kd then q.2.1 else q.2.2.1
def siz' (kd : Bool) (q : Pl) : Int := if kd then q.2.2.2.1 else q.2.2.2.2.1
def adjB (kd bh : Bool) (g : Int) (a o : Pl) : Bool := if bh then pos' kd a + siz' kd a + g == pos' kd o else pos' kd o + siz' kd o + g == pos' kd a
def ovl (kd : Bool) (a o : Pl) : Int := min (pos' (!kd) a + siz' (!kd) a) (pos' (!kd) o + siz' (!kd) o) - max (pos' (!kd) a) (pos' (!kd) o)
def tch (kd bh : Bool) (g : Int) (a o : Pl) : Int := if adjB kd bh g a o = true then max 0 (ovl kd a o) else 0
def nbS (kd bh : Bool) (g : Int) (a : Pl) (s : Int × Option Int) (o : Pl) : Int × Option Int := if (Pl.sh o && !(o.1 == a.1)) = true then (if tch kd bh g a o > s.1 then (tch kd bh g a o, some o.1) else s) else s
def nbL (kd bh : Bool) (g : Int) (a : Pl) (s : Int × Option Int) (o : Pl) : Int × Option Int := if (!(o.1 == a.1) && adjB kd bh g a o) = true then (if ovl kd a o > s.1 then (ovl kd a o, some o.1) else s) else s
theorem nb_eq {kd bh : Bool} {g : Int} {a : Pl} : ∀ (qs : List Pl) (s : Int × Option Int), 0 ≤ s.1 → qs.foldl (nbS kd bh g a) s = (qs.filter Pl.sh).foldl (nbL kd bh g a) s
  | [], s, _ => rfl
  | o :: qs, s, h => by
    rw [List.foldl_cons]
    by_cases z : Pl.sh o = true
    · rw [List.filter_cons, if_pos z, List.foldl_cons]
      have e : nbS kd bh g a s o = nbL kd bh g a s o ∧ 0 ≤ (nbL kd bh g a s o).1 := by
        unfold nbS nbL tch
        rw [z, Bool.true_and]
        cases q : (!(o.1 == a.1)) with
        | false => exact ⟨rfl, h⟩
        | true =>
          rw [if_pos rfl, Bool.true_and]
          cases r : adjB kd bh g a o with
          | false =>
            simp only [Bool.false_eq_true, if_false]
            rw [if_neg (show ¬ (0 : Int) > s.1 by omega)]
            exact ⟨rfl, h⟩
          | true =>
            rw [if_pos rfl, if_pos rfl]
            by_cases y : ovl kd a o > s.1
            · rw [if_pos y, if_pos (by omega), show max 0 (ovl kd a o) = ovl kd a o by omega]
              exact ⟨rfl, by show 0 ≤ ovl kd a o; omega⟩
            · rw [if_neg y, if_neg (by omega)]
              exact ⟨rfl, h⟩
      rw [e.1]
      exact nb_eq qs _ e.2
    · rw [List.filter_cons, if_neg z]
      have e : nbS kd bh g a s o = s := by
        unfold nbS
        rw [if_neg]
        intro y
        rw [Bool.and_eq_true] at y
        exact z y.1
      rw [e]
      exact nb_eq qs s h
section
variable {exm : Nat → Nat → Bool} {cl : Nat → Nat → List D → M D} {i : IxW}
theorem touch_run {j : Nat} (H : Has exm cl j d_touching) {k : Nat} (hk : 1 ≤ k) (kd bh : Bool) (g : Int) (a o : Pl) (m : Store) : cl k j [plT a, plT o, .str (sideS kd bh), .int g] m = .ok (.int (tch kd bh g a o)) m := by
  obtain ⟨k, rfl, _⟩ := lev (n := 0) hk
  rw [H]
  unfold tch
  let ax : Int := if kd then 0 else 1
  let lo : Pl := if bh then a else o
  let hi : Pl := if bh then o else a
  have g4 : (den exm (cl k) (.bi .int (.cons (.cmp .eq (.gix "KINDS" [("left", .s "row"), ("right", .s "row"), ("above", .s "column"), ("below", .s "column")] (.var 2)) (.str "column")) .nil))).v [some (plT a), some (plT o), some (.str (sideS kd bh)), some (.int g), none, none, none, none, none, none] m = .ok (.int ax) m :=
    v_bi (l_cons (v_cmp (d := .bl (!kd)) (v_gix (d := .str (kdS kd)) (v_var rfl) (by cases kd <;> cases bh <;> rfl)) v_str (by cases kd <;> rfl)) l_nil) (by cases kd <;> rfl)
  have e5 : (den exm (cl k) (.ife (.tcmp .inn (.var 2) (.tup (.cons (.str "left") (.cons (.str "above") .nil)))) (.tup (.cons (.var 1) (.cons (.var 0) .nil))) (.tup (.cons (.var 0) (.cons (.var 1) .nil))))).v [some (plT a), some (plT o), some (.str (sideS kd bh)), some (.int g), some (.int ax), none, none, none, none, none] m = .ok (.tup [plT lo, plT hi]) m := by
    have t : (den exm (cl k) (.tcmp .inn (.var 2) (.tup (.cons (.str "left") (.cons (.str "above") .nil))))).b [some (plT a), some (plT o), some (.str (sideS kd bh)), some (.int g), some (.int ax), none, none, none, none, none] m = .ok (!bh) m := b_cmp (v_var rfl) (v_tup (l_cons v_str (l_cons v_str l_nil)) (nat_le rfl)) (by cases kd <;> cases bh <;> rfl)
    cases bh with
    | true => exact v_ifF t rfl (v_tup (l_cons (v_var rfl) (l_cons (v_var rfl) l_nil)) (nat_le rfl))
    | false => exact v_ifT t rfl (v_tup (l_cons (v_var rfl) (l_cons (v_var rfl) l_nil)) (nat_le rfl))
  have ip : ∀ q : Pl, ixD (plT q) (.int ax) = some (.int (pos' kd q)) := fun q => by cases kd <;> rfl
  have is : ∀ q : Pl, ixD (plT q) (.int (2 + ax)) = some (.int (siz' kd q)) := fun q => by cases kd <;> rfl
  have ip' : ∀ q : Pl, ixD (plT q) (.int (1 - ax)) = some (.int (pos' (!kd) q)) := fun q => by cases kd <;> rfl
  have is' : ∀ q : Pl, ixD (plT q) (.int (2 + (1 - ax))) = some (.int (siz' (!kd) q)) := fun q => by cases kd <;> rfl
  have adj : (pos' kd lo + siz' kd lo + g == pos' kd hi) = adjB kd bh g a o := by cases bh <;> rfl
  have tst : (den exm (cl k) (.tcmp .ne (.bin .add (.bin .add (.ix (.var 5) (.var 4)) (.ix (.var 5) (.bin .add (.int 2) (.var 4)))) (.var 3)) (.ix (.var 6) (.var 4)))).b [some (plT a), some (plT o), some (.str (sideS kd bh)), some (.int g), some (.int ax), some (plT lo), some (plT hi), none, none, none] m = .ok (!adjB kd bh g a o) m := by
    rw [← adj]
    exact b_cmp (v_bin (v_bin (v_ix (v_var rfl) (v_var rfl) (ip lo)) (v_ix (v_var rfl) (v_bin v_int (v_var rfl) rfl) (is lo)) rfl) (v_var rfl) rfl) (v_ix (v_var rfl) (v_var rfl) (ip hi)) rfl
  refine call_ok (r_seq (r_set g4) (r_seq (r_unp e5 rfl) ?_))
  cases z : adjB kd bh g a o with
  | false =>
    rw [if_neg (by decide)]
    exact r_seqR (r_ifT tst (by rw [z]; rfl) (r_seqR (r_ret v_int)))
  | true =>
    rw [if_pos rfl]
    refine r_seq (r_ifF tst (by rw [z]; rfl) r_nil) (r_seq (r_set (v_bin v_int (v_var rfl) rfl)) (r_seq (r_set (v_bi (l_cons (v_ix (v_var rfl) (v_var rfl) (ip' a)) (l_cons (v_ix (v_var rfl) (v_var rfl) (ip' o)) l_nil)) (max2 _ _))) (r_seq (r_set (v_bi (l_cons (v_bin (v_ix (v_var rfl) (v_var rfl) (ip' a)) (v_ix (v_var rfl) (v_bin v_int (v_var rfl) rfl) (is' a)) rfl) (l_cons (v_bin (v_ix (v_var rfl) (v_var rfl) (ip' o)) (v_ix (v_var rfl) (v_bin v_int (v_var rfl) rfl) (is' o)) rfl) l_nil)) (min2 _ _))) (r_seqR (r_ret (v_bi (l_cons v_int (l_cons (v_bin (v_var rfl) (v_var rfl) rfl) l_nil)) (max2 _ _)))))))
/-- a wall that shows good places -/
structure Vw (t : Tr) (W H g : Int) (qs : List Pl) : Prop where
  good : t.Good
  g9 : 0 ≤ g ∧ g ≤ 9
  w : (t.least g).1 ≤ W ∧ W ≤ 2000
  h : (t.least g).2 ≤ H ∧ H ≤ 2000
  eq : qs = t.places g 0 0 W H true
  nums : qs.map (·.1) = t.nums
  til : Til g t 0 0 W H qs
variable {t : Tr} {W H g : Int} {qs : List Pl} {ps us : List D}
theorem Vw.nd (v : Vw t W H g qs) : (qs.map (·.1)).Nodup := by rw [v.nums]; exact v.good.nd
theorem Vw.few (v : Vw t W H g qs) : qs.length ≤ 12 := by
  have := congrArg List.length v.nums
  unfold Tr.nums at this
  rw [List.length_map, List.length_map] at this
  have := v.good.few
  omega
theorem Vw.has (v : Vw t W H g qs) {q : Pl} (hq : q ∈ qs) : t.hasN q.1 = true := by
  have : q.1 ∈ t.nums := by rw [← v.nums]; exact List.mem_map_of_mem hq
  obtain ⟨p, hp, e⟩ := List.mem_map.mp this
  exact List.any_eq_true.mpr ⟨p, hp, beq_iff_eq.mpr e⟩
theorem vw_places (P : PrgW exm cl i) (v : Vw t W H g qs) {k : Nat} (hk : 20 ≤ k) : cl k i.ps [.obj 0] (wS W H g t.d ps us) = .ok (.lst (qs.map plD)) (wS W H g t.d ps us) := by
  rw [v.eq]
  exact P.places_st v.good hk v.g9 v.w v.h
theorem nf12 : noFld "place" := fun _ _ _ _ _ _ => by kernel_rfl
theorem nf13 : noFld "shown" := fun _ _ _ _ _ _ => by kernel_rfl
theorem nf15 : noFld "at" := fun _ _ _ _ _ _ => by kernel_rfl
theorem nf16 : noFld "neighbour" := fun _ _ _ _ _ _ => by kernel_rfl
theorem vw_look (P : PrgW exm cl i) (v : Vw t W H g qs) {k : Nat} (hk : 14 ≤ k) {q : Pl} (hq : q ∈ qs) : cl k i.lkp [.obj 0, .int q.1] (wS W H g t.d ps us) = .ok .non (wS W H g t.d ps us) := by
  have := v.good.few
  have := v.good.hi6
  exact P.look_pane (by omega) (by omega) hk (v.good.num (v.has hq)) (v.has hq)
theorem vw_place (P : PrgW exm cl i) (v : Vw t W H g qs) {j : Nat} (Hj : Has exm cl j (d_W_place i.lkp i.ps)) {k : Nat} (hk : 22 ≤ k) {q : Pl} (hq : q ∈ qs) : cl k j [.obj 0, .int q.1] (wS W H g t.d ps us) = .ok (plT q) (wS W H g t.d ps us) := by
  have few := v.few
  obtain ⟨k, rfl, kh⟩ := lev (n := 21) hk
  rw [Hj]
  have c := v_comp (exm := exm) (cl := cl k) (m := wS W H g t.d ps us) (it := .iseq (.meth0 "places" i.ps (.var 0))) (t := .nm 2) (c := .tcmp .eq (.ix (.var 2) (.int 0)) (.var 1)) (f := .sl (.var 2) (.prt (.int 1)) .hole) (vs := [2]) (rho := [some (.obj 0), some (.int q.1), none]) plD (fun o => o.1 == q.1) plT (is := qs) (l_seq (w_meth0 nf10 (v_var rfl) (vw_places P v (k := k) (by omega))) rfl) (by have := big; omega) fun o _ => ⟨_, rfl, b_cmp (v_ix (x := plD o) (v_var rfl) v_int rfl) (v_var rfl) rfl, fun _ => v_sl (x := plD o) (v_var rfl) (o_prt v_int) o_hole rfl⟩
  rw [filter_num (fun o : Pl => o.1) v.nd hq] at c
  exact call_ok (r_seq (r_expr (w_meth nf1 (v_var rfl) (l_cons (v_var rfl) l_nil) (vw_look P v (k := k) (by omega) hq))) (r_seqR (r_ret (v_ix c v_int (ix_head _ _)))))
theorem vw_shown (P : PrgW exm cl i) (v : Vw t W H g qs) {j : Nat} (Hj : Has exm cl j (d_W_shown i.ps)) {k : Nat} (hk : 22 ≤ k) : cl k j [.obj 0] (wS W H g t.d ps us) = .ok (.lst ((qs.filter Pl.sh).map fun q => .int q.1)) (wS W H g t.d ps us) := by
  have few := v.few
  obtain ⟨k, rfl, kh⟩ := lev (n := 21) hk
  rw [Hj]
  exact call_ok (r_seqR (r_ret (v_comp plD Pl.sh (fun q => .int q.1) (l_seq (w_meth0 nf10 (v_var rfl) (vw_places P v (k := k) (by omega))) rfl) (by have := big; omega) fun o _ => ⟨_, rfl, b_tst (v_ix (x := plD o) (v_var rfl) v_int rfl) rfl, fun _ => v_ix (x := plD o) (v_var rfl) v_int rfl⟩)))
abbrev atB : I := (.cons (.iff (.tand (.tst (.var 8)) (.tand (.tchn .le .lt (.var 4) (.var 1) (.bin .add (.var 4) (.var 6))) (.tchn .le .lt (.var 5) (.var 2) (.bin .add (.var 5) (.var 7))))) (.cons (.ret (.var 3)) .nil) .nil) .nil)
theorem at_for {c0 : Nat → List D → M D} {x y : Int} {m : Store} : ∀ (qs : List Pl) (x3 x4 x5 x6 x7 x8 : Option D), (∃ q, qs.find? (fun q => Pl.sh q && inC x y q) = some q ∧ forS (.tp [3, 4, 5, 6, 7, 8]) (den exm c0 atB).s (qs.map plD) [some (.obj 0), some (.int x), some (.int y), x3, x4, x5, x6, x7, x8] m = .rt (.int q.1) m) ∨ (qs.find? (fun q => Pl.sh q && inC x y q) = none ∧ ∃ rho, forS (.tp [3, 4, 5, 6, 7, 8]) (den exm c0 atB).s (qs.map plD) [some (.obj 0), some (.int x), some (.int y), x3, x4, x5, x6, x7, x8] m = .nx rho m)
  | [], x3, x4, x5, x6, x7, x8 => .inr ⟨rfl, _, f_nil⟩
  | q :: qs, x3, x4, x5, x6, x7, x8 => by
    have tst : (den exm c0 (.tand (.tst (.var 8)) (.tand (.tchn .le .lt (.var 4) (.var 1) (.bin .add (.var 4) (.var 6))) (.tchn .le .lt (.var 5) (.var 2) (.bin .add (.var 5) (.var 7)))))).b [some (.obj 0), some (.int x), some (.int y), some (.int q.1), some (.int q.2.1), some (.int q.2.2.1), some (.int q.2.2.2.1), some (.int q.2.2.2.2.1), some (.bl q.2.2.2.2.2)] m = .ok (Pl.sh q && inC x y q) m :=
      b_and (b_tst (v_var rfl) rfl) fun _ => b_and (b_chn (v_var rfl) (v_var rfl) rfl (v_bin (v_var rfl) (v_var rfl) rfl) rfl) fun _ => b_chn (v_var rfl) (v_var rfl) rfl (v_bin (v_var rfl) (v_var rfl) rfl) rfl
    cases z : (Pl.sh q && inC x y q) with
    | true => exact .inl ⟨q, by rw [List.find?_cons, z], f_consR rfl (r_seqR (r_ifT tst z (r_seqR (r_ret (v_var rfl)))))⟩
    | false =>
      rcases at_for qs (some (.int q.1)) (some (.int q.2.1)) (some (.int q.2.2.1)) (some (.int q.2.2.2.1)) (some (.int q.2.2.2.2.1)) (some (.bl q.2.2.2.2.2)) with ⟨r, h1, h2⟩ | ⟨h1, rho, h2⟩
      · exact .inl ⟨r, by rw [List.find?_cons, z]; exact h1, by rw [← h2]; exact f_cons rfl (r_seq (r_ifF tst z r_nil) r_nil) rfl⟩
      · exact .inr ⟨by rw [List.find?_cons, z]; exact h1, rho, by rw [← h2]; exact f_cons rfl (r_seq (r_ifF tst z r_nil) r_nil) rfl⟩
theorem vw_at (P : PrgW exm cl i) (v : Vw t W H g qs) {j : Nat} (Hj : Has exm cl j (d_W_at i.w i.xS i.ps)) {k : Nat} (hk : 22 ≤ k) {x y : Int} (hx : 0 ≤ x ∧ x ≤ W - 1) (hy : 0 ≤ y ∧ y ≤ H - 1) : cl k j [.obj 0, .int x, .int y] (wS W H g t.d ps us) = .ok (optD ((qs.find? fun q => Pl.sh q && inC x y q).map (·.1))) (wS W H g t.d ps us) := by
  obtain ⟨k, rfl, kh⟩ := lev (n := 21) hk
  rw [Hj]
  have w1 := within_ok P.w (k := k) (by omega) x 0 (W - 1) (wS W H g t.d ps us)
  have w2 := within_ok P.w (k := k) (by omega) y 0 (H - 1) (wS W H g t.d ps us)
  rw [inB_iff.mpr hx] at w1
  rw [inB_iff.mpr hy] at w2
  have hd : ∀ {res : Rs}, (den exm (cl k) (.cons (.for (.iseq (.meth0 "places" i.ps (.var 0))) (.tp [3, 4, 5, 6, 7, 8]) atB) (.cons (.ret .non) .nil))).s [some (.obj 0), some (.int x), some (.int y), none, none, none, none, none, none] (wS W H g t.d ps us) = res → (den exm (cl k) (d_W_at i.w i.xS i.ps).ir).s ([.obj 0, .int x, .int y].map some ++ List.replicate ((d_W_at i.w i.xS i.ps).N.length - [D.obj 0, .int x, .int y].length) none) (wS W H g t.d ps us) = res := fun h =>
    r_seq (r_ifF (k := false) (b_orF (b_not (k := true) (b_tst (v_call (l_cons (v_var rfl) (l_cons v_int (l_cons (v_bin (v_fld (v_var rfl) g_w rfl) v_int rfl) l_nil))) w1) rfl)) rfl (b_not (k := true) (b_tst (v_call (l_cons (v_var rfl) (l_cons v_int (l_cons (v_bin (v_fld (v_var rfl) g_h rfl) v_int rfl) l_nil))) w2) rfl))) rfl r_nil) h
  have it := l_seq (exm := exm) (cl := cl k) (rho := [some (.obj 0), some (.int x), some (.int y), none, none, none, none, none, none]) (w_meth0 (a := .var 0) nf10 (v_var rfl) (vw_places P v (ps := ps) (us := us) (k := k) (by omega))) (ds := qs.map plD) rfl
  rcases at_for (exm := exm) (c0 := cl k) (x := x) (y := y) (m := wS W H g t.d ps us) qs none none none none none none with ⟨q, h1, h2⟩ | ⟨h1, rho, h2⟩
  · rw [h1]
    exact call_ok (hd (r_seqR (f_of it h2)))
  · rw [h1]
    exact call_ok (hd (r_seq (f_of it h2) (r_seqR (r_ret v_non))))
abbrev nbB (jt : Nat) : I := (.cons (.iff (.tand (.tst (.ix (.var 6) (.int 5))) (.tcmp .ne (.ix (.var 6) (.int 0)) (.var 1))) (.cons (.set 7 (.call jt (.cons (.var 3) (.cons (.sl (.var 6) (.prt (.int 1)) .hole) (.cons (.var 2) (.cons (.fld (.var 0) "gap") .nil)))))) (.cons (.iff (.tcmp .gt (.var 7) (.var 5)) (.cons (.set 5 (.var 7)) (.cons (.set 4 (.ix (.var 6) (.int 0))) .nil)) .nil) .nil)) .nil) .nil)
theorem nb_for {jt : Nat} (Ht : Has exm cl jt d_touching) {k : Nat} (hk : 1 ≤ k) {kd bh : Bool} {a : Pl} {W H g : Int} {now : D} {ps us : List D} : ∀ (qs : List Pl) (s : Int × Option Int) (x6 x7 : Option D),
    ∃ y6 y7, forS (.nm 6) (den exm (cl k) (nbB jt)).s (qs.map plD) [some (.obj 0), some (.int a.1), some (.str (sideS kd bh)), some (plT a), some (optD s.2), some (.int s.1), x6, x7] (wS W H g now ps us) = .nx [some (.obj 0), some (.int a.1), some (.str (sideS kd bh)), some (plT a), some (optD (qs.foldl (nbS kd bh g a) s).2), some (.int (qs.foldl (nbS kd bh g a) s).1), y6, y7] (wS W H g now ps us)
  | [], s, x6, x7 => ⟨x6, x7, f_nil⟩
  | o :: qs, s, x6, x7 => by
    have t1 : (den exm (cl k) (.tand (.tst (.ix (.var 6) (.int 5))) (.tcmp .ne (.ix (.var 6) (.int 0)) (.var 1)))).b [some (.obj 0), some (.int a.1), some (.str (sideS kd bh)), some (plT a), some (optD s.2), some (.int s.1), some (plD o), x7] (wS W H g now ps us) = .ok (Pl.sh o && !(o.1 == a.1)) (wS W H g now ps us) :=
      b_and (b_tst (v_ix (x := plD o) (v_var rfl) v_int rfl) rfl) fun _ => b_cmp (v_ix (x := plD o) (v_var rfl) v_int rfl) (v_var rfl) rfl
    rw [List.foldl_cons, List.map_cons]
    cases z : (Pl.sh o && !(o.1 == a.1)) with
    | false =>
      have e : nbS kd bh g a s o = s := by unfold nbS; rw [z]; rfl
      rw [e]
      obtain ⟨y6, y7, r⟩ := nb_for Ht hk (kd := kd) (bh := bh) (a := a) (g := g) (W := W) (H := H) (now := now) (ps := ps) (us := us) qs s (some (plD o)) x7
      exact ⟨y6, y7, by rw [← r]; exact f_cons rfl (r_seq (r_ifF t1 z r_nil) r_nil) rfl⟩
    | true =>
      have tr := touch_run Ht hk kd bh g a o (wS W H g now ps us)
      by_cases y : tch kd bh g a o > s.1
      · have e : nbS kd bh g a s o = (tch kd bh g a o, some o.1) := by unfold nbS; rw [z, if_pos rfl, if_pos y]
        rw [e]
        obtain ⟨y6, y7, r⟩ := nb_for Ht hk (kd := kd) (bh := bh) (a := a) (g := g) (W := W) (H := H) (now := now) (ps := ps) (us := us) qs (tch kd bh g a o, some o.1) (some (plD o)) (some (.int (tch kd bh g a o)))
        exact ⟨y6, y7, by rw [← r]; exact f_cons rfl (r_seq (r_ifT t1 z (r_seq (r_set (v_call (l_cons (v_var rfl) (l_cons (v_sl (x := plD o) (v_var rfl) (o_prt v_int) o_hole rfl) (l_cons (v_var rfl) (l_cons (v_fld (v_var rfl) g_g rfl) l_nil)))) tr)) (r_seq (r_ifT (b_cmp (v_var rfl) (v_var rfl) rfl) (decide_eq_true y) (r_seq (r_set (v_var rfl)) (r_seq (r_set (v_ix (x := plD o) (v_var rfl) v_int rfl)) r_nil))) r_nil))) r_nil) rfl⟩
      · have e : nbS kd bh g a s o = s := by unfold nbS; rw [z, if_pos rfl, if_neg y]
        rw [e]
        obtain ⟨y6, y7, r⟩ := nb_for Ht hk (kd := kd) (bh := bh) (a := a) (g := g) (W := W) (H := H) (now := now) (ps := ps) (us := us) qs s (some (plD o)) (some (.int (tch kd bh g a o)))
        exact ⟨y6, y7, by rw [← r]; exact f_cons rfl (r_seq (r_ifT t1 z (r_seq (r_set (v_call (l_cons (v_var rfl) (l_cons (v_sl (x := plD o) (v_var rfl) (o_prt v_int) o_hole rfl) (l_cons (v_var rfl) (l_cons (v_fld (v_var rfl) g_g rfl) l_nil)))) tr)) (r_seq (r_ifF (b_cmp (v_var rfl) (v_var rfl) rfl) (decide_eq_false y) r_nil) r_nil))) r_nil) rfl⟩
theorem vw_nb (P : PrgW exm cl i) (v : Vw t W H g qs) {j jpc jt : Nat} (Hj : Has exm cl j (d_W_neighbour i.lkp i.lks jpc i.ps jt)) (Hpc : Has exm cl jpc (d_W_place i.lkp i.ps)) (Ht : Has exm cl jt d_touching) {k : Nat} (hk : 24 ≤ k) {q : Pl} (hq : q ∈ qs) (kd bh : Bool) : cl k j [.obj 0, .int q.1, .str (sideS kd bh)] (wS W H g t.d ps us) = .ok (optD ((qs.filter Pl.sh).foldl (nbL kd bh g q) (0, none)).2) (wS W H g t.d ps us) := by
  obtain ⟨k, rfl, kh⟩ := lev (n := 23) hk
  rw [Hj, ← nb_eq qs (0, none) (Int.le_refl _)]
  obtain ⟨y6, y7, r⟩ := nb_for Ht (k := k) (by omega) (kd := kd) (bh := bh) (a := q) (g := g) (W := W) (H := H) (now := t.d) (ps := ps) (us := us) qs (0, none) none none
  exact call_ok (r_seq (r_expr (w_meth nf1 (v_var rfl) (l_cons (v_var rfl) l_nil) (vw_look P v (k := k) (by omega) hq))) (r_seq (r_expr (w_meth nf3 (v_var rfl) (l_cons (v_var rfl) l_nil) (P.look_side (k := k) (by omega) kd bh _))) (r_seq (r_set (w_meth nf12 (v_var rfl) (l_cons (v_var rfl) l_nil) (vw_place P v Hpc (k := k) (by omega) hq))) (r_seq (r_set v_non) (r_seq (r_set v_int) (r_seq (f_of (l_seq (w_meth0 nf10 (v_var rfl) (vw_places P v (k := k) (by omega))) rfl) r) (r_seqR (r_ret (v_var rfl)))))))))
end
end PF
namespace PF
open PySem L2
/-- none, or a good tree -/
def Fit' (d : D) : Prop := d = .non ∨ ∃ u : Tr, u.Good ∧ d = u.d
theorem Fit'.lst {d : D} : Fit' d → isLst d = false
  | .inl e => by rw [e]; rfl
  | .inr ⟨u, _, e⟩ => by rw [e]; exact lst_tree u
theorem Fit'.ne {d : D} : Fit' d → Cop.sem .ne d d = some (.bl false)
  | .inl e => by rw [e]; rfl
  | .inr ⟨u, g, e⟩ => by rw [e]; exact ne_tree (by have := g.hi6; omega)
theorem Fit'.eq {d : D} : Fit' d → Cop.sem .eq d d = some (.bl true)
  | .inl e => by rw [e]; rfl
  | .inr ⟨u, g, e⟩ => by rw [e]; exact eq_tree (by have := g.hi6; omega)
end PF
namespace PF
open PySem L2
/-! ### a pane beside another, on another: what the new tree has -/
/-- a pane put in, or nothing -/
def Ins (p : Int × Int × Int) (y x : List (Int × Int × Int)) : Prop := x = y ∨ ∃ A B, y = A ++ B ∧ x = A ++ p :: B
theorem Ins.pre {p : Int × Int × Int} {y x : List (Int × Int × Int)} (C : List (Int × Int × Int)) : Ins p y x → Ins p (C ++ y) (C ++ x)
  | .inl e => .inl (by rw [e])
  | .inr ⟨A, B, e1, e2⟩ => .inr ⟨C ++ A, B, by rw [e1]; simp, by rw [e2]; simp⟩
theorem Ins.len {p : Int × Int × Int} {y x : List (Int × Int × Int)} : Ins p y x → x.length ≤ y.length + 1
  | .inl e => by rw [e]; omega
  | .inr ⟨A, B, e1, e2⟩ => by rw [e1, e2, List.length_append, List.length_append, List.length_cons]; omega
section
variable {exm : Nat → Nat → Bool} {cl : Nat → Nat → List D → M D} {i : IxW}
/-! ### turning to a tree that may not be, or has no room -/
/-- a wall that has a tree with room -/
def LSt (W H g : Int) (t : Tr) (N : Nat) (m : Store) : Prop := ∃ ps us, m = wS W H g t.d ps us ∧ ps.length ≤ N
section
variable {t : Tr} {n : Int} {kd bh : Bool} {p : Int × Int × Int} {k : Nat} {W H g : Int} {ps us : List D} {m' : Store} {c : Nat}
theorem PrgW.split_to (P : PrgW exm cl i) (gt : t.Good) (ev : t.ev = true) (hn : t.hasN n = true) (hp : panB p = true) (hf : t.hasN p.1 = false) (hk : 19 ≤ k) (tt : cl k i.tt [.obj 0, (t.bes n kd bh p).d] (wS W H g t.d ps us) = .ok .non m') : cl (k + 1) i.sp [.obj 0, .int n, .str (sideS kd bh), paneD p] (wS W H g t.d ps us) = .ok .non m' := by
  have th := gt.hi6
  have few := gt.few
  have l1 := P.look_pane (t := t) (by omega) (by omega) (k := k) (by omega) (gt.num hn) hn (W := W) (H := H) (g := g) (ps := ps) (us := us)
  have l2 := P.look_side (k := k) (by omega) kd bh (wS W H g t.d ps us)
  have l3 := P.look_new (t := t) (by omega) (by omega) (k := k) (by omega) hp hf (W := W) (H := H) (g := g) (ps := ps) (us := us)
  have be := beside_run P.be P.ifr P.pi P.ha P.n P.wp P.fm P.re n kd bh p k t 1 none (wS W H g t.d ps us) (by omega) gt.made ev (by omega) hn
  rw [P.sp]
  exact call_nx (r_seq (r_expr (w_meth nf1 (v_var rfl) (l_cons (v_var rfl) l_nil) l1)) (r_seq (r_expr (w_meth nf3 (v_var rfl) (l_cons (v_var rfl) l_nil) l2)) (r_seq (r_expr (w_meth nf2 (v_var rfl) (l_cons (v_var rfl) l_nil) l3)) (r_seq (r_expr (w_meth nf4' (v_var rfl) (l_cons (v_call (l_cons (v_fld (v_var rfl) g_n (lst_tree t)) (l_cons (v_var rfl) (l_cons (v_var rfl) (l_cons (v_var rfl) l_nil)))) be) l_nil) tt)) r_nil))))
theorem PrgW.stack_to (P : PrgW exm cl i) (gt : t.Good) (ev : t.ev = true) (hn : t.hasN n = true) (hp : panB p = true) (hf : t.hasN p.1 = false) (hk : 19 ≤ k) (tt : cl k i.tt [.obj 0, (t.stk n p).d] (wS W H g t.d ps us) = .ok .non m') : cl (k + 1) i.sk [.obj 0, .int n, paneD p] (wS W H g t.d ps us) = .ok .non m' := by
  have th := gt.hi6
  have few := gt.few
  have l1 := P.look_pane (t := t) (by omega) (by omega) (k := k) (by omega) (gt.num hn) hn (W := W) (H := H) (g := g) (ps := ps) (us := us)
  have l3 := P.look_new (t := t) (by omega) (by omega) (k := k) (by omega) hp hf (W := W) (H := H) (g := g) (ps := ps) (us := us)
  have be := stacked_run P.st P.pi P.ha P.n P.wp P.fm P.re n p k t 1 none (wS W H g t.d ps us) (by omega) gt.made ev (by omega) hn
  rw [P.sk]
  exact call_nx (r_seq (r_expr (w_meth nf1 (v_var rfl) (l_cons (v_var rfl) l_nil) l1)) (r_seq (r_expr (w_meth nf2 (v_var rfl) (l_cons (v_var rfl) l_nil) l3)) (r_seq (r_expr (w_meth nf4' (v_var rfl) (l_cons (v_call (l_cons (v_fld (v_var rfl) g_n (lst_tree t)) (l_cons (v_var rfl) (l_cons (v_var rfl) l_nil))) be) l_nil) tt)) r_nil)))
end
/-! ### deeds -/
section
variable {jby jbg jsp jst jcl jsw jmv jof jsh jpu jsc ju jr : Nat} {k : Nat} {W H g : Int} {now : D} {ps us : List D} {m' : Store} {e : Nat} {r : D}
theorem nf20 : noFld "close" := fun _ _ _ _ _ _ => by kernel_rfl
end
end
end PF
namespace PF
open PySem L2
section
variable {exm : Nat → Nat → Bool} {cl : Nat → Nat → List D → M D} {i : IxW}
theorem PrgW.begin_any (P : PrgW exm cl i) {p : Int × Int × Int} (hp : panB p = true) {k : Nat} (hk : 20 ≤ k) {W H g : Int} (hw : p.2.1 ≤ W) (hh : p.2.2 ≤ H) :
    cl k i.bg [.obj 0, paneD p] (wS W H g .non [] []) = .ok .non (wS W H g (pT p).d [.non] []) ∧ (pT p).Good := by
  obtain ⟨k, rfl, kh⟩ := lev (n := 19) hk
  obtain ⟨k', rfl, kh'⟩ := lev (n := 18) kh
  have gp : (pT p).Good := ⟨by rw [Tr.made]; show (panB p && _) = true; rw [hp]; rfl, nat_le rfl, by show [p.1].Nodup; simp⟩
  have p4 := is_pane4 P.p P.w (k := k') (by omega) p (wS W H g .non [] [])
  rw [hp] at p4
  have ln : cl (k' + 1) i.lkn [.obj 0, paneD p] (wS W H g .non [] []) = .ok .non (wS W H g .non [] []) := by
    rw [P.lkn]
    exact call_nx (r_seq (r_ifF (b_not (k := true) (b_tst (v_call (l_cons (v_var rfl) l_nil) p4) rfl)) rfl r_nil) (r_seq (r_ifF (k := false) (b_andF (k1 := false) (b_cmp (v_fld (v_var rfl) g_n rfl) v_non rfl) rfl) rfl r_nil) r_nil))
  have it := is_tree_ok P.t P.m P.p P.s P.w P.n gp (k := k') (by show 0 + 5 ≤ k'; omega) (wS W H g .non [] [])
  have lr := look_room_ok P.lr P.l gp.ok (k := k') (by show 0 + 2 ≤ k'; omega) (w := W) (h := H) (g := g) hw hh (wS W H g .non [] [])
  have ne : Cop.sem .ne (paneD p) .non = some (.bl true) := by
    show neD (paneD p) .non = _
    have e : eqOk (paneD p) .non = true := eqOk_iff.mpr ⟨(Tr.d_pl _ (pT p) (Nat.le_refl _)).1, rfl, nat_le rfl, nat_le rfl⟩
    unfold neD
    rw [e, Bool.or_true, if_pos rfl]
    rfl
  have tt : cl (k' + 1) i.tt [.obj 0, paneD p] (wS W H g .non [] []) = .ok .non (wS W H g (paneD p) [.non] []) := by
    rw [P.tt]
    refine call_nx (r := [some (.obj 0), some (paneD p)]) (r_seq (r_ifF (k := false) (b_andT (k1 := true) (b_cmp (v_var rfl) v_non rfl) rfl (b_not (k := true) (b_tst (v_call (l_cons (v_var rfl) l_nil) it) rfl))) rfl r_nil) (r_seq (r_ifT (k := true) (b_cmp (v_var rfl) v_non rfl) rfl (r_seq (r_expr (v_call (l_cons (v_var rfl) (l_cons (v_fld (v_var rfl) g_w rfl) (l_cons (v_fld (v_var rfl) g_h rfl) (l_cons (v_fld (v_var rfl) g_g rfl) l_nil)))) lr)) r_nil)) (r_seq (r := [some (.obj 0), some (paneD p)]) (m1 := wS W H g (paneD p) [.non] []) (r_ifT (k := true) (b_cmp (v_var rfl) (v_fld (v_var rfl) g_n rfl) ne) rfl (r_seq (r_fapp rfl g_p g_n rfl (nat_le rfl) nd_w) ?_)) r_nil)))
    rw [p_p]
    refine r_seq (r_fnew rfl sm_w) ?_
    rw [p_u]
    refine r_seq (r_fset (v_var rfl) rfl rfl sm_w) ?_
    rw [p_n]
    exact r_nil
  refine ⟨?_, gp⟩
  rw [P.bg]
  exact call_nx (r_seq (r_expr (w_meth nf2 (v_var rfl) (l_cons (v_var rfl) l_nil) ln)) (r_seq (r_ifF (k := false) (b_cmp (v_fld (v_var rfl) g_n rfl) v_non rfl) rfl r_nil) (r_seq (r_expr (w_meth nf4' (v_var rfl) (l_cons (v_var rfl) l_nil) tt)) r_nil)))
theorem look_runW (P : PrgW exm cl i) {jl x : Nat} (Hl : Has exm cl jl (d_look i.t x)) {t : Tr} (gt : t.Good) {k : Nat} (hk : 13 ≤ k) (m : Store) : cl k jl [t.d] m = .ok .non m := by
  have := gt.hi6
  obtain ⟨k, rfl, kh⟩ := lev (n := 12) hk
  rw [Hl]
  exact call_nx (r_seq (r_ifF (b_not (k := true) (b_tst (v_call (l_cons (v_var rfl) l_nil) (is_tree_ok P.t P.m P.p P.s P.w P.n gt (by omega) m)) rfl)) rfl r_nil) r_nil)
theorem pans_runW (P : PrgW exm cl i) {j jl x : Nat} (H : Has exm cl j (d_panes jl i.n)) (Hl : Has exm cl jl (d_look i.t x)) {t : Tr} (gt : t.Good) {k : Nat} (hk : 14 ≤ k) (m : Store) : cl k j [t.d] m = .ok (zL t.nums) m := by
  have := gt.hi6
  have few := gt.few
  obtain ⟨k, rfl, kh⟩ := lev (n := 13) hk
  rw [H]
  have e : zL t.nums = .lst (t.panes.map fun p => .int p.1) := by
    show D.lst ((t.panes.map _).map D.int) = _
    rw [List.map_map]
    rfl
  rw [e]
  exact call_ok (r_seq (r_expr (v_call (l_cons (v_var rfl) l_nil) (look_runW P Hl gt kh m))) (r_seqR (r_ret (v_compA paneD (fun p => .int p.1) (l_seq (v_call (l_cons (v_var rfl) l_nil) (panes_run P.n k t m (by omega) (by omega))) rfl) (by have := big; omega) fun p _ => ⟨_, rfl, v_ix (x := paneD p) (v_var rfl) v_int rfl⟩))))
end
end PF
namespace PF
open PySem L2
/-! ### a frame told, one of its parts opened -/
theorem log_lt {i : Int} (h : 0 ≤ i ∧ i < 10000000000000000000000000000000000000000) : i.natAbs.log2 < 140 := by
  by_cases z : i.natAbs = 0
  · rw [z]; decide
  · exact (Nat.log2_lt z).mpr (by have : (2 : Nat) ^ 140 = 1393796574908163946345982392040522594123776 := (by decide); omega)
theorem mulB {i j : Int} (hi : 0 ≤ i ∧ i < 10000000000000000000000000000000000000000) (hj : 0 ≤ j ∧ j < 10000000000000000000000000000000000000000) : Bop.sem .mul (.int i) (.int j) = some (.int (i * j)) := if_pos (.inr (by have := log_lt hi; have := log_lt hj; omega))
section
variable {exm : Nat → Nat → Bool} {cl : Nat → List D → M D} {m m1 : Store} {rho : En} {a : I} {i : Nat} {ds es : List D}
theorem r_extT (h : rho[i]? = some (some (.lst ds))) (ha : (den exm cl a).v rho m = .ok (.tup es) m1) (hl : ds.length + es.length ≤ sizeLine) : (den exm cl (.ext i a)).s rho m = .nx (rho.set i (some (.lst (ds ++ es)))) m1 := by
  refine exS_ok ?_
  rw [bnd_ok (lst_at_ok h), bnd_ok ha]
  exact lift_ok (if_pos hl)
end
theorem sum_zT (l : List Int) : Bi.sem .sum [zT l] = some (.int l.sum) := by
  show sumD (zT l) = _
  have h := sum_of (fun z : Int => z) l
  rw [List.map_id'] at h
  exact h
section
variable {exm : Nat → Nat → Bool} {cl : Nat → Nat → List D → M D}
def tmF (p at' : Nat) (S : Int) (x : Int) (j : Nat) : Int := if j ≠ at' ∧ j = p then x * S else x
theorem tm_out {p at' : Nat} {S : Int} : ∀ (is : List Nat) (x : Int), (p ∉ is ∨ p = at') → is.foldl (tmF p at' S) x = x
  | [], x, _ => rfl
  | j :: is, x, h => by
    rw [List.foldl_cons, show tmF p at' S x j = x by
      unfold tmF
      rw [if_neg]
      rintro ⟨h1, h2⟩
      rcases h with h | h
      · exact h (by rw [h2]; exact List.mem_cons_self ..)
      · exact h1 (by rw [h2, h])]
    exact tm_out is x (h.imp (fun h q => h (List.mem_cons_of_mem _ q)) id)
theorem tm_in {p at' n : Nat} {S : Int} (hp : p < n) (ne : p ≠ at') : (List.range n).foldl (tmF p at' S) 1 = 1 * S := by
  obtain ⟨k, rfl⟩ : ∃ k, n = p + (k + 1) := ⟨n - p - 1, by omega⟩
  rw [List.range_add, List.foldl_append, tm_out (List.range p) 1 (.inl (by simp)), List.range_succ_eq_map, List.map_cons, List.foldl_cons, show tmF p at' S 1 (p + 0) = 1 * S by
    unfold tmF
    rw [if_pos ⟨by omega, by omega⟩]]
  exact tm_out _ _ (.inl (by
    intro h
    obtain ⟨a, ha, e⟩ := List.mem_map.mp h
    obtain ⟨b, hb, rfl⟩ := List.mem_map.mp ha
    have : p + (b + 1) = p := e
    omega))
variable {r : Bool} {ps : List Tr} {ss : List Int} {vs : List Tr} {vss : List Int} {p : Nat}
structure Opn (r : Bool) (ps : List Tr) (ss : List Int) (vs : List Tr) (vss : List Int) (p : Nat) : Prop where
  hp : p < ps.length
  hv : ps[p]? = some (.frame r vs vss)
  hk : ∀ i (h : i < ps.length), i ≠ p → (ps[i]).isK r = false
  hl : ps.length ≤ 6
  hs : ss.length = ps.length
  vl : vss.length = vs.length
  v6 : vs.length ≤ 6
  sb : ∀ s ∈ ss, 1 ≤ s ∧ s ≤ 1000000000000000000000000000000
  vb : ∀ s ∈ vss, 1 ≤ s ∧ s ≤ 1000000000000000000000000000000
  vn : vss ≠ []
theorem sum_b {l : List Int} {b : Int} (h : ∀ s ∈ l, 1 ≤ s ∧ s ≤ b) : (l.length : Int) ≤ l.sum ∧ l.sum ≤ b * l.length := by
  induction l with
  | nil => exact ⟨Int.le_refl _, by simp⟩
  | cons a l ih =>
    have h1 := h a (List.mem_cons_self ..)
    have h2 := ih fun s hs => h s (List.mem_cons_of_mem _ hs)
    rw [List.sum_cons, List.length_cons, Int.natCast_succ, Int.mul_add]
    omega
theorem Opn.sum (o : Opn r ps ss vs vss p) : 1 ≤ vss.sum ∧ vss.sum ≤ 6000000000000000000000000000000 := by
  have h := sum_b o.vb
  have h1 : 1 ≤ vss.length := by
    have := o.vn
    cases vss with
    | nil => exact absurd rfl this
    | cons => exact Nat.succ_le_succ (Nat.zero_le _)
  have := o.vl
  have := o.v6
  omega
theorem Opn.get (o : Opn r ps ss vs vss p) : ps[p]'o.hp = .frame r vs vss := by
  have := o.hv
  rw [List.getElem?_eq_getElem o.hp] at this
  exact Option.some.inj this
theorem fr_innerG {c0 : Nat → List D → M D} {f : List Tr} {g : List Int} {x6 : Option D} {at' : Nat} {m : Store} (o : Opn r ps ss vs vss p) : ∀ (is : List Nat) (x : Int) (x8 : Option D), (∀ i ∈ is, i < ps.length) → (x = 1 ∨ p ∉ is) → is.Nodup → ∃ y8, forS (.nm 8) (den exm c0 frI).s (is.map dN) (EF r ps ss f g (some (dN at')) x6 (some (.int x)) x8) m = .nx (EF r ps ss f g (some (dN at')) x6 (some (.int (is.foldl (tmF p at' vss.sum) x))) y8) m
  | [], x, x8, _, _, _ => ⟨x8, f_nil⟩
  | i :: is, x, x8, h, hx, nd => by
    have hi := h i (List.mem_cons_self ..)
    rw [List.nodup_cons] at nd
    have gi : ixD (.tup (ps.map Tr.d)) (dN i) = some ps[i].d := by
      show atI (ps.map Tr.d) (i : Int) = _
      rw [at_nat (by rw [List.length_map]; exact hi), List.getElem_map]
    have tst : (den exm c0 (.tand (.tcmp .ne (.var 8) (.var 5)) (.tcmp .eq (.ix (.ix (.var 1) (.var 8)) (.int 0)) (.var 0)))).b (EF r ps ss f g (some (dN at')) x6 (some (.int x)) (some (dN i))) m = .ok ((!(((i : Int)) == ((at' : Nat) : Int))) && (ps[i].kd == kdS r)) m :=
      b_and (b_cmp (v_var rfl) (v_var rfl) rfl) fun _ => b_cmp (v_ix (v_ix (v_var rfl) (v_var rfl) gi) v_int (Tr.ix0 _)) (v_var rfl) rfl
    rw [Tr.kd_isK] at tst
    rw [List.foldl_cons]
    by_cases z : i ≠ at' ∧ i = p
    · obtain ⟨z1, z2⟩ := z
      have gp : ps[i] = .frame r vs vss := by
        have := o.hv
        rw [← z2, List.getElem?_eq_getElem hi] at this
        exact Option.some.inj this
      rw [show tmF p at' vss.sum x i = x * vss.sum by unfold tmF; rw [if_pos ⟨z1, z2⟩]]
      have hx1 : x = 1 := hx.resolve_right fun q => q (by rw [← z2]; exact List.mem_cons_self ..)
      obtain ⟨y8, e⟩ := fr_innerG o is (x * vss.sum) (some (dN i)) (fun z hz => h z (List.mem_cons_of_mem _ hz)) (.inr (by rw [← z2]; exact nd.1)) nd.2
      refine ⟨y8, Eq.trans ?_ e⟩
      have sm := o.sum
      have g2 : ixD (ps[i]).d (.int 2) = some (zT vss) := by
        rw [gp]
        rfl
      rw [List.map_cons]
      refine f_cons rfl (r_seq (r_ifT tst ?_ (r_seq (r_set (v_bin (v_var rfl) (v_bi (l_cons (v_ix (v_ix (v_var rfl) (v_var rfl) gi) v_int g2) l_nil) (d := .int vss.sum) ?_) (mulS (.inl (by omega))))) r_nil)) r_nil) rfl
      · rw [gp]
        rw [show (((i : Int)) == ((at' : Nat) : Int)) = false from beq_eq_false_iff_ne.mpr (by omega)]
        show (true && (r == r)) = true
        cases r <;> rfl
      · exact sum_zT vss
    · rw [show tmF p at' vss.sum x i = x by unfold tmF; rw [if_neg z]]
      obtain ⟨y8, e⟩ := fr_innerG o is x (some (dN i)) (fun z hz => h z (List.mem_cons_of_mem _ hz)) (hx.imp id fun q w => q (List.mem_cons_of_mem _ w)) nd.2
      refine ⟨y8, Eq.trans ?_ e⟩
      rw [List.map_cons]
      refine f_cons rfl (r_seq (r_ifF tst ?_ r_nil) r_nil) rfl
      by_cases w : i = p
      · have : i = at' := by
          refine Decidable.byContradiction fun q => z ⟨q, w⟩
        rw [show (((i : Int)) == ((at' : Nat) : Int)) = true from beq_iff_eq.mpr (by omega)]
        rfl
      · rw [o.hk i hi w, Bool.and_false]
def opA (p : Nat) (vs : List Tr) (q : Tr × Nat) : List Tr := if q.2 = p then vs else [q.1]
def opS (p : Nat) (ss vss : List Int) (q : Tr × Nat) : List Int := if q.2 = p then vss.map (fun x => at_ ss p * x) else [at_ ss q.2 * vss.sum]
theorem op_len (o : Opn r ps ss vs vss p) (q : Tr × Nat) : (opA p vs q).length ≤ 6 ∧ (opS p ss vss q).length ≤ 6 := by
  have := o.v6
  have := o.vl
  unfold opA opS
  split
  · rw [List.length_map]; omega
  · exact ⟨by show 1 ≤ 6; omega, by show 1 ≤ 6; omega⟩
theorem fr_outerG {c0 : Nat → List D → M D} {m : Store} (o : Opn r ps ss vs vss p) : ∀ (qs : List (Tr × Nat)) (f : List Tr) (g : List Int) (x5 x6 x7 x8 : Option D), (∀ q ∈ qs, ps[q.2]? = some q.1) → f.length + 6 * qs.length ≤ 100 → g.length + 6 * qs.length ≤ 100 →
    ∃ y5 y6 y7 y8, forS (.tp [5, 6]) (den exm c0 frO).s (qs.map fun q => .tup [dN q.2, q.1.d]) (EF r ps ss f g x5 x6 x7 x8) m = .nx (EF r ps ss (f ++ qs.flatMap (opA p vs)) (g ++ qs.flatMap (opS p ss vss)) y5 y6 y7 y8) m
  | [], f, g, x5, x6, x7, x8, _, _, _ => ⟨x5, x6, x7, x8, by simp only [List.flatMap_nil, List.append_nil]; exact f_nil⟩
  | q :: qs, f, g, x5, x6, x7, x8, h, h1, h2 => by
    have hq := h q (List.mem_cons_self ..)
    obtain ⟨hi, hqe⟩ := List.getElem?_eq_some_iff.mp hq
    rw [List.length_cons] at h1 h2
    have ol := op_len o q
    have hl := o.hl
    have hs := o.hs
    have sm := o.sum
    obtain ⟨z8, ei⟩ := fr_innerG (exm := exm) (c0 := c0) (f := f) (g := g) (x6 := some q.1.d) (at' := q.2) (m := m) o (List.range ps.length) 1 x8 (fun i hi => List.mem_range.mp hi) (.inl rfl) List.nodup_range
    have ln : ∀ {rho : En}, rho[1]? = some (some (.tup (ps.map Tr.d))) → (den exm c0 (.bi .len (.cons (.var 1) .nil))).v rho m = .ok (dN ps.length) m := fun h => v_bi (l_cons (v_var h) l_nil) (by
      show some (D.int ((ps.map Tr.d).length : Int)) = _
      rw [List.length_map])
    have sq : 1 ≤ at_ ss q.2 ∧ at_ ss q.2 ≤ 1000000000000000000000000000000 := by
      have e1 : at_ ss q.2 = ss[q.2]'(by omega) := by show ss.getD q.2 0 = _; simp [show q.2 < ss.length by omega]
      rw [e1]
      exact o.sb _ (List.getElem_mem _)
    rw [List.flatMap_cons, List.flatMap_cons, ← List.append_assoc, ← List.append_assoc, List.map_cons]
    by_cases z : q.2 = p
    · rw [tm_out _ _ (.inr z.symm)] at ei
      have qv : q.1 = .frame r vs vss := by rw [← hqe]; subst z; exact o.get
      have dd : q.1.d = .tup [.str (kdS r), .tup (vs.map Tr.d), zT vss] := by rw [qv]; exact Tr.d_eq rfl
      have eA : opA p vs q = vs := if_pos z
      have eS : opS p ss vss q = vss.map (fun x => at_ ss p * x) := if_pos z
      obtain ⟨y5, y6, y7, y8, e⟩ := fr_outerG o qs (f ++ vs) (g ++ vss.map (fun x => at_ ss p * x)) (some (dN q.2)) (some q.1.d) (some (.int 1)) z8 (fun z hz => h z (List.mem_cons_of_mem _ hz)) (by rw [← eA, List.length_append]; omega) (by rw [← eS, List.length_append]; omega)
      refine ⟨y5, y6, y7, y8, ?_⟩
      rw [eA, eS]
      refine Eq.trans ?_ e
      have cm : ∀ (fx : Option D), (den exm c0 (.comp (.iseq (.ix (.var 6) (.int 2))) (.nm 9) .hole (.bin .mul (.bin .mul (.ix (.var 2) (.var 5)) (.var 7)) (.var 9)) [9])).v [some (.str (kdS r)), some (.tup (ps.map Tr.d)), some (zT ss), fx, some (.lst (g.map D.int)), some (dN q.2), some q.1.d, some (.int 1), z8, none] m = .ok (.lst (vss.map fun x => .int (at_ ss q.2 * 1 * x))) m := fun fx =>
        v_compA D.int (fun x => .int (at_ ss q.2 * 1 * x)) (l_seq (x := zT vss) (v_ix (v_var rfl) v_int (by rw [dd]; rfl)) rfl) (by have := big; have := o.vl; have := o.v6; omega) fun x hx => ⟨_, rfl, by
          have xb := o.vb x hx
          exact v_bin (v_bin (v_ix (v_var rfl) (v_var rfl) ((Shs.tup ss).ix q.2 (by omega))) (v_var rfl) (mulS (.inr (by omega)))) (v_var rfl) (mulB (by omega) (by omega))⟩
      refine f_cons rfl (r_seq (r_set v_int) (r_seq (f_of (l_rng (l_cons (ln rfl) l_nil) (rng_of ps.length (by omega))) ei) (r_seq (r_ifT (b_cmp (v_ix (v_var rfl) v_int (Tr.ix0 _)) (v_var rfl) rfl) ?_ (r_seq (r_extT (ds := f.map Tr.d) (es := vs.map Tr.d) rfl (v_ix (v_var rfl) v_int (by rw [dd]; rfl)) (by rw [List.length_map, List.length_map]; have := big; have := o.v6; omega)) (r_seq (r_ext (ds := g.map D.int) (es := vss.map fun x => .int (at_ ss q.2 * 1 * x)) rfl (cm _) (by rw [List.length_map, List.length_map]; have := big; have := o.v6; have := o.vl; omega)) r_nil))) r_nil))) ?_
      · rw [qv]
        show (kdS r == kdS r) = true
        exact beq_self_eq_true _
      · unfold EF
        rw [List.map_append, List.map_append, List.map_map]
        have : (vss.map fun x => D.int (at_ ss q.2 * 1 * x)) = vss.map (D.int ∘ fun x => at_ ss p * x) := List.map_congr_left fun x _ => by
          show D.int _ = D.int _
          rw [Int.mul_one, z]
        rw [← this]
        rfl
    · rw [tm_in o.hp fun q => z q.symm] at ei
      have eA : opA p vs q = [q.1] := if_neg z
      have eS : opS p ss vss q = [at_ ss q.2 * vss.sum] := if_neg z
      obtain ⟨y5, y6, y7, y8, e⟩ := fr_outerG o qs (f ++ [q.1]) (g ++ [at_ ss q.2 * vss.sum]) (some (dN q.2)) (some q.1.d) (some (.int (1 * vss.sum))) z8 (fun z hz => h z (List.mem_cons_of_mem _ hz)) (by rw [List.length_append, List.length_singleton]; omega) (by rw [List.length_append, List.length_singleton]; omega)
      refine ⟨y5, y6, y7, y8, ?_⟩
      rw [eA, eS]
      refine Eq.trans ?_ e
      refine f_cons rfl (r_seq (r_set v_int) (r_seq (f_of (l_rng (l_cons (ln rfl) l_nil) (rng_of ps.length (by omega))) ei) (r_seq (r_ifF (b_cmp (v_ix (v_var rfl) v_int (Tr.ix0 _)) (v_var rfl) rfl) (show (q.1.kd == kdS r) = false by rw [Tr.kd_isK, ← hqe]; exact o.hk _ hi z) (r_seq (r_app (ds := f.map Tr.d) rfl (v_var rfl) (by rw [List.length_map]; have := big; omega)) (r_seq (r_app (ds := g.map D.int) rfl (v_bin (d := .int (at_ ss q.2 * (1 * vss.sum))) (v_ix (v_var rfl) (v_var rfl) ((Shs.tup ss).ix q.2 (by omega))) (v_var rfl) (mulB (by omega) (by omega))) (by rw [List.length_map]; have := big; omega)) r_nil))) r_nil))) ?_
      unfold EF
      rw [List.map_append, List.map_append, Int.one_mul]
      rfl
end
end PF
namespace PF
open PySem L2
def opnS (sA : List Int) (sv : Int) (vss sB : List Int) : List Int := sA.map (· * vss.sum) ++ (vss.map (sv * ·) ++ sB.map (· * vss.sum))
theorem opA_out {p : Nat} {vs : List Tr} : ∀ (A : List Tr) (s : Nat), (p < s ∨ s + A.length ≤ p) → (A.zipIdx s).flatMap (opA p vs) = A
  | [], s, _ => rfl
  | a :: A, s, h => by
    rw [List.length_cons] at h
    rw [List.zipIdx_cons, List.flatMap_cons, opA_out A (s + 1) (by omega)]
    unfold opA
    rw [if_neg (by show ¬ s = p; omega)]
    rfl
theorem opS_out {p : Nat} {vss post : List Int} : ∀ (A : List Tr) (sA pre : List Int), sA.length = A.length → (p < pre.length ∨ pre.length + A.length ≤ p) → (A.zipIdx pre.length).flatMap (opS p (pre ++ (sA ++ post)) vss) = sA.map (· * vss.sum)
  | [], [], pre, _, _ => rfl
  | [], _ :: _, _, h, _ => by cases h
  | _ :: _, [], _, h, _ => by cases h
  | a :: A, s :: sA, pre, hl, h => by
    rw [List.length_cons] at h
    have ih := opS_out (p := p) (post := post) (vss := vss) A sA (pre ++ [s]) (by simpa using hl) (by rw [List.length_append, List.length_singleton]; omega)
    rw [List.length_append, List.length_singleton, show (pre ++ [s]) ++ (sA ++ post) = pre ++ ((s :: sA) ++ post) by simp] at ih
    rw [List.zipIdx_cons, List.flatMap_cons, ih, List.map_cons]
    unfold opS
    rw [if_neg (by show ¬ pre.length = p; omega)]
    show [at_ (pre ++ ((s :: sA) ++ post)) pre.length * vss.sum] ++ _ = _
    rw [show at_ (pre ++ ((s :: sA) ++ post)) pre.length = s by show List.getD _ _ _ = _; simp]
    rfl
section
variable {exm : Nat → Nat → Bool} {cl : Nat → Nat → List D → M D}
theorem big61 : (10000000000000000000000000000000000000000000000000000000000000 : Nat) < 2 ^ 999 := Nat.lt_of_lt_of_le (by decide : 10000000000000000000000000000000000000000000000000000000000000 < 2 ^ 210) (Nat.pow_le_pow_right (by decide) (by decide))
theorem big30 : (1000000000000000000000000000000 : Nat) < 2 ^ 999 := Nat.lt_of_lt_of_le (by decide : 1000000000000000000000000000000 < 2 ^ 100) (Nat.pow_le_pow_right (by decide) (by decide))
theorem mul_b {a b x y : Int} (ha : 1 ≤ a ∧ a ≤ x) (hb : 1 ≤ b ∧ b ≤ y) : 1 ≤ a * b ∧ a * b ≤ x * y := by
  have h1 : a * 1 ≤ a * b := Int.mul_le_mul_of_nonneg_left hb.1 (by omega)
  have h2 : a * b ≤ x * b := Int.mul_le_mul_of_nonneg_right ha.2 (by omega)
  have h3 : x * b ≤ x * y := Int.mul_le_mul_of_nonneg_left hb.2 (by omega)
  omega
variable {r : Bool} {vs : List Tr} {vss : List Int}
theorem framed_open {j jr : Nat} (H : Has exm cl j (d_framed jr)) (Hr : Has exm cl jr d_reduced) {A B : List Tr} {sA sB : List Int} {sv : Int} (o : Opn r (A ++ .frame r vs vss :: B) (sA ++ sv :: sB) vs vss A.length) (la : sA.length = A.length) (two : 2 ≤ (A ++ Tr.frame r vs vss :: B).length) {k : Nat} (hk : 2 ≤ k) (m : Store) :
    cl k j [.str (kdS r), .tup ((A ++ .frame r vs vss :: B).map Tr.d), zT (sA ++ sv :: sB)] m = .ok (Tr.frame r (A ++ (vs ++ B)) (red (opnS sA sv vss sB))).d m := by
  obtain ⟨k, rfl, kh⟩ := lev (n := 1) hk
  have hl := o.hl
  have sm := o.sum
  obtain ⟨y5, y6, y7, y8, e⟩ := fr_outerG (exm := exm) (c0 := cl k) (m := m) o (A ++ .frame r vs vss :: B).zipIdx [] [] none none none none (fun q hq => by
    have := List.mem_zipIdx_iff_getElem?.mp hq
    exact this) (by rw [List.length_zipIdx]; show 0 + _ ≤ _; omega) (by rw [List.length_zipIdx]; show 0 + _ ≤ _; omega)
  have lB : sB.length = B.length := by
    have := o.hs
    rw [List.length_append, List.length_append, List.length_cons, List.length_cons] at this
    omega
  have e1 : ([] ++ ((A ++ .frame r vs vss :: B).zipIdx).flatMap (opA A.length vs) : List Tr) = A ++ (vs ++ B) := by
    rw [List.nil_append, List.zipIdx_append, List.flatMap_append, opA_out A 0 (.inr (by omega)), List.zipIdx_cons, List.flatMap_cons, opA_out B _ (.inl (by omega))]
    unfold opA
    rw [if_pos (by show 0 + A.length = A.length; omega)]
  have e2 : ([] ++ ((A ++ .frame r vs vss :: B).zipIdx).flatMap (opS A.length (sA ++ sv :: sB) vss)) = opnS sA sv vss sB := by
    rw [List.nil_append, List.zipIdx_append, List.flatMap_append, List.zipIdx_cons, List.flatMap_cons]
    have a := opS_out (p := A.length) (vss := vss) (post := sv :: sB) A sA [] la (.inr (by show 0 + A.length ≤ A.length; omega))
    have b := opS_out (p := A.length) (vss := vss) (post := []) B sB (sA ++ [sv]) lB (.inl (by rw [List.length_append, List.length_singleton]; omega))
    rw [List.length_append, List.length_singleton, show (sA ++ [sv]) ++ (sB ++ []) = sA ++ sv :: sB by simp] at b
    rw [show (0 + A.length + 1) = sA.length + 1 by omega, b]
    rw [show ([] : List Int).length = 0 from rfl, List.nil_append] at a
    rw [a]
    unfold opnS
    congr 2
    unfold opS
    rw [if_pos (by show 0 + A.length = A.length; omega), show at_ (sA ++ sv :: sB) A.length = sv by rw [← la]; show List.getD _ _ _ = _; simp]
  rw [e1, e2] at e
  have en : enm1 [.tup ((A ++ .frame r vs vss :: B).map Tr.d)] = some ((A ++ .frame r vs vss :: B).zipIdx.map fun q => .tup [dN q.2, q.1.d]) := by
    show some (enumD _) = _
    unfold enumD
    rw [List.zipIdx_map, List.map_map]
    rfl
  have ln : (den exm (cl k) (.bi .len (.cons (.var 1) .nil))).v [some (.str (kdS r)), some (.tup ((A ++ .frame r vs vss :: B).map Tr.d)), some (zT (sA ++ sv :: sB)), none, none, none, none, none, none, none] m = .ok (dN (A ++ .frame r vs vss :: B).length) m := v_bi (l_cons (v_var rfl) l_nil) (by
    show some (D.int (((A ++ .frame r vs vss :: B).map Tr.d).length : Int)) = _
    rw [List.length_map])
  have bd : ∀ s ∈ opnS sA sv vss sB, 1 ≤ s ∧ s ≤ ((10000000000000000000000000000000000000000000000000000000000000 : Nat) : Int) := fun s hs => by
    have hsb := o.sb
    have hvb := o.vb
    have small : ∀ x, x ∈ sA ++ sv :: sB → 1 ≤ x * vss.sum ∧ x * vss.sum ≤ ((10000000000000000000000000000000000000000000000000000000000000 : Nat) : Int) := fun x hx => by
      have := mul_b (hsb x hx) sm
      omega
    unfold opnS at hs
    rcases List.mem_append.mp hs with h | h
    · obtain ⟨x, hx, rfl⟩ := List.mem_map.mp h
      exact small x (List.mem_append_left _ hx)
    · rcases List.mem_append.mp h with h | h
      · obtain ⟨x, hx, rfl⟩ := List.mem_map.mp h
        have := mul_b (hsb sv (List.mem_append_right _ (List.mem_cons_self ..))) (hvb x hx)
        show 1 ≤ sv * x ∧ sv * x ≤ _
        omega
      · obtain ⟨x, hx, rfl⟩ := List.mem_map.mp h
        exact small x (List.mem_append_right _ (List.mem_cons_of_mem _ hx))
  have ol : (opnS sA sv vss sB).length ≤ 100 ∧ opnS sA sv vss sB ≠ [] := by
    have h1 := o.vl
    have h2 := o.v6
    have h3 : (opnS sA sv vss sB).length = sA.length + (vss.length + sB.length) := by
      unfold opnS
      rw [List.length_append, List.length_append, List.length_map, List.length_map, List.length_map]
    rw [List.length_append, List.length_cons] at hl
    refine ⟨by omega, fun z => ?_⟩
    rw [z] at h3
    have : 1 ≤ vss.length := by
      have := o.vn
      cases vss with
      | nil => exact absurd rfl this
      | cons => exact Nat.succ_le_succ (Nat.zero_le _)
    have h3 : 0 = sA.length + (vss.length + sB.length) := h3
    omega
  have rr := reduced_run Hr (k := k) (by omega) ol.2 ol.1 (fun s hs => (bd s hs).1) (fun s hs => (bd s hs).2) big61 m
  rw [H, show (Tr.frame r (A ++ (vs ++ B)) (red (opnS sA sv vss sB))).d = .tup [.str (kdS r), .tup ((A ++ (vs ++ B)).map Tr.d), zT (red (opnS sA sv vss sB))] from Tr.d_eq rfl]
  exact call_ok (r_seq (r_ifF (b_cmp ln v_int rfl) (show (((A ++ .frame r vs vss :: B).length : Int) == 1) = false from beq_eq_false_iff_ne.mpr (by omega)) r_nil) (r_seq (r_set (v_lst l_nil (Nat.zero_le _))) (r_seq (r_set (v_lst l_nil (Nat.zero_le _))) (r_seq (f_of (l_enm (l_cons (v_var rfl) l_nil) en) e) (r_seqR (r_ret (v_tup (l_cons (v_var rfl) (l_cons (v_bi (l_cons (v_var rfl) l_nil) rfl) (l_cons (v_call (l_cons (v_bi (l_cons (v_var rfl) l_nil) rfl) l_nil) rr) l_nil))) (nat_le rfl))))))))
theorem framed_one {j jr : Nat} (H : Has exm cl j (d_framed jr)) {p : Tr} {x : D} {k : Nat} (hk : 1 ≤ k) (m : Store) : cl k j [.str (kdS r), .tup [p.d], x] m = .ok p.d m := by
  obtain ⟨k, rfl, kh⟩ := lev (n := 0) hk
  rw [H]
  exact call_ok (r_seqR (r_ifT (b_cmp (v_bi (d := .int 1) (l_cons (v_var rfl) l_nil) rfl) v_int rfl) rfl (r_seqR (r_ret (v_ix (v_var rfl) v_int (ix_headT _ _))))))
end
/-! ### a pane goes -/
inductive Wo (n : Int) : Tr → Option Tr → Prop
  | pane (a w h : Int) : Wo n (.pane a w h) none
  | stack1 {A B : List (Int × Int × Int)} {q p : Int × Int × Int} {top : Int} : (∀ a ∈ A, (a.1 == n) = false) → (q.1 == n) = true → A ++ B = [p] → Wo n (.stack (A ++ q :: B) top) (some (pT p))
  | stack2 {A B : List (Int × Int × Int)} {q : Int × Int × Int} {top : Int} : (∀ a ∈ A, (a.1 == n) = false) → (q.1 == n) = true → 2 ≤ (A ++ B).length → Wo n (.stack (A ++ q :: B) top) (some (.stack (A ++ B) (min (top - (if (A.length : Int) < top then 1 else 0)) (((A ++ B).length : Int) - 1))))
  | keep {r : Bool} {A B : List Tr} {u v : Tr} {sA sB : List Int} {sv : Int} : (∀ a ∈ A, a.hasN n = false) → u.hasN n = true → sA.length = A.length → Wo n u (some v) → v.isK r = false → Wo n (.frame r (A ++ u :: B) (sA ++ sv :: sB)) (some (.frame r (A ++ v :: B) (red (sA ++ sv :: sB))))
  | opened {r : Bool} {A B vs : List Tr} {u : Tr} {sA sB vss : List Int} {sv : Int} : (∀ a ∈ A, a.hasN n = false) → u.hasN n = true → sA.length = A.length → Wo n u (some (.frame r vs vss)) → Wo n (.frame r (A ++ u :: B) (sA ++ sv :: sB)) (some (.frame r (A ++ (vs ++ B)) (red (opnS sA sv vss sB))))
  | drop1 {r : Bool} {A B : List Tr} {u p : Tr} {sA sB : List Int} {sv : Int} : (∀ a ∈ A, a.hasN n = false) → u.hasN n = true → sA.length = A.length → Wo n u none → A ++ B = [p] → Wo n (.frame r (A ++ u :: B) (sA ++ sv :: sB)) (some p)
  | drop2 {r : Bool} {A B : List Tr} {u : Tr} {sA sB : List Int} {sv : Int} : (∀ a ∈ A, a.hasN n = false) → u.hasN n = true → sA.length = A.length → Wo n u none → 2 ≤ (A ++ B).length → Wo n (.frame r (A ++ u :: B) (sA ++ sv :: sB)) (some (.frame r (A ++ B) (red (sA ++ sB))))
theorem split_at {α : Type} {l : List α} {i : Nat} (h : i < l.length) : ∃ A x B, l = A ++ x :: B ∧ A.length = i := ⟨l.take i, l[i], l.drop (i + 1), by rw [List.getElem_cons_drop, List.take_append_drop], by rw [List.length_take]; omega⟩
theorem one_or {α : Type} {l : List α} (h : 1 ≤ l.length) : (∃ p, l = [p]) ∨ 2 ≤ l.length := by
  match l, h with
  | [p], _ => exact .inl ⟨p, rfl⟩
  | _ :: _ :: _, _ => exact .inr (by simp)
theorem Wo.isK_ok {n : Int} {u v : Tr} {r : Bool} (w : Wo n u (some v)) (hk : u.isK r = false) (hv : v.isK r = true) (ok : u.Ok) : v.Ok := by
  cases w with
  | stack1 => cases hv
  | stack2 => cases hv
  | keep => exact Bool.noConfusion (show (true : Bool) = false from hv.symm.trans hk)
  | opened => exact Bool.noConfusion (show (true : Bool) = false from hv.symm.trans hk)
  | @drop1 q A B u p sA sB sv h1 h2 h3 h4 e =>
    refine Tr.Ok.part ok ?_
    show v ∈ A ++ u :: B
    have : v ∈ A ++ B := by rw [e]; exact List.mem_cons_self ..
    rcases List.mem_append.mp this with h | h
    · exact List.mem_append_left _ h
    · exact List.mem_append_right _ (List.mem_cons_of_mem _ h)
  | drop2 => exact Bool.noConfusion (show (true : Bool) = false from hv.symm.trans hk)
end PF
namespace PF
open PySem L2
def optT : Option Tr → D
  | none => .non
  | some t => t.d
theorem made_kind {r : Bool} {ts : List Tr} {ss : List Int} (ok : (Tr.frame r ts ss).Ok) : ∀ u ∈ ts, u.isK r = false := fun u hu => by
  obtain ⟨deep, kd, hm⟩ := ok
  obtain ⟨h1, h2, h3, h4, h5⟩ := made_frame hm
  exact made_isK (h4 u hu)
theorem mid_iff {α : Type} {A B : List α} {u x : α} : x ∈ A ++ u :: B ↔ x ∈ A ++ B ∨ x = u := by
  simp only [List.mem_append, List.mem_cons]
  constructor
  · rintro (h | h | h)
    · exact .inl (.inl h)
    · exact .inr h
    · exact .inl (.inr h)
  · rintro ((h | h) | h)
    · exact .inl h
    · exact .inr (.inr h)
    · exact .inr (.inl h)
section
variable {exm : Nat → Nat → Bool} {cl : Nat → Nat → List D → M D}
structure WoH (exm : Nat → Nat → Bool) (cl : Nat → Nat → List D → M D) (j ju jp jw jf jr jh jn : Nat) : Prop where
  me : Has exm cl j (d_without ju jp j jw jf)
  us : Has exm cl ju (d_unstacked jp)
  pl : Has exm cl jp (d_place_in jh)
  ha : Has exm cl jh (d_has jn)
  pn : Has exm cl jn (d_panes_of jn)
  wp : Has exm cl jw (d_with_part jf)
  fm : Has exm cl jf (d_framed jr)
  re : Has exm cl jr d_reduced
variable {j ju jp jw jf jr jh jn : Nat}
theorem cut2 {c0 : Nat → List D → M D} {rho : En} {m : Store} {e x : I} {xs : List D} {a : D} {b : List D} (he : (den exm c0 e).v rho m = .ok (.tup (xs ++ a :: b)) m) (hx : (den exm c0 x).v rho m = .ok (dN xs.length) m) (hl : xs.length + b.length ≤ 900) :
    (den exm c0 (.bin .add (.sl e .hole (.prt x)) (.sl e (.prt (.bin .add x (.int 1))) .hole))).v rho m = .ok (.tup (xs ++ b)) m := by
  refine v_bin (v_sl he o_hole (o_prt hx) ?_) (v_sl he (o_prt (v_bin hx v_int rfl)) o_hole ?_) (add_tup (by omega))
  · show some (D.tup (cutL (xs ++ a :: b) none (some (xs.length : Int)))) = _
    rw [cut_to]
  · show some (D.tup (cutL (xs ++ a :: b) (some ((xs.length : Int) + 1)) none)) = _
    rw [show xs ++ a :: b = (xs ++ [a]) ++ b by simp, cut_from _ _ (by rw [List.length_append, List.length_singleton]; omega)]
theorem WoH.unst (P : WoH exm cl j ju jp jw jf jr jh jn) {n : Int} {A B : List (Int × Int × Int)} {q : Int × Int × Int} {top : Int} (hA : ∀ a ∈ A, (a.1 == n) = false) (hq : (q.1 == n) = true) (hl : A.length + B.length ≤ 50) {k : Nat} (hk : 4 ≤ k) (m : Store) {o : Tr} (ho : (∃ p, A ++ B = [p] ∧ o = pT p) ∨ (2 ≤ (A ++ B).length ∧ o = .stack (A ++ B) (min (top - (if (A.length : Int) < top then 1 else 0)) (((A ++ B).length : Int) - 1)))) :
    cl k ju [(Tr.stack (A ++ q :: B) top).d, .int n] m = .ok o.d m := by
  obtain ⟨k, rfl, kh⟩ := lev (n := 3) hk
  have pl := place_run P.pl P.ha P.pn (t := .stack (A ++ q :: B) top) rfl (by rw [Tr.panes, List.length_append, List.length_cons]; omega) (by show ((A ++ q :: B).map _).length ≤ 100; rw [List.length_map, List.length_append, List.length_cons]; omega) (A := A.map pT) (u := pT q) (B := B.map pT) (by show (A ++ q :: B).map _ = _; rw [List.map_append, List.map_cons]) (fun a ha => by
    obtain ⟨x, hx, rfl⟩ := List.mem_map.mp ha
    rw [pT_has]
    exact hA x hx) (by rw [pT_has]; exact hq) (k := k) (by show 1 + 2 ≤ k; omega) m
  rw [List.length_map] at pl
  have dd : (Tr.stack (A ++ q :: B) top).d = .tup [.str "stack", .tup (A.map paneD ++ paneD q :: B.map paneD), .int top] := by
    show D.tup [.str "stack", .tup ((A ++ q :: B).map paneD), .int top] = _
    rw [List.map_append, List.map_cons]
  have ct : (den exm (cl k) (.bin .add (.sl (.ix (.var 0) (.int 1)) .hole (.prt (.var 2))) (.sl (.ix (.var 0) (.int 1)) (.prt (.bin .add (.var 2) (.int 1))) .hole))).v [some (Tr.stack (A ++ q :: B) top).d, some (.int n), some (dN A.length), none] m = .ok (.tup ((A ++ B).map paneD)) m := by
    rw [List.map_append]
    exact cut2 (xs := A.map paneD) (a := paneD q) (b := B.map paneD) (v_ix (v_var rfl) v_int (by rw [dd]; rfl)) (by rw [List.length_map]; exact v_var rfl) (by rw [List.length_map, List.length_map]; omega)
  have ln : ∀ {rho : En}, rho[3]? = some (some (.tup ((A ++ B).map paneD))) → (den exm (cl k) (.bi .len (.cons (.var 3) .nil))).v rho m = .ok (.int ((A ++ B).length : Int)) m := fun h => v_bi (l_cons (v_var h) l_nil) (by
    show some (D.int (((A ++ B).map paneD).length : Int)) = _
    rw [List.length_map])
  rw [P.us]
  refine call_ok (r_seq (r_set (v_call (l_cons (v_var rfl) (l_cons (v_var rfl) l_nil)) pl)) (r_seq (r_set ct) ?_))
  rcases ho with ⟨p, e, rfl⟩ | ⟨h2, rfl⟩
  · refine r_seqR (r_ifT (b_cmp (ln rfl) v_int rfl) (by rw [e]; rfl) (r_seqR (r_ret (v_ix (v_var rfl) v_int ?_))))
    rw [e]
    exact ix_headT _ _
  · refine r_seq (r_ifF (b_cmp (ln rfl) v_int rfl) (beq_eq_false_iff_ne.mpr (by omega)) r_nil) (r_seqR (r_ret ?_))
    have t2 : ∀ {rho : En}, rho[0]? = some (some (Tr.stack (A ++ q :: B) top).d) → (den exm (cl k) (.ix (.var 0) (.int 2))).v rho m = .ok (.int top) m := fun h => v_ix (v_var h) v_int rfl
    have ib : Bi.sem .int [.bl (decide ((A.length : Int) < top))] = some (.int (if (A.length : Int) < top then 1 else 0)) := by
      by_cases z : (A.length : Int) < top
      · rw [decide_eq_true z, if_pos z]; rfl
      · rw [decide_eq_false z, if_neg z]; rfl
    exact v_tup (l_cons v_str (l_cons (v_var rfl) (l_cons (v_bi (l_cons (v_bin (t2 rfl) (v_bi (l_cons (v_cmp (v_var rfl) (t2 rfl) rfl) l_nil) ib) rfl) (l_cons (v_bin (ln rfl) v_int rfl) l_nil)) (min2 _ _)) l_nil))) (nat_le rfl)
theorem WoH.run (P : WoH exm cl j ju jp jw jf jr jh jn) {n : Int} {t : Tr} {o : Option Tr} (w : Wo n t o) : ∀ {k : Nat} (m : Store), t.Ok → t.panes.length ≤ 50 → t.hi + 6 ≤ k → cl k j [t.d, .int n] m = .ok (optT o) m := by
  have fhead : ∀ {r : Bool} {A B : List Tr} {u : Tr} {ss : List Int} {o' : Option Tr} {k : Nat} (m : Store), (Tr.frame r (A ++ u :: B) ss).Ok → (Tr.frame r (A ++ u :: B) ss).panes.length ≤ 50 → (Tr.frame r (A ++ u :: B) ss).hi + 5 ≤ k → (∀ a ∈ A, a.hasN n = false) → u.hasN n = true → cl k j [u.d, .int n] m = .ok (optT o') m →
      ∀ {res : Rs}, (den exm (cl k) (.cons (.iff (.tcmp .isn (.var 3) .non) (.cons (.ret (.call jw (.cons (.var 0) (.cons (.var 2) (.cons (.var 3) .nil))))) .nil) .nil) (.cons (.ret (.call jf (.cons (.ix (.var 0) (.int 0)) (.cons (.bin .add (.sl (.ix (.var 0) (.int 1)) .hole (.prt (.var 2))) (.sl (.ix (.var 0) (.int 1)) (.prt (.bin .add (.var 2) (.int 1))) .hole)) (.cons (.bin .add (.sl (.ix (.var 0) (.int 2)) .hole (.prt (.var 2))) (.sl (.ix (.var 0) (.int 2)) (.prt (.bin .add (.var 2) (.int 1))) .hole)) .nil))))) .nil))).s [some (Tr.frame r (A ++ u :: B) ss).d, some (.int n), some (dN A.length), some (optT o')] m = res →
      (den exm (cl k) (d_without ju jp j jw jf).ir).s ([(Tr.frame r (A ++ u :: B) ss).d, .int n].map some ++ List.replicate 2 none) m = res := by
    intro r A B u ss o' k m ok hl hk hA hu hv res h
    have hk : Tr.his (A ++ u :: B) + 1 + 5 ≤ k := hk
    have ln : 2 ≤ (A ++ u :: B).length ∧ (A ++ u :: B).length ≤ 6 := ok.len rfl
    have pr := place_run P.pl P.ha P.pn (t := .frame r (A ++ u :: B) ss) rfl (by omega) (by show (A ++ u :: B).length ≤ 100; omega) (A := A) (B := B) (u := u) rfl hA hu (k := k) (by show Tr.his (A ++ u :: B) + 1 + 2 ≤ k; omega) m
    have i1 : ixD (Tr.frame r (A ++ u :: B) ss).d (.int 1) = some (.tup (A.map Tr.d ++ u.d :: B.map Tr.d)) := by rw [frame_split rfl]; rfl
    have iu : ixD (.tup (A.map Tr.d ++ u.d :: B.map Tr.d)) (dN A.length) = some u.d := by
      show atI (A.map Tr.d ++ u.d :: B.map Tr.d) (A.length : Int) = _
      rw [at_nat (by rw [List.length_append, List.length_map, List.length_cons]; omega)]
      simp
    exact r_seq (r_ifF (b_cmp (v_ix (v_var rfl) v_int (Tr.ix0 _)) v_str rfl) (show (kdS r == ("pane" : Str)) = false by cases r <;> decide) r_nil) (r_seq (r_ifF (b_cmp (v_ix (v_var rfl) v_int (Tr.ix0 _)) v_str rfl) (show (kdS r == ("stack" : Str)) = false by cases r <;> decide) r_nil) (r_seq (r_set (v_call (l_cons (v_var rfl) (l_cons (v_var rfl) l_nil)) pr)) (r_seq (r_set (v_call (l_cons (v_ix (v_ix (v_var rfl) v_int i1) (v_var rfl) iu) (l_cons (v_var rfl) l_nil)) hv)) h)))
  have fdrop : ∀ {r : Bool} {A B : List Tr} {u p : Tr} {sA sB : List Int} {sv : Int} {k : Nat} (m : Store), (Tr.frame r (A ++ u :: B) (sA ++ sv :: sB)).Ok → (Tr.frame r (A ++ u :: B) (sA ++ sv :: sB)).panes.length ≤ 50 → (Tr.frame r (A ++ u :: B) (sA ++ sv :: sB)).hi + 5 ≤ k → (∀ a ∈ A, a.hasN n = false) → u.hasN n = true → sA.length = A.length → cl k j [u.d, .int n] m = .ok .non m → cl k jf [.str (kdS r), .tup ((A ++ B).map Tr.d), zT (sA ++ sB)] m = .ok p.d m → cl (k + 1) j [(Tr.frame r (A ++ u :: B) (sA ++ sv :: sB)).d, .int n] m = .ok p.d m := by
    intro r A B u p sA sB sv k m ok hl hk hA hu la hv hf
    have ln : 2 ≤ (A ++ u :: B).length ∧ (A ++ u :: B).length ≤ 6 := ok.len rfl
    have sl := ok.shares.1
    rw [List.length_append, List.length_cons] at ln
    rw [List.length_append, List.length_cons, List.length_append, List.length_cons] at sl
    rw [P.me]
    refine call_ok (fhead (o' := none) m ok hl hk hA hu hv (r_seq (r_ifF (k := false) (b_cmp (v_var rfl) v_non rfl) rfl r_nil) (r_seqR (r_ret (v_call (l_cons (m1 := m) (v_ix (v_var rfl) v_int (Tr.ix0 _)) (l_cons (m1 := m) ?_ (l_cons (m1 := m) ?_ l_nil))) hf)))))
    · rw [List.map_append]
      exact cut2 (xs := A.map Tr.d) (a := u.d) (b := B.map Tr.d) (v_ix (v_var rfl) v_int (by rw [frame_split rfl]; rfl)) (by rw [List.length_map]; exact v_var rfl) (by rw [List.length_map, List.length_map]; omega)
    · show (den exm (cl k) _).v _ m = .ok (.tup ((sA ++ sB).map D.int)) m
      rw [List.map_append]
      exact cut2 (xs := sA.map D.int) (a := .int sv) (b := sB.map D.int) (v_ix (v_var rfl) v_int (by rw [frame_split rfl]; show some (D.tup ((sA ++ sv :: sB).map D.int)) = _; rw [List.map_append, List.map_cons])) (by rw [List.length_map, la]; exact v_var rfl) (by rw [List.length_map, List.length_map]; omega)
  have fwith : ∀ {r : Bool} {A B : List Tr} {u v p : Tr} {ss : List Int} {k : Nat} (m : Store), (Tr.frame r (A ++ u :: B) ss).Ok → (Tr.frame r (A ++ u :: B) ss).panes.length ≤ 50 → (Tr.frame r (A ++ u :: B) ss).hi + 5 ≤ k + 1 → (∀ a ∈ A, a.hasN n = false) → u.hasN n = true → cl (k + 1) j [u.d, .int n] m = .ok v.d m → cl k jf [.str (kdS r), .tup ((A ++ v :: B).map Tr.d), zT ss] m = .ok p.d m → cl (k + 2) j [(Tr.frame r (A ++ u :: B) ss).d, .int n] m = .ok p.d m := by
    intro r A B u v p ss k m ok hl hk hA hu hv hf
    have ln : 2 ≤ (A ++ u :: B).length ∧ (A ++ u :: B).length ≤ 6 := ok.len rfl
    rw [List.length_append, List.length_cons] at ln
    have wpr : cl (k + 1) jw [(Tr.frame r (A ++ u :: B) ss).d, dN A.length, v.d] m = .ok p.d m := by
      rw [P.wp, frame_split rfl]
      have mc := mid_cut (exm := exm) (c0 := cl k) (rho := [some (.tup [.str (kdS r), .tup (A.map Tr.d ++ u.d :: B.map Tr.d), zT ss]), some (dN A.length), some v.d]) (m := m) (e := .ix (.var 0) (.int 1)) (x := .var 1) (y := .var 2) (xs := A.map Tr.d) (v := v.d) (a := u.d) (b := B.map Tr.d) (v_ix (v_var rfl) v_int rfl) (by rw [List.length_map]; exact v_var rfl) (v_var rfl) (by rw [List.length_map, List.length_map]; omega)
      rw [show A.map Tr.d ++ v.d :: B.map Tr.d = (A ++ v :: B).map Tr.d by rw [List.map_append, List.map_cons]] at mc
      exact call_ok (r_seqR (r_ret (v_call (l_cons (v_ix (v_var rfl) v_int rfl) (l_cons mc (l_cons (v_ix (v_var rfl) v_int rfl) l_nil))) hf)))
    rw [P.me]
    exact call_ok (fhead (o' := some v) m ok hl hk hA hu hv (r_seqR (r_ifT (k := true) (b_cmp (v_var rfl) v_non (isn_tree v)) rfl (r_seqR (r_ret (v_call (l_cons (v_var rfl) (l_cons (v_var rfl) (l_cons (v_var rfl) l_nil))) wpr))))))
  have part : ∀ {r : Bool} {A B : List Tr} {u : Tr} {ss : List Int}, (Tr.frame r (A ++ u :: B) ss).Ok → (Tr.frame r (A ++ u :: B) ss).panes.length ≤ 50 → u.Ok ∧ u.panes.length ≤ 50 ∧ u.hi + 1 ≤ (Tr.frame r (A ++ u :: B) ss).hi := by
    intro r A B u ss ok hl
    have mu : u ∈ A ++ u :: B := List.mem_append_right _ (List.mem_cons_self ..)
    have h1 := Tr.hi_mem mu
    have h2 : u.panes.length ≤ (Tr.paness (A ++ u :: B)).length := Tr.paness_mem mu
    rw [Tr.panes] at hl
    exact ⟨Tr.Ok.part ok mu, Nat.le_trans h2 hl, by rw [Tr.hi]; omega⟩
  have rdc : ∀ {r : Bool} {ts : List Tr} {ss ss' : List Int} {k : Nat} (m : Store), (Tr.frame r ts ss).Ok → (∀ s ∈ ss', s ∈ ss) → ss' ≠ [] → ss'.length ≤ 100 → 1 ≤ k → cl k jr [zT ss'] m = .ok (zT (red ss')) m := by
    intro r ts ss ss' k m ok hs ne hl hk
    exact reduced_run P.re hk ne hl (fun s h => (ok.shares.2 s (hs s h)).1) (b := 1000000000000000000000000000000) (fun s h => (ok.shares.2 s (hs s h)).2) big30 m
  induction w with
  | pane a w0 h0 =>
    intro k m ok hl hk
    obtain ⟨k, rfl, kh⟩ := lev (n := 5) (Nat.le_trans (Nat.le_add_left _ _) hk)
    rw [P.me]
    exact call_ok (r_seqR (r_ifT (b_cmp (v_ix (x := paneD (a, w0, h0)) (v_var rfl) v_int rfl) v_str rfl) rfl (r_seqR (r_ret v_non))))
  | @stack1 A B q p top hA hq e =>
    intro k m ok hl hk
    have hk : 1 + 6 ≤ k := hk
    obtain ⟨k, rfl, kh⟩ := lev (n := 6) hk
    rw [Tr.panes, List.length_append, List.length_cons] at hl
    have us := P.unst (top := top) hA hq (by omega) (k := k) (by omega) m (.inl ⟨p, e, rfl⟩)
    rw [P.me]
    exact call_ok (r_seq (r_ifF (b_cmp (v_ix (v_var rfl) v_int (Tr.ix0 _)) v_str rfl) (show (("stack" : Str) == ("pane" : Str)) = false by decide) r_nil) (r_seqR (r_ifT (b_cmp (v_ix (v_var rfl) v_int (Tr.ix0 _)) v_str rfl) (show (("stack" : Str) == ("stack" : Str)) = true by decide) (r_seqR (r_ret (v_call (l_cons (v_var rfl) (l_cons (v_var rfl) l_nil)) us))))))
  | @stack2 A B q top hA hq h2 =>
    intro k m ok hl hk
    have hk : 1 + 6 ≤ k := hk
    obtain ⟨k, rfl, kh⟩ := lev (n := 6) hk
    rw [Tr.panes, List.length_append, List.length_cons] at hl
    have us := P.unst (top := top) hA hq (by omega) (k := k) (by omega) m (.inr ⟨h2, rfl⟩)
    rw [P.me]
    exact call_ok (r_seq (r_ifF (b_cmp (v_ix (v_var rfl) v_int (Tr.ix0 _)) v_str rfl) (show (("stack" : Str) == ("pane" : Str)) = false by decide) r_nil) (r_seqR (r_ifT (b_cmp (v_ix (v_var rfl) v_int (Tr.ix0 _)) v_str rfl) (show (("stack" : Str) == ("stack" : Str)) = true by decide) (r_seqR (r_ret (v_call (l_cons (v_var rfl) (l_cons (v_var rfl) l_nil)) us))))))
  | @keep r A B u v sA sB sv hA hu la w z ih =>
    intro k m ok hl hk
    obtain ⟨ok', hl', hi'⟩ := part ok hl
    obtain ⟨k, rfl⟩ : ∃ k', k = k' + 1 + 2 := ⟨k - 3, by omega⟩
    have hv := ih (k := k + 1 + 1) m ok' hl' (by omega)
    have ln : 2 ≤ (A ++ u :: B).length ∧ (A ++ u :: B).length ≤ 6 := ok.len rfl
    have sl := ok.shares.1
    have mk := made_kind ok
    rw [List.length_append, List.length_cons] at ln
    rw [List.length_append, List.length_cons, List.length_append, List.length_cons] at sl
    refine fwith m ok hl (by omega) hA hu hv (framed_run P.fm (fun p hp => ?_) (by rw [List.length_append, List.length_cons]; omega) (by rw [List.length_append, List.length_cons]; omega) (by rw [List.length_append, List.length_cons, List.length_append, List.length_cons]; omega) m (rdc m ok (fun s h => h) (by simp) (by rw [List.length_append, List.length_cons]; omega) (by omega)))
    rcases mid_iff.mp hp with h | h
    · exact mk p (mid_iff.mpr (.inl h))
    · rw [h]; exact z
  | @opened r A B vs u sA sB vss sv hA hu la w ih =>
    intro k m ok hl hk
    obtain ⟨ok', hl', hi'⟩ := part ok hl
    obtain ⟨k, rfl⟩ : ∃ k', k = k' + 1 + 2 := ⟨k - 3, by omega⟩
    have hv := ih (k := k + 1 + 1) m ok' hl' (by omega)
    have ln : 2 ≤ (A ++ u :: B).length ∧ (A ++ u :: B).length ≤ 6 := ok.len rfl
    have sl := ok.shares.1
    have mk := made_kind ok
    have vok := w.isK_ok (mk u (mid_iff.mpr (.inr rfl))) (by show (r == r) = true; exact beq_self_eq_true r) ok'
    have vsh := vok.shares
    have vln : 2 ≤ vs.length ∧ vs.length ≤ 6 := vok.len rfl
    rw [List.length_append, List.length_cons] at ln
    rw [List.length_append, List.length_cons, List.length_append, List.length_cons] at sl
    refine fwith m ok hl (by omega) hA hu hv (framed_open P.fm P.re ⟨by rw [List.length_append, List.length_cons]; omega, by simp, fun i hi ne => ?_, by rw [List.length_append, List.length_cons]; omega, by rw [List.length_append, List.length_cons, List.length_append, List.length_cons]; omega, vsh.1, vln.2, ok.shares.2, vsh.2, fun e => ?_⟩ la (by rw [List.length_append, List.length_cons]; omega) (by omega) m)
    · by_cases z : i < A.length
      · rw [List.getElem_append_left z]
        exact mk _ (mid_iff.mpr (.inl (List.mem_append_left _ (List.getElem_mem z))))
      · rw [List.getElem_append_right (by omega), List.getElem_cons]
        rw [dif_neg (by omega)]
        exact mk _ (mid_iff.mpr (.inl (List.mem_append_right _ (List.getElem_mem _))))
    · rw [e] at vsh
      have := vsh.1
      rw [List.length_nil] at this
      omega
  | @drop1 r A B u p sA sB sv hA hu la w e ih =>
    intro k m ok hl hk
    obtain ⟨ok', hl', hi'⟩ := part ok hl
    obtain ⟨k, rfl⟩ : ∃ k', k = k' + 1 := ⟨k - 1, by omega⟩
    have hv := ih (k := k) m ok' hl' (by omega)
    refine fdrop m ok hl (by omega) hA hu la hv ?_
    rw [e]
    exact framed_one P.fm (by omega) m
  | @drop2 r A B u sA sB sv hA hu la w h2 ih =>
    intro k m ok hl hk
    obtain ⟨ok', hl', hi'⟩ := part ok hl
    obtain ⟨k, rfl⟩ : ∃ k', k = k' + 1 + 1 := ⟨k - 2, by omega⟩
    have hv := ih (k := k + 1) m ok' hl' (by omega)
    have ln : 2 ≤ (A ++ u :: B).length ∧ (A ++ u :: B).length ≤ 6 := ok.len rfl
    have sl := ok.shares.1
    have mk := made_kind ok
    rw [List.length_append, List.length_cons] at ln
    rw [List.length_append] at h2
    rw [List.length_append, List.length_cons, List.length_append, List.length_cons] at sl
    refine fdrop m ok hl (by omega) hA hu la hv (framed_run P.fm (fun p hp => mk p (mid_iff.mpr (.inl hp))) (by rw [List.length_append]; omega) (by rw [List.length_append]; omega) (by rw [List.length_append, List.length_append]; omega) m (rdc m ok (fun s h => mid_iff.mpr (.inl h)) (fun z => by have := congrArg List.length z; rw [List.length_append, List.length_nil] at this; omega) (by rw [List.length_append]; omega) (by omega)))
end
end PF
namespace PF
open PySem L2
/-! ### what a tree without a pane has, and needs -/
def keepN (n : Int) (l : List (Int × Int × Int)) : List (Int × Int × Int) := l.filter fun p => !(p.1 == n)
theorem keepN_app (n : Int) (a b : List (Int × Int × Int)) : keepN n (a ++ b) = keepN n a ++ keepN n b := List.filter_append ..
theorem keepN_all {n : Int} {l : List (Int × Int × Int)} (h : ∀ p ∈ l, (p.1 == n) = false) : keepN n l = l := List.filter_eq_self.mpr fun p hp => by rw [h p hp]; rfl
theorem keepN_no {n : Int} {l : List (Int × Int × Int)} (h : n ∉ l.map (·.1)) : keepN n l = l := keepN_all fun p hp => beq_eq_false_iff_ne.mpr fun e => h (by rw [← e]; exact List.mem_map_of_mem hp)
theorem hasN_iff {n : Int} {t : Tr} : t.hasN n = true ↔ n ∈ t.panes.map (·.1) := by
  unfold Tr.hasN
  rw [List.any_eq_true]
  constructor
  · rintro ⟨p, hp, e⟩
    exact List.mem_map.mpr ⟨p, hp, beq_iff_eq.mp e⟩
  · intro h
    obtain ⟨p, hp, e⟩ := List.mem_map.mp h
    exact ⟨p, hp, beq_iff_eq.mpr e⟩
theorem paness_no {n : Int} {A : List Tr} (h : ∀ a ∈ A, a.hasN n = false) : n ∉ (Tr.paness A).map (·.1) := fun hm => by
  obtain ⟨p, hp, e⟩ := List.mem_map.mp hm
  rw [Tr.paness_eq] at hp
  obtain ⟨a, ha, hpa⟩ := List.mem_flatMap.mp hp
  have := hasN_iff.mpr (show n ∈ a.panes.map (·.1) from List.mem_map.mpr ⟨p, hpa, e⟩)
  rw [h a ha] at this
  cases this
/-- the parts around the one that has the pane do not have it -/
theorem around {n : Int} {A B : List Tr} {u : Tr} (hA : ∀ a ∈ A, a.hasN n = false) (hu : u.hasN n = true) (nd : ((Tr.paness (A ++ u :: B)).map (·.1)).Nodup) : (u.panes.map (·.1)).Nodup ∧ keepN n (Tr.paness (A ++ u :: B)) = Tr.paness A ++ (keepN n u.panes ++ Tr.paness B) := by
  rw [paness_app, Tr.paness] at nd ⊢
  rw [List.map_append, List.map_append, List.nodup_append, List.nodup_append] at nd
  refine ⟨nd.2.1.1, ?_⟩
  rw [keepN_app, keepN_app, keepN_no (paness_no hA), keepN_no (fun h => nd.2.1.2.2 n (hasN_iff.mp hu) n h rfl)]
theorem Wo.panes {n : Int} {t : Tr} {o : Option Tr} (w : Wo n t o) : t.hasN n = true → t.nums.Nodup → keepN n t.panes = match o with | none => [] | some u => u.panes := by
  induction w with
  | pane a w0 h0 =>
    intro hn _
    unfold Tr.hasN at hn
    rw [Tr.panes] at hn ⊢
    have hn : ((a == n) || false) = true := hn
    rw [Bool.or_false] at hn
    unfold keepN
    rw [List.filter_cons, show (!((a, w0, h0) : Int × Int × Int).1 == n) = false by show (!(a == n)) = false; rw [hn]; rfl]
    rfl
  | @stack1 A B q p top hA hq e =>
    intro hn nd
    unfold Tr.nums at nd
    rw [Tr.panes] at nd ⊢
    rw [List.map_append, List.map_cons, List.nodup_append, List.nodup_cons] at nd
    have eq := beq_iff_eq.mp hq
    rw [keepN_app, keepN_all hA, show keepN n (q :: B) = B by
      unfold keepN
      rw [List.filter_cons, hq]
      exact keepN_no (by rw [← eq]; exact nd.2.1.1)]
    show A ++ B = [(p.1, p.2.1, p.2.2)]
    rw [e]
  | @stack2 A B q top hA hq h2 =>
    intro hn nd
    unfold Tr.nums at nd
    rw [Tr.panes] at nd ⊢
    rw [List.map_append, List.map_cons, List.nodup_append, List.nodup_cons] at nd
    have eq := beq_iff_eq.mp hq
    rw [keepN_app, keepN_all hA, show keepN n (q :: B) = B by
      unfold keepN
      rw [List.filter_cons, hq]
      exact keepN_no (by rw [← eq]; exact nd.2.1.1)]
    show A ++ B = (Tr.stack (A ++ B) _).panes
    rw [Tr.panes]
  | @keep r A B u v sA sB sv hA hu la w z ih =>
    intro hn nd
    unfold Tr.nums at nd
    rw [Tr.panes] at nd ⊢
    obtain ⟨nu, e⟩ := around hA hu nd
    rw [e, ih hu nu]
    show Tr.paness A ++ (v.panes ++ Tr.paness B) = (Tr.frame r (A ++ v :: B) _).panes
    rw [Tr.panes, paness_app, Tr.paness]
  | @opened r A B vs u sA sB vss sv hA hu la w ih =>
    intro hn nd
    unfold Tr.nums at nd
    rw [Tr.panes] at nd ⊢
    obtain ⟨nu, e⟩ := around hA hu nd
    rw [e, ih hu nu]
    show Tr.paness A ++ ((Tr.frame r vs vss).panes ++ Tr.paness B) = (Tr.frame r (A ++ (vs ++ B)) _).panes
    rw [Tr.panes, Tr.panes, paness_app, paness_app]
  | @drop1 r A B u p sA sB sv hA hu la w e ih =>
    intro hn nd
    unfold Tr.nums at nd
    rw [Tr.panes] at nd ⊢
    obtain ⟨nu, e'⟩ := around hA hu nd
    rw [e', ih hu nu]
    show Tr.paness A ++ ([] ++ Tr.paness B) = p.panes
    rw [List.nil_append, ← paness_app, e, Tr.paness, Tr.paness, List.append_nil]
  | @drop2 r A B u sA sB sv hA hu la w h2 ih =>
    intro hn nd
    unfold Tr.nums at nd
    rw [Tr.panes] at nd ⊢
    obtain ⟨nu, e'⟩ := around hA hu nd
    rw [e', ih hu nu]
    show Tr.paness A ++ ([] ++ Tr.paness B) = (Tr.frame r (A ++ B) _).panes
    rw [List.nil_append, ← paness_app, Tr.panes]
theorem his_app : ∀ (A B : List Tr), Tr.his (A ++ B) = max (Tr.his A) (Tr.his B)
  | [], B => by rw [List.nil_append, Tr.his]; omega
  | a :: A, B => by rw [List.cons_append, Tr.his, Tr.his, his_app A B]; omega
theorem Wo.hi {n : Int} {t : Tr} {o : Option Tr} (w : Wo n t o) : ∀ u, o = some u → u.hi ≤ t.hi := by
  induction w with
  | pane => intro u e; cases e
  | stack1 => intro u e; cases e; exact Nat.zero_le _
  | stack2 => intro u e; cases e; exact Nat.le_refl _
  | @keep r A B u v sA sB sv hA hu la w z ih =>
    intro x e
    cases e
    have := ih v rfl
    rw [Tr.hi, Tr.hi, his_app, his_app, Tr.his, Tr.his]
    omega
  | @opened r A B vs u sA sB vss sv hA hu la w ih =>
    intro x e
    cases e
    have := ih _ rfl
    rw [Tr.hi] at this
    rw [Tr.hi, Tr.hi, his_app, his_app, his_app, Tr.his]
    omega
  | @drop1 r A B u p sA sB sv hA hu la w e ih =>
    intro x ex
    cases ex
    have h : Tr.his (A ++ B) = p.hi := by rw [e, Tr.his, Tr.his]; omega
    rw [his_app] at h
    rw [Tr.hi, his_app, Tr.his]
    omega
  | @drop2 r A B u sA sB sv hA hu la w h2 ih =>
    intro x e
    cases e
    rw [Tr.hi, Tr.hi, his_app, his_app, Tr.his]
    omega
/-! least -/
def sumS (g : Int) (r : Bool) (ts : List Tr) : Int := (ts.map fun u => sideL r (u.least g)).sum
def maxS (g : Int) (r : Bool) (ts : List Tr) : Int := maxL (ts.map fun u => sideL (!r) (u.least g))
theorem frame_least (g : Int) (r : Bool) (ts : List Tr) (ss : List Int) : sideL r ((Tr.frame r ts ss).least g) = sumS g r ts + g * ((ts.length : Int) - 1) ∧ sideL (!r) ((Tr.frame r ts ss).least g) = maxS g r ts := by
  unfold sumS maxS
  cases r with
  | true =>
    rw [Tr.least_eq g rfl, if_pos (show (Tr.frame true ts ss).kd = ("row" : Str) from rfl)]
    exact ⟨rfl, rfl⟩
  | false =>
    rw [Tr.least_eq g rfl, if_neg (show ¬ (Tr.frame false ts ss).kd = ("row" : Str) from (by decide : ("column" : Str) ≠ "row")), if_pos (show (Tr.frame false ts ss).kd = ("column" : Str) from rfl)]
    exact ⟨rfl, rfl⟩
theorem le_sides {a b : Int × Int} (r : Bool) (h1 : sideL r a ≤ sideL r b) (h2 : sideL (!r) a ≤ sideL (!r) b) : a.1 ≤ b.1 ∧ a.2 ≤ b.2 := by
  unfold sideL at h1 h2
  cases r with
  | true => simp only [if_true, Bool.not_true, Bool.false_eq_true, if_false] at h1 h2; exact ⟨h1, h2⟩
  | false => simp only [if_true, Bool.not_false, Bool.false_eq_true, if_false] at h1 h2; exact ⟨h2, h1⟩
theorem sides_le {a b : Int × Int} (r : Bool) (h : a.1 ≤ b.1 ∧ a.2 ≤ b.2) : sideL r a ≤ sideL r b := by
  unfold sideL
  split
  · exact h.1
  · exact h.2
theorem sumS_app (g : Int) (r : Bool) (A B : List Tr) : sumS g r (A ++ B) = sumS g r A + sumS g r B := by
  unfold sumS
  rw [List.map_append, List.sum_append]
theorem sumS_cons (g : Int) (r : Bool) (u : Tr) (B : List Tr) : sumS g r (u :: B) = sideL r (u.least g) + sumS g r B := by
  unfold sumS
  rw [List.map_cons, List.sum_cons]
theorem maxS_le {g : Int} {r : Bool} {ts : List Tr} {b : Int} (ne : ts ≠ []) (h : ∀ u ∈ ts, sideL (!r) (u.least g) ≤ b) : maxS g r ts ≤ b := maxL_le (by simpa using ne) fun x hx => by
  obtain ⟨u, hu, rfl⟩ := List.mem_map.mp hx
  exact h u hu
theorem maxS_ge {g : Int} {r : Bool} {ts : List Tr} {u : Tr} (h : u ∈ ts) : sideL (!r) (u.least g) ≤ maxS g r ts := maxL_ge (List.mem_map_of_mem (f := fun u : Tr => sideL (!r) (u.least g)) h)
theorem Wo.least {n g : Int} (hg : 0 ≤ g) {t : Tr} {o : Option Tr} (w : Wo n t o) : t.Ok → ∀ u, o = some u → (u.least g).1 ≤ (t.least g).1 ∧ (u.least g).2 ≤ (t.least g).2 := by
  have frm : ∀ {r : Bool} {ts : List Tr} {ss : List Int} {x : Tr}, sideL r (x.least g) ≤ sumS g r ts + g * ((ts.length : Int) - 1) → sideL (!r) (x.least g) ≤ maxS g r ts → (x.least g).1 ≤ ((Tr.frame r ts ss).least g).1 ∧ (x.least g).2 ≤ ((Tr.frame r ts ss).least g).2 := fun {r ts ss x} h1 h2 => by
    obtain ⟨e1, e2⟩ := frame_least g r ts ss
    exact le_sides r (by rw [e1]; exact h1) (by rw [e2]; exact h2)
  induction w with
  | pane => intro _ u e; cases e
  | @stack1 A B q p top hA hq e =>
    intro ok u eu
    cases eu
    rw [Tr.least, Tr.least]
    have hp : p ∈ A ++ q :: B := mid_iff.mpr (.inl (by rw [e]; exact List.mem_cons_self ..))
    exact ⟨maxL_ge (List.mem_map_of_mem (f := fun p : Int × Int × Int => p.2.1) hp), maxL_ge (List.mem_map_of_mem (f := fun p : Int × Int × Int => p.2.2) hp)⟩
  | @stack2 A B q top hA hq h2 =>
    intro ok u eu
    cases eu
    rw [Tr.least, Tr.least]
    have ne : A ++ B ≠ [] := fun z => by rw [z] at h2; exact absurd h2 (by decide)
    refine ⟨maxL_le (by simpa using ne) fun x hx => ?_, maxL_le (by simpa using ne) fun x hx => ?_⟩
    · obtain ⟨p, hp, rfl⟩ := List.mem_map.mp hx
      exact maxL_ge (List.mem_map_of_mem (f := fun p : Int × Int × Int => p.2.1) (mid_iff.mpr (.inl hp)))
    · obtain ⟨p, hp, rfl⟩ := List.mem_map.mp hx
      exact maxL_ge (List.mem_map_of_mem (f := fun p : Int × Int × Int => p.2.2) (mid_iff.mpr (.inl hp)))
  | @keep r A B u v sA sB sv hA hu la w z ih =>
    intro ok x ex
    cases ex
    have h := ih (Tr.Ok.part ok (mid_iff.mpr (.inr rfl))) v rfl
    obtain ⟨e1, e2⟩ := frame_least g r (A ++ v :: B) (red (sA ++ sv :: sB))
    refine frm (by rw [e1, sumS_app, sumS_cons, sumS_app, sumS_cons, List.length_append, List.length_append, List.length_cons, List.length_cons]; have := sides_le r h; omega) ?_
    rw [e2]
    refine maxS_le (by simp) fun y hy => ?_
    rcases mid_iff.mp hy with q | q
    · exact maxS_ge (mid_iff.mpr (.inl q))
    · rw [q]
      exact Int.le_trans (sides_le (!r) h) (maxS_ge (mid_iff.mpr (.inr rfl)))
  | @opened r A B vs u sA sB vss sv hA hu la w ih =>
    intro ok x ex
    cases ex
    have h := ih (Tr.Ok.part ok (mid_iff.mpr (.inr rfl))) _ rfl
    obtain ⟨v1, v2⟩ := frame_least g r vs vss
    obtain ⟨e1, e2⟩ := frame_least g r (A ++ (vs ++ B)) (red (opnS sA sv vss sB))
    have s1 := sides_le r h
    have s2 := sides_le (!r) h
    rw [v1] at s1
    rw [v2] at s2
    refine frm ?_ ?_
    · rw [e1, sumS_app, sumS_app, sumS_app, sumS_cons]
      rw [show g * (((A ++ (vs ++ B)).length : Int) - 1) = g * ((vs.length : Int) - 1) + g * (((A ++ u :: B).length : Int) - 1) by
        rw [← Int.mul_add]
        congr 1
        rw [List.length_append, List.length_append, List.length_append, List.length_cons]
        omega]
      omega
    · rw [e2]
      have un : A ++ (vs ++ B) ≠ [] := fun q => by
        have ln : 2 ≤ (A ++ u :: B).length ∧ _ := ok.len rfl
        rw [List.length_append, List.length_cons] at ln
        have := congrArg List.length q
        rw [List.length_append, List.length_append, List.length_nil] at this
        omega
      refine maxS_le un fun y hy => ?_
      rcases List.mem_append.mp hy with q | q
      · exact maxS_ge (mid_iff.mpr (.inl (List.mem_append_left _ q)))
      · rcases List.mem_append.mp q with q | q
        · exact Int.le_trans (Int.le_trans (maxS_ge q) s2) (maxS_ge (mid_iff.mpr (.inr rfl)))
        · exact maxS_ge (mid_iff.mpr (.inl (List.mem_append_right _ q)))
  | @drop1 r A B u p sA sB sv hA hu la w e ih =>
    intro ok x ex
    cases ex
    have mp : p ∈ A ++ u :: B := mid_iff.mpr (.inl (by rw [e]; exact List.mem_cons_self ..))
    have oks := fun (y : Tr) (hy : y ∈ A ++ u :: B) => Tr.Ok.part ok hy
    refine frm ?_ (maxS_ge mp)
    have hs : sumS g r (A ++ B) = sideL r (p.least g) := by rw [e, sumS_cons]; show _ + 0 = _; omega
    rw [sumS_app] at hs
    rw [sumS_app, sumS_cons]
    have b := (oks u (mid_iff.mpr (.inr rfl))).bounds hg _ (Nat.le_refl _)
    have ln : 2 ≤ (A ++ u :: B).length ∧ _ := ok.len rfl
    have gp : 0 ≤ g * (((A ++ u :: B).length : Int) - 1) := Int.mul_nonneg hg (by omega)
    have : 0 ≤ sideL r (u.least g) := by unfold sideL; split <;> omega
    omega
  | @drop2 r A B u sA sB sv hA hu la w h2 ih =>
    intro ok x ex
    cases ex
    obtain ⟨e1, e2⟩ := frame_least g r (A ++ B) (red (sA ++ sB))
    have oks := fun (y : Tr) (hy : y ∈ A ++ u :: B) => Tr.Ok.part ok hy
    refine frm ?_ ?_
    · rw [e1, sumS_app, sumS_app, sumS_cons]
      have b := (oks u (mid_iff.mpr (.inr rfl))).bounds hg _ (Nat.le_refl _)
      have : 0 ≤ sideL r (u.least g) := by unfold sideL; split <;> omega
      rw [show g * (((A ++ u :: B).length : Int) - 1) = g * (((A ++ B).length : Int) - 1) + g by
        rw [show (((A ++ u :: B).length : Int) - 1) = (((A ++ B).length : Int) - 1) + 1 by rw [List.length_append, List.length_append, List.length_cons]; omega, Int.mul_add, Int.mul_one]]
      omega
    · rw [e2]
      refine maxS_le (fun z => by rw [z] at h2; exact absurd h2 (by decide)) fun y hy => maxS_ge (mid_iff.mpr (.inl hy))
end PF
namespace PF
open PySem L2
section
variable {exm : Nat → Nat → Bool} {cl : Nat → Nat → List D → M D} {i : IxW} {W H g n : Int} {t : Tr} {ps us : List D} {k jwo jus jcl : Nat}
theorem PrgW.woH (P : PrgW exm cl i) (Hw : Has exm cl jwo (d_without jus i.pi jwo i.wp i.fm)) (Hu : Has exm cl jus (d_unstacked i.pi)) : WoH exm cl jwo jus i.pi i.wp i.fm i.re i.ha i.n := ⟨Hw, Hu, P.pi, P.ha, P.n, P.wp, P.fm, P.re⟩
end
end PF
namespace PF
open PySem L2
/-! ### a stack beside a pane -/
abbrev Pn := Int × Int × Int
def UU (ps : List Pn) (top : Nat) : Tr := match ps with
  | [p] => pT p
  | ps => .stack ps (top : Int)
abbrev p99 : Tr := .pane 99 2 2
abbrev TT (ps : List Pn) (top : Nat) : Tr := .frame true [UU ps top, p99] [1, 1]
structure Row (ps : List Pn) (top : Nat) (aft : Int) : Prop where
  l1 : 1 ≤ ps.length
  l6 : ps.length ≤ 6
  tp : top < ps.length
  pb : ∀ p ∈ ps, (0 ≤ p.1 ∧ p.1 < aft) ∧ (1 ≤ p.2.1 ∧ p.2.1 ≤ 9) ∧ (1 ≤ p.2.2 ∧ p.2.2 ≤ 9)
  a9 : 1 ≤ aft ∧ aft ≤ 99
  nd : (ps.map (·.1)).Nodup
section
variable {ps : List Pn} {top : Nat} {aft : Int}
theorem UU_or (ps : List Pn) (top : Nat) : (∃ p, ps = [p] ∧ UU ps top = pT p) ∨ UU ps top = .stack ps (top : Int) := by
  unfold UU
  split
  · exact .inl ⟨_, rfl, rfl⟩
  · exact .inr rfl
theorem UU_panes (ps : List Pn) (top : Nat) : (UU ps top).panes = ps := by
  rcases UU_or ps top with ⟨p, e, e2⟩ | e
  · rw [e2, e]; rfl
  · rw [e, Tr.panes]
theorem UU_isK (ps : List Pn) (top : Nat) (r : Bool) : (UU ps top).isK r = false := by
  rcases UU_or ps top with ⟨p, e, e2⟩ | e
  · rw [e2]; rfl
  · rw [e]; rfl
theorem UU_ev (ps : List Pn) (top : Nat) : (UU ps top).ev = true := by
  rcases UU_or ps top with ⟨p, e, e2⟩ | e
  · rw [e2]; rfl
  · rw [e]; rfl
theorem TT_panes (ps : List Pn) (top : Nat) : (TT ps top).panes = ps ++ [(99, 2, 2)] := by
  rw [Tr.panes, Tr.paness, Tr.paness, Tr.paness, UU_panes]
  rfl
theorem TT_ev (ps : List Pn) (top : Nat) : (TT ps top).ev = true := by
  show (decide (([1, 1] : List Int) = ones 2) && ((UU ps top).ev && (true && true))) = true
  rw [UU_ev]
  decide
theorem Row.panB (R : Row ps top aft) {p : Pn} (hp : p ∈ ps) : PF.panB p = true := by
  have := R.pb p hp
  have := R.a9
  unfold PF.panB
  rw [Bool.and_eq_true, Bool.and_eq_true, inB_iff, inB_iff, inB_iff]
  omega
theorem Row.good (R : Row ps top aft) : (TT ps top).Good := by
  have l1 := R.l1
  have l6 := R.l6
  have tp := R.tp
  have a9 := R.a9
  have um : (UU ps top).made 2 (some true) = true := by
    rcases UU_or ps top with ⟨p, e, e2⟩ | e
    · rw [e2, Tr.made]
      show (PF.panB p && _) = true
      rw [R.panB (by rw [e]; exact List.mem_cons_self ..)]
      rfl
    · by_cases h1 : ps.length = 1
      · match ps, h1 with
        | [p], _ =>
          show (Tr.pane p.1 p.2.1 p.2.2).made 2 (some true) = true
          rw [Tr.made]
          show (PF.panB p && _) = true
          rw [R.panB (List.mem_cons_self ..)]
          rfl
      · rw [e, Tr.made, Bool.and_eq_true, Bool.and_eq_true, Bool.and_eq_true, inB_iff, inB_iff, decide_eq_true_eq]
        exact ⟨⟨by omega, List.all_eq_true.mpr fun p hp => R.panB hp, by omega⟩, by omega⟩
  refine ⟨?_, by rw [TT_panes, List.length_append, List.length_singleton]; omega, ?_⟩
  · rw [Tr.made, Tr.mades, Tr.mades, Tr.mades, show (1 : Int) + 1 = 2 from rfl, um]
    rfl
  · unfold Tr.nums
    rw [TT_panes, List.map_append, List.nodup_append]
    refine ⟨R.nd, by simp, fun a ha b hb => ?_⟩
    obtain ⟨p, hp, rfl⟩ := List.mem_map.mp ha
    have := (R.pb p hp).1
    rw [show b = 99 by simpa using hb]
    omega
theorem UU_least (R : Row ps top aft) (g : Int) : (1 ≤ ((UU ps top).least g).1 ∧ ((UU ps top).least g).1 ≤ 9) ∧ (1 ≤ ((UU ps top).least g).2 ∧ ((UU ps top).least g).2 ≤ 9) := by
  have l1 := R.l1
  have ne : ps ≠ [] := fun z => by rw [z] at l1; exact absurd l1 (by decide)
  have st : (1 ≤ ((Tr.stack ps top).least g).1 ∧ ((Tr.stack ps top).least g).1 ≤ 9) ∧ (1 ≤ ((Tr.stack ps top).least g).2 ∧ ((Tr.stack ps top).least g).2 ≤ 9) := by
    rw [Tr.least]
    refine ⟨⟨?_, maxL_le (by simpa using ne) fun x hx => ?_⟩, ?_, maxL_le (by simpa using ne) fun x hx => ?_⟩
    · obtain ⟨p, hp, e⟩ := List.mem_map.mp (maxL_mem (l := ps.map (·.2.1)) (by simpa using ne))
      rw [← e]; exact (R.pb p hp).2.1.1
    · obtain ⟨p, hp, rfl⟩ := List.mem_map.mp hx
      exact (R.pb p hp).2.1.2
    · obtain ⟨p, hp, e⟩ := List.mem_map.mp (maxL_mem (l := ps.map (·.2.2)) (by simpa using ne))
      rw [← e]; exact (R.pb p hp).2.2.1
    · obtain ⟨p, hp, rfl⟩ := List.mem_map.mp hx
      exact (R.pb p hp).2.2.2
  rcases UU_or ps top with ⟨p, e, e2⟩ | e
  · rw [e2, Tr.least]
    have := R.pb p (by rw [e]; exact List.mem_cons_self ..)
    exact ⟨this.2.1, this.2.2⟩
  · rw [e]; exact st
theorem TT_least (R : Row ps top aft) : ((TT ps top).least 2).1 ≤ 300 ∧ ((TT ps top).least 2).2 ≤ 200 := by
  obtain ⟨e1, e2⟩ := frame_least 2 true [UU ps top, p99] [1, 1]
  have u := UU_least R 2
  have e1 : ((TT ps top).least 2).1 = _ := e1
  have e2 : ((TT ps top).least 2).2 = _ := e2
  rw [e1, e2]
  refine ⟨?_, maxS_le (by simp) fun x hx => ?_⟩
  · rw [sumS_cons, sumS_cons]
    show ((UU ps top).least 2).1 + (2 + 0) + 2 * (2 - 1) ≤ 300
    omega
  · simp only [List.mem_cons, List.mem_nil_iff, or_false] at hx
    rcases hx with rfl | rfl
    · show ((UU ps top).least 2).2 ≤ 200
      omega
    · decide
def qsU (ps : List Pn) (top : Nat) (z : Int) : List Pl := ps.zipIdx.map fun q => (q.1.1, 0, 0, z, 200, ((q.2 : Int) == (top : Int)))
abbrev q99 (z w : Int) : Pl := (99, z + 2, 0, w, 200, true)
theorem TT_places (R : Row ps top aft) (hS : ∀ S L R, Inp S L R → SizeOut S L R (shF S L R)) : ∃ z w, 1 ≤ z ∧ 1 ≤ w ∧ (TT ps top).places 2 0 0 300 200 true = qsU ps top z ++ [q99 z w] := by
  have gd := R.good
  have ls := TT_least R
  obtain ⟨f1, f2, f3⟩ := frame_rooms (by decide) gd.ok ⟨ls.1, by decide⟩ ⟨ls.2, by decide⟩ (hS _ _ _ (frame_inp (by decide) gd.ok ⟨ls.1, by decide⟩ ⟨ls.2, by decide⟩))
  have f1 : (Tr.sizes 2 true [UU ps top, p99] [1, 1] 300 200).length = 2 := f1
  have f3 : ∀ q ∈ [UU ps top, p99].zip (Tr.sizes 2 true [UU ps top, p99] [1, 1] 300 200), _ := f3
  have pl : (TT ps top).places 2 0 0 300 200 true = Tr.placesF 2 true [UU ps top, p99] (Tr.sizes 2 true [UU ps top, p99] [1, 1] 300 200) 0 0 300 200 true := by rw [Tr.places, Tr.sizes_eq]
  rw [pl]
  match hz : Tr.sizes 2 true [UU ps top, p99] [1, 1] 300 200, f1 with
  | [z, w], _ =>
    rw [hz] at f3
    have a := (f3 (UU ps top, z) (by simp)).1
    have b := (f3 (p99, w) (by simp)).1
    have a : ((UU ps top).least 2).1 ≤ z := a
    have b : (2 : Int) ≤ w := b
    have u := UU_least R 2
    refine ⟨z, w, by omega, by omega, ?_⟩
    rw [Tr.placesF, Tr.placesF, Tr.placesF]
    rotate_left
    · simp
    · simp
    · rw [List.append_nil, Tr.places]
      have eu : (UU ps top).places 2 0 0 z 200 true = qsU ps top z := by
        have tp := R.tp
        rcases UU_or ps top with ⟨p, e, e2⟩ | e
        · rw [e2, Tr.places]
          subst e
          have : top = 0 := by
            have : top < 1 := tp
            omega
          subst this
          rfl
        · rw [e, Tr.places]
          unfold qsU
          refine List.map_congr_left fun q _ => ?_
          rw [Bool.true_and]
      rw [eu, show (0 : Int) + (z + 2) = z + 2 by omega]
theorem sh_U (R : Row ps top aft) (z : Int) : (qsU ps top z).filter Pl.sh = [((ps[top]'R.tp).1, 0, 0, z, 200, true)] := by
  unfold qsU
  rw [List.filter_map]
  have : (ps.zipIdx.filter (Pl.sh ∘ fun q : Pn × Nat => ((q.1.1, 0, 0, z, 200, ((q.2 : Int) == (top : Int))) : Pl))) = [(ps[top]'R.tp, top)] := by
    have e := idx_filter ps 0 top R.tp
    rw [Nat.zero_add] at e
    exact e
  rw [this]
  show [((ps[top]'R.tp).1, (0 : Int), (0 : Int), z, (200 : Int), ((top : Int) == (top : Int)))] = _
  rw [beq_self_eq_true]
end
end PF
namespace PF
open PySem L2
def I.dr : I → Nat → I
  | .cons _ p, n + 1 => p.dr n
  | p, _ => p
def I.hd : I → I
  | .cons a _ => a
  | p => p
def I.fb : I → I
  | .for _ _ p => p
  | p => p
section
variable {ps : List Pn} {top : Nat} {aft : Int}
theorem UU_has {p : Pn} (hp : p ∈ ps) : (UU ps top).hasN p.1 = true := by
  unfold Tr.hasN
  rw [UU_panes]
  exact List.any_eq_true.mpr ⟨p, hp, beq_self_eq_true _⟩
theorem TT_has {p : Pn} (hp : p ∈ ps) : (TT ps top).hasN p.1 = true := by
  unfold Tr.hasN
  rw [TT_panes]
  exact List.any_eq_true.mpr ⟨p, List.mem_append_left _ hp, beq_self_eq_true _⟩
theorem UU_stk (R : Row ps top aft) (n : Int) (p : Pn) : (UU ps top).stk n p = UU (ps ++ [p]) ps.length := by
  have l1 := R.l1
  match ps, l1 with
  | [q], _ => rfl
  | a :: b :: l, _ =>
    show Tr.stack ((a :: b :: l) ++ [p]) _ = _
    rfl
theorem TT_stk (R : Row ps top aft) {q p : Pn} (hq : q ∈ ps) : (TT ps top).stk q.1 p = TT (ps ++ [p]) ps.length := by
  show Tr.frame true (Tr.stks q.1 p [UU ps top, p99]) [1, 1] = _
  rw [Tr.stks, if_pos (UU_has hq), UU_stk R]
theorem find_at (R : Row ps top aft) {a : Nat} (ha : a < ps.length) : (ps.findIdx fun p => p.1 == ps[a].1) = a := by
  refine (List.findIdx_eq ha).mpr ⟨beq_self_eq_true _, fun j hj => ?_⟩
  refine beq_eq_false_iff_ne.mpr fun e => ?_
  have nd := R.nd
  rw [List.nodup_iff_pairwise_ne, List.pairwise_iff_getElem] at nd
  have := nd j a (by rw [List.length_map]; omega) (by rw [List.length_map]; exact ha) hj
  rw [List.getElem_map, List.getElem_map] at this
  exact this e
theorem TT_rse (R : Row ps top aft) {a : Nat} (ha : a < ps.length) : (TT ps top).rse ps[a].1 = TT ps a := by
  show Tr.frame true (Tr.rses ps[a].1 [UU ps top, p99]) [1, 1] = _
  rw [Tr.rses, if_pos (UU_has (List.getElem_mem ha))]
  congr 2
  rcases UU_or ps top with ⟨p, e, e2⟩ | e
  · rw [e2]
    subst e
    rfl
  · by_cases h1 : ps.length = 1
    · match ps, h1 with
      | [p], _ => rfl
    · rw [e, Tr.rse, find_at R ha]
      have l1 := R.l1
      match ps, l1, h1 with
      | [q], _, h1 => exact absurd rfl h1
      | a :: b :: l, _, _ => rfl
theorem Row.push (R : Row ps top aft) (h6 : ps.length < 6) (h99 : aft < 99) {w h : Int} (hw : 1 ≤ w ∧ w ≤ 9) (hh : 1 ≤ h ∧ h ≤ 9) : Row (ps ++ [(aft, w, h)]) ps.length (aft + 1) := by
  have a9 := R.a9
  refine ⟨by rw [List.length_append]; have := R.l1; omega, by rw [List.length_append, List.length_singleton]; omega, by rw [List.length_append, List.length_singleton]; omega, fun p hp => ?_, by omega, ?_⟩
  · rcases List.mem_append.mp hp with q | q
    · have := R.pb p q
      omega
    · rw [List.mem_singleton.mp q]
      exact ⟨by show 0 ≤ aft ∧ aft < aft + 1; omega, hw, hh⟩
  · rw [List.map_append, List.nodup_append]
    refine ⟨R.nd, by simp, fun a ha b hb => ?_⟩
    obtain ⟨p, hp, rfl⟩ := List.mem_map.mp ha
    have := (R.pb p hp).1
    rw [show b = aft by simpa using hb]
    omega
theorem Row.show (R : Row ps top aft) {a : Nat} (ha : a < ps.length) : Row ps a aft := ⟨R.l1, R.l6, ha, R.pb, R.a9, R.nd⟩
def offT (a top len : Nat) : Nat := if a < top then top - 1 else min top (len - 2)
theorem Row.off {A B : List Pn} {q : Pn} (R : Row (A ++ q :: B) top aft) (h2 : 2 ≤ (A ++ q :: B).length) : Row (A ++ B) (offT A.length top (A ++ q :: B).length) aft := by
  have l6 := R.l6
  have tp := R.tp
  rw [List.length_append, List.length_cons] at l6 tp h2
  have nd := R.nd
  rw [List.map_append, List.map_cons] at nd
  refine ⟨by rw [List.length_append]; omega, by rw [List.length_append]; omega, ?_, fun p hp => R.pb p (mid_iff.mpr (.inl hp)), R.a9, ?_⟩
  · unfold offT
    rw [List.length_append, List.length_append, List.length_cons]
    split <;> omega
  · rw [List.map_append]
    exact nd.sublist (List.Sublist.append (List.Sublist.refl _) (List.sublist_cons_self ..))
theorem TT_wo {A B : List Pn} {q : Pn} (R : Row (A ++ q :: B) top aft) (h2 : 2 ≤ (A ++ q :: B).length) : Wo q.1 (TT (A ++ q :: B) top) (some (TT (A ++ B) (offT A.length top (A ++ q :: B).length))) := by
  have tp := R.tp
  have nd := R.nd
  rw [List.map_append, List.map_cons, List.nodup_append, List.nodup_cons] at nd
  have hA : ∀ a ∈ A, (a.1 == q.1) = false := fun a ha => beq_eq_false_iff_ne.mpr fun e => nd.2.2 a.1 (List.mem_map_of_mem ha) q.1 (List.mem_cons_self ..) e
  have eU : UU (A ++ q :: B) top = .stack (A ++ q :: B) top := by
    rcases UU_or (A ++ q :: B) top with ⟨p, e, e2⟩ | e
    · rw [e] at h2; exact absurd h2 (Nat.not_succ_le_self 1)
    · exact e
  have ln : (A ++ q :: B).length = A.length + (B.length + 1) := by rw [List.length_append, List.length_cons]
  have inner : Wo q.1 (UU (A ++ q :: B) top) (some (UU (A ++ B) (offT A.length top (A ++ q :: B).length))) := by
    rw [eU]
    rcases one_or (l := A ++ B) (by rw [List.length_append]; omega) with ⟨p, e⟩ | h3
    · rw [show UU (A ++ B) (offT A.length top (A ++ q :: B).length) = pT p by rw [e]; rfl]
      exact .stack1 hA (beq_self_eq_true _) e
    · have e3 : UU (A ++ B) (offT A.length top (A ++ q :: B).length) = .stack (A ++ B) (min ((top : Int) - (if (A.length : Int) < (top : Int) then 1 else 0)) (((A ++ B).length : Int) - 1)) := by
        rcases UU_or (A ++ B) (offT A.length top (A ++ q :: B).length) with ⟨p, e, e2⟩ | e
        · rw [e] at h3; exact absurd h3 (Nat.not_succ_le_self 1)
        · rw [e]
          congr 1
          unfold offT
          rw [ln] at tp ⊢
          rw [List.length_append]
          split
          · rw [if_pos (by omega)]; omega
          · rw [if_neg (by omega)]; omega
      rw [e3]
      exact .stack2 hA (beq_self_eq_true _) h3
  have k := Wo.keep (n := q.1) (r := true) (A := []) (B := [p99]) (u := UU (A ++ q :: B) top) (v := UU (A ++ B) (offT A.length top (A ++ q :: B).length)) (sA := []) (sB := [1]) (sv := 1) (fun a ha => by cases ha) (UU_has (mid_iff.mpr (.inr rfl))) rfl inner (UU_isK _ _ _)
  exact k
end
section
variable {exm : Nat → Nat → Bool} {cl : Nat → Nat → List D → M D} {i : IxW} {ps : List Pn} {top : Nat} {aft : Int} {k N : Nat} {m : Store}
theorem turn8 (P : PrgW exm cl i) {t : Tr} (th : t.hi ≤ 10) (R : Row ps top aft) (hk : 14 ≤ k) {hs us : List D} (hp : hs.length ≤ N) (hN : N ≤ 900) : ∃ m', cl k i.tt [.obj 0, (TT ps top).d] (wS 300 200 2 t.d hs us) = .ok .non m' ∧ LSt 300 200 2 (TT ps top) (N + 1) m' := by
  have ls := TT_least R
  have tt := P.turn_to (t := t) th R.good hk (W := 300) (H := 200) (g := 2) ls.1 ls.2 (ps := hs) (us := us) (by omega)
  refine ⟨_, tt, ?_⟩
  split
  · rename_i z
    exact ⟨hs, us, by rw [z], by omega⟩
  · exact ⟨_, _, rfl, by rw [List.length_append, List.length_singleton]; omega⟩
theorem stack8 (P : PrgW exm cl i) (R : Row ps top aft) (st : LSt 300 200 2 (TT ps top) N m) (hN : N ≤ 900) {a : Nat} (ha : a < ps.length) {w h : Int} (R' : Row (ps ++ [(aft, w, h)]) ps.length (aft + 1)) (hk : 19 ≤ k) : ∃ m', cl (k + 1) i.sk [.obj 0, .int ps[a].1, paneD (aft, w, h)] m = .ok .non m' ∧ LSt 300 200 2 (TT (ps ++ [(aft, w, h)]) ps.length) (N + 1) m' := by
  obtain ⟨hs, us, rfl, hp⟩ := st
  have th := R.good.hi6
  obtain ⟨m', tt, st'⟩ := turn8 P (t := TT ps top) (by omega) R' (k := k) (by omega) (us := us) hp hN
  refine ⟨m', ?_, st'⟩
  have hf : (TT ps top).hasN aft = false := by
    unfold Tr.hasN
    rw [TT_panes, List.any_eq_false]
    intro p hp
    rw [beq_iff_eq]
    have a9 := R'.a9
    rcases List.mem_append.mp hp with q | q
    · have := (R.pb p q).1; omega
    · rw [List.mem_singleton.mp q]
      show ¬ (99 : Int) = aft
      omega
  refine P.stack_to R.good (TT_ev ps top) (TT_has (List.getElem_mem ha)) (R'.panB (List.mem_append_right _ (List.mem_cons_self ..))) hf hk ?_
  rw [TT_stk R (List.getElem_mem ha)]
  exact tt
theorem show8 (P : PrgW exm cl i) (R : Row ps top aft) (st : LSt 300 200 2 (TT ps top) N m) (hN : N ≤ 900) {a : Nat} (ha : a < ps.length) (hk : 19 ≤ k) : ∃ m', cl (k + 1) i.sw [.obj 0, .int ps[a].1] m = .ok .non m' ∧ LSt 300 200 2 (TT ps a) (N + 1) m' := by
  obtain ⟨hs, us, rfl, hp⟩ := st
  have gt := R.good
  have th := gt.hi6
  have few := gt.few
  have hn := TT_has (top := top) (List.getElem_mem ha)
  obtain ⟨m', tt, st'⟩ := turn8 P (t := TT ps top) (by omega) (R.show ha) (k := k) (by omega) (us := us) hp hN
  refine ⟨m', ?_, st'⟩
  have l1 := P.look_pane (t := TT ps top) (by omega) (by omega) (k := k) (by omega) (gt.num hn) hn (W := 300) (H := 200) (g := 2) (ps := hs) (us := us)
  have be := raised_run P.ra P.pi P.ha P.n ps[a].1 k (TT ps top) 1 none (wS 300 200 2 (TT ps top).d hs us) (by omega) gt.made (by omega) hn
  rw [TT_rse R ha] at be
  rw [P.sw]
  exact call_nx (r_seq (r_expr (w_meth nf1 (v_var rfl) (l_cons (v_var rfl) l_nil) l1)) (r_seq (r_expr (w_meth nf4' (v_var rfl) (l_cons (v_call (l_cons (v_fld (v_var rfl) g_n (lst_tree _)) (l_cons (v_var rfl) l_nil)) be) l_nil) tt)) r_nil))
theorem close8 (P : PrgW exm cl i) {jwo jus jcl : Nat} (Hw : Has exm cl jwo (d_without jus i.pi jwo i.wp i.fm)) (Hu : Has exm cl jus (d_unstacked i.pi)) (Hcl : Has exm cl jcl (d_W_close i.lkp i.tt jwo)) {A B : List Pn} {q : Pn} (R : Row (A ++ q :: B) top aft) (h2 : 2 ≤ (A ++ q :: B).length) (st : LSt 300 200 2 (TT (A ++ q :: B) top) N m) (hN : N ≤ 900) (hk : 20 ≤ k) : ∃ m', cl (k + 1) jcl [.obj 0, .int q.1] m = .ok .non m' ∧ LSt 300 200 2 (TT (A ++ B) (offT A.length top (A ++ q :: B).length)) (N + 1) m' := by
  obtain ⟨hs, us, rfl, hp⟩ := st
  have gt := R.good
  have th := gt.hi6
  have few := gt.few
  have hn := TT_has (top := top) (p := q) (ps := A ++ q :: B) (mid_iff.mpr (.inr rfl))
  obtain ⟨m', tt, st'⟩ := turn8 P (t := TT (A ++ q :: B) top) (by omega) (R.off h2) (k := k) (by omega) (us := us) hp hN
  refine ⟨m', ?_, st'⟩
  have wr := (P.woH Hw Hu).run (TT_wo R h2) (k := k) (wS 300 200 2 (TT (A ++ q :: B) top).d hs us) gt.ok (by omega) (by omega)
  have l1 := P.look_pane (t := TT (A ++ q :: B) top) (by omega) (by omega) (k := k) (by omega) (gt.num hn) hn (W := 300) (H := 200) (g := 2) (ps := hs) (us := us)
  rw [Hcl]
  exact call_nx (r_seq (r_expr (w_meth nf1 (v_var rfl) (l_cons (v_var rfl) l_nil) l1)) (r_seq (r_expr (w_meth nf4' (v_var rfl) (l_cons (v_call (l_cons (v_fld (v_var rfl) g_n (lst_tree _)) (l_cons (v_var rfl) l_nil)) wr) l_nil) tt)) r_nil))
end
/-! ### what is asked each time -/
theorem rep_flat (x : D) : ∀ n : Nat, (List.replicate n [x]).flatten = List.replicate n x
  | 0 => rfl
  | n + 1 => by rw [List.replicate_succ, List.flatten_cons, rep_flat x n]; rfl
theorem map_rep {ι : Type} (x : D) : ∀ l : List ι, l.map (fun _ => x) = List.replicate l.length x
  | [] => rfl
  | a :: l => by rw [List.map_cons, map_rep x l]; rfl
theorem find_sh2 (x y : Int) : ∀ L : List Pl, L.find? (fun q => Pl.sh q && inC x y q) = (L.filter Pl.sh).find? (inC x y)
  | [] => rfl
  | q :: L => by
    rw [List.find?_cons, List.filter_cons, find_sh2 x y L]
    cases h : Pl.sh q with
    | false => rfl
    | true =>
      rw [if_pos rfl, List.find?_cons, Bool.true_and]
theorem asB_map {ι : Type} (f : ι → Bool) : ∀ l : List ι, asBools (l.map fun x => D.bl (f x)) = some (l.map f)
  | [] => rfl
  | a :: l => by
    show (asBools (l.map fun x => D.bl (f x))).map (f a :: ·) = _
    rw [asB_map f l]
    rfl
theorem cnt_map {ι : Type} (f : ι → Bool) : ∀ l : List ι, (l.map f).count true = (l.filter f).length
  | [] => rfl
  | a :: l => by
    rw [List.map_cons, List.count_cons, cnt_map f l, List.filter_cons]
    cases f a <;> rfl
section
variable {exm : Nat → Nat → Bool} {cl : Nat → Nat → List D → M D} {i : IxW} {ps : List Pn} {top : Nat} {aft : Int} {k : Nat}
variable {jc jsd jpa jl xl jcl jsn jpc jat jnb jtc jwo jus : Nat}
abbrev E08 (ns : List Int) (ps : List Pn) (top : Nat) (aft : Int) (x5 x6 x7 x8 : Option D) : En := [some (.scr ns), some (.obj 0), some (zL (ps.map (·.1))), some (dN top), some (.int aft), x5, x6, x7, x8, none]
structure V8 (ps : List Pn) (top : Nat) (z w : Int) : Prop where
  z1 : 1 ≤ z
  w1 : 1 ≤ w
  v : Vw (TT ps top) 300 200 2 (qsU ps top z ++ [q99 z w])
theorem mkV8 (R : Row ps top aft) (hS : ∀ S L R, Inp S L R → SizeOut S L R (shF S L R)) : ∃ z w, V8 ps top z w := by
  obtain ⟨z, w, h1, h2, e⟩ := TT_places R hS
  have ls := TT_least R
  refine ⟨z, w, h1, h2, ?_⟩
  rw [← e]
  exact ⟨R.good, by omega, ⟨ls.1, by omega⟩, ⟨ls.2, by omega⟩, rfl, Tr.places_nums (by omega) hS R.good.ok 0 0 300 200 true ⟨ls.1, by omega⟩ ⟨ls.2, by omega⟩, Tr.til (by omega) hS R.good.ok 0 0 300 200 ⟨ls.1, by omega⟩ ⟨ls.2, by omega⟩⟩
theorem sh_all (R : Row ps top aft) (z w : Int) : (qsU ps top z ++ [q99 z w]).filter Pl.sh = [((ps[top]'R.tp).1, 0, 0, z, 200, true), q99 z w] := by
  rw [List.filter_append, sh_U R]
  rfl
abbrev law8 (jini jbg jsp jc jsd jsk jsw jcl jpa jtr jsn jpc jat jnb : Nat) : FD := d_law jini jbg jsp jc jsd jsk jsw jcl jpa jtr jsn jpc jat jnb
theorem chk8 (P : PrgW exm cl i) (Hpa : Has exm cl jpa (d_panes jl i.n)) (Hl : Has exm cl jl (d_look i.t xl)) (Hsn : Has exm cl jsn (d_W_shown i.ps)) (Hpc : Has exm cl jpc (d_W_place i.lkp i.ps)) (Hat : Has exm cl jat (d_W_at i.w i.xS i.ps)) (R : Row ps top aft) {z w : Int} (V : V8 ps top z w) (hk : 30 ≤ k) {hs us : List D} {ns : List Int} {x5 x6 x7 x8 : Option D} :
    ∃ y8, (den exm (cl k) ((((law8 i.ini i.bg i.sp jc jsd i.sk i.sw jcl jpa i.tr jsn jpc jat jnb).ir.dr 6).hd.fb).dr 3)).s (E08 ns ps top aft x5 x6 x7 x8) (wS 300 200 2 (TT ps top).d hs us) = .nx (E08 ns ps top aft x5 x6 x7 y8) (wS 300 200 2 (TT ps top).d hs us) := by
  have v := V.v
  have z1 := V.z1
  have w1 := V.w1
  have l1 := R.l1
  have l6 := R.l6
  have tp := R.tp
  let Z := wS 300 200 2 (TT ps top).d hs us
  have et : cl k i.tr [.obj 0] Z = .ok (TT ps top).d Z := P.tree_st (by omega)
  have en := pans_runW P Hpa Hl R.good (k := k) (by omega) Z
  have eN : (TT ps top).nums = ps.map (·.1) ++ [99] := by
    unfold Tr.nums
    rw [TT_panes, List.map_append]
    rfl
  rw [eN] at en
  have esn := vw_shown P v (ps := hs) (us := us) Hsn (k := k) (by omega)
  rw [sh_all R] at esn
  have rowE : zL (ps.map (·.1)) = .lst (ps.zipIdx.map fun q => D.int q.1.1) := by
    show D.lst ((ps.map (·.1)).map D.int) = _
    congr 1
    rw [List.map_map]
    conv => lhs; rw [← List.zipIdx_map_fst 0 ps, List.map_map]
    rfl
  have ixT : ixD (zL (ps.map (·.1))) (dN top) = some (.int (ps[top]'tp).1) := by
    show atI ((ps.map (·.1)).map D.int) (top : Int) = _
    rw [at_nat (by rw [List.length_map, List.length_map]; exact tp), List.getElem_map, List.getElem_map]
  have mem : ∀ q ∈ ps.zipIdx, ((q.1.1, 0, 0, z, 200, ((q.2 : Int) == (top : Int))) : Pl) ∈ qsU ps top z ++ [q99 z w] := fun q hq => List.mem_append_left _ (List.mem_map_of_mem (f := fun q : Pn × Nat => ((q.1.1, 0, 0, z, 200, ((q.2 : Int) == (top : Int))) : Pl)) hq)
  have epl := fun (q : Pn × Nat) (hq : q ∈ ps.zipIdx) => vw_place P v (ps := hs) (us := us) Hpc (k := k) (by omega) (mem q hq)
  let B : D := .tup [.int 0, .int 0, .int z, .int 200]
  have c1 : ∀ x : Option D, (den exm (cl k) (.comp (.iseq (.var 2)) (.nm 9) .hole (.sl (.meth "place" jpc (.var 1) (.cons (.var 9) .nil)) .hole (.prt (.int 4))) [9])).v (E08 ns ps top aft x5 x6 x7 x) Z = .ok (.lst (ps.zipIdx.map fun _ => B)) Z := fun x =>
    v_compA (fun q : Pn × Nat => .int q.1.1) (fun _ => B) (l_seq (x := zL (ps.map (·.1))) (v_var rfl) (by rw [rowE]; rfl)) (by rw [List.length_zipIdx]; have := big; omega) fun q hq => ⟨_, rfl, v_sl (w_meth nf12 (v_var rfl) (l_cons (v_var rfl) l_nil) (epl q hq)) o_hole (o_prt v_int) rfl⟩
  have c2 : ∀ x : Option D, (den exm (cl k) (.comp (.iseq (.var 2)) (.nm 9) .hole (.ix (.meth "place" jpc (.var 1) (.cons (.var 9) .nil)) (.int 4)) [9])).v (E08 ns ps top aft x5 x6 x7 x) Z = .ok (.lst (ps.zipIdx.map fun q => .bl ((q.2 : Int) == (top : Int)))) Z := fun x =>
    v_compA (fun q : Pn × Nat => .int q.1.1) (fun q => .bl ((q.2 : Int) == (top : Int))) (l_seq (x := zL (ps.map (·.1))) (v_var rfl) (by rw [rowE]; rfl)) (by rw [List.length_zipIdx]; have := big; omega) fun q hq => ⟨_, rfl, v_ix (w_meth nf12 (v_var rfl) (l_cons (v_var rfl) l_nil) (epl q hq)) v_int rfl⟩
  have cn : countD (.lst (ps.zipIdx.map fun q => D.bl ((q.2 : Int) == (top : Int)))) (.bl true) = some (.int 1) := by
    show (asBools _).map _ = _
    rw [asB_map]
    show some (D.int (((ps.zipIdx.map fun q => ((q.2 : Int) == (top : Int))).count true : Nat) : Int)) = _
    rw [cnt_map]
    have e := idx_filter ps 0 top tp
    rw [Nat.zero_add] at e
    rw [e]
    rfl
  have hd0 : ∃ q l, ps.zipIdx = q :: l := by
    cases hl : ps.zipIdx with
    | nil =>
      have := congrArg List.length hl
      rw [List.length_zipIdx, List.length_nil] at this
      omega
    | cons q l => exact ⟨q, l, rfl⟩
  have b0 : ixD (.lst (ps.zipIdx.map fun _ => B)) (.int 0) = some B := by
    obtain ⟨q, l, e⟩ := hd0
    rw [e]
    exact ix_head _ _
  have ml : Bop.sem .mul (.lst [B]) (.int (ps.length : Int)) = some (.lst (ps.zipIdx.map fun _ => B)) := by
    have e : (Bop.sem .mul) (.lst [B]) (.int (ps.length : Int)) = if -(2 ^ 63) ≤ (ps.length : Int) ∧ (ps.length : Int) < 2 ^ 63 ∧ [B].length * ((ps.length : Int)).toNat ≤ sizeLine then some (D.lst (List.replicate ((ps.length : Int)).toNat [B]).flatten) else none := rfl
    rw [e, if_pos ⟨by omega, by omega, by rw [Int.toNat_natCast]; have h1 : [B].length * ps.length = ps.length := Nat.one_mul _; have := big; omega⟩, Int.toNat_natCast]
    rw [rep_flat, map_rep, List.length_zipIdx]
  have bpl : (D.lst (ps.zipIdx.map fun _ => B)).pl = true := plL_of fun d hd => by
    obtain ⟨q, _, rfl⟩ := List.mem_map.mp hd
    rfl
  have bdp : (D.lst (ps.zipIdx.map fun _ => B)).dp ≤ 64 := by
    have : D.dpL (ps.zipIdx.map fun _ => B) ≤ 1 := dpL_of fun d hd => by
      obtain ⟨q, _, rfl⟩ := List.mem_map.mp hd
      exact Nat.le_refl _
    show D.dpL (ps.zipIdx.map fun _ => B) + 1 ≤ 64
    omega
  have len : Bi.sem .len [zL (ps.map (·.1))] = some (.int (ps.length : Int)) := by show some (D.int (((ps.map (·.1)).map D.int).length : Int)) = _; rw [List.length_map, List.length_map]
  have qt : ((ps[top]'tp, top) : Pn × Nat) ∈ ps.zipIdx := by rw [List.mem_zipIdx_iff_getElem?]; exact List.getElem?_eq_getElem tp
  have ept := epl _ qt
  have eat := vw_at P v (ps := hs) (us := us) Hat (k := k) (by omega) (x := 0) (y := 0) (by omega) (by omega)
  have fnd : (qsU ps top z ++ [q99 z w]).find? (fun q => Pl.sh q && inC 0 0 q) = some ((ps[top]'tp).1, 0, 0, z, 200, true) := by
    rw [find_sh2, sh_all R, List.find?_cons]
    have : inC 0 0 ((ps[top]'tp).1, 0, 0, z, 200, true) = true := by
      show ((decide ((0 : Int) ≤ 0) && decide ((0 : Int) < 0 + z)) && (decide ((0 : Int) ≤ 0) && decide ((0 : Int) < 0 + 200))) = true
      rw [decide_eq_true (show (0 : Int) < 0 + z by omega)]
      rfl
    rw [this]
  rw [fnd] at eat
  have ad : Bop.sem .add (zL (ps.map (·.1))) (.lst [.int 99]) = some (zL (ps.map (·.1) ++ [99])) := by
    have e : Bop.sem .add (zL (ps.map (·.1))) (.lst [.int 99]) = if ((ps.map fun p : Pn => p.1).map D.int).length + 1 ≤ sizeLine then some (D.lst ((ps.map fun p : Pn => p.1).map D.int ++ [.int 99])) else none := rfl
    rw [e, if_pos (by rw [List.length_map, List.length_map]; have := big; omega)]
    unfold zL
    rw [List.map_append]
    rfl
  refine ⟨some (.lst (ps.zipIdx.map fun _ => B)), ?_⟩
  refine r_seq (r_ifF (k := false) (b_orF (k1 := false) (b_cmp (v_call (l_cons (w_meth0 nf11 (v_var rfl) et) l_nil) en) (v_bin (v_var rfl) (v_lst (l_cons v_int l_nil) (nat_le rfl)) ad) (ne_self (zL_pl _) (zL_dp _))) rfl (b_cmp (w_meth0 nf13 (v_var rfl) esn) (v_lst (l_cons (v_ix (v_var rfl) (v_var rfl) ixT) (l_cons v_int l_nil)) (nat_le rfl)) (ne_self (zL_pl [(ps[top]'tp).1, 99]) (zL_dp [(ps[top]'tp).1, 99])))) rfl r_nil) ?_
  refine r_seq (r_setc (c1 _)) ?_
  refine r_seq (r_ifF (k := false) (b_orF (k1 := false) (b_cmp (v_var rfl) (v_bin (v_lst (l_cons (v_ix (v_var rfl) v_int b0) l_nil) (nat_le rfl)) (v_bi (l_cons (v_var rfl) l_nil) len) ml) (ne_self bpl bdp)) rfl (b_cmp (v_cntB (c2 _) rfl v_bl cn) v_int rfl)) rfl r_nil) ?_
  exact r_seq (r_ifF (k := false) (b_orF (k1 := false) (b_cmp (v_ix (d := .bl true) (w_meth nf12 (v_var rfl) (l_cons (v_ix (v_var rfl) (v_var rfl) ixT) l_nil) ept) v_int (by show some (D.bl ((top : Int) == (top : Int))) = _; rw [beq_self_eq_true])) v_bl rfl) rfl (b_cmp (w_meth nf15 (v_var rfl) (l_cons (v_ix (x := B) (v_ix (v_var rfl) v_int b0) v_int rfl) (l_cons (v_ix (x := B) (v_ix (v_var rfl) v_int b0) v_int rfl) l_nil)) eat) (v_ix (v_var rfl) (v_var rfl) ixT) (ne_self (d := .int (ps[top]'tp).1) rfl (nat_le rfl)))) rfl r_nil) r_nil
end
end PF
namespace PF
open PySem L2
section
variable {exm : Nat → Nat → Bool} {cl : Nat → Nat → List D → M D} {i : IxW}
variable {jc jsd jpa jl xl jcl jsn jpc jat jnb jtc jwo jus : Nat}
theorem l_meth8 {c0 : Nat → List D → M D} {rho : En} {W H g : Int} {N : Nat} {m : Store} {t : Tr} {a as : I} {mt : Str} {j : Nat} {ds : List D} {d : D} {m2 : Store} (st : LSt W H g t N m) (hm : noFld mt) (ha : (den exm c0 a).v rho m = .ok (.obj 0) m) (hs : (den exm c0 as).l rho m = .ok ds m) (hc : c0 j (.obj 0 :: ds) m = .ok d m2) : (den exm c0 (.meth mt j a as)).v rho m = .ok d m2 := by
  obtain ⟨ps, us, rfl, _⟩ := st
  exact w_meth hm ha hs hc
theorem add_lst {xs ys : List D} (h : xs.length + ys.length ≤ 1000) : Bop.sem .add (.lst xs) (.lst ys) = some (.lst (xs ++ ys)) := by
  show (if xs.length + ys.length ≤ sizeLine then some (D.lst (xs ++ ys)) else none) = _
  rw [if_pos (by have := big; omega)]
theorem cut2L {c0 : Nat → List D → M D} {rho : En} {m : Store} {e x : I} {xs : List D} {a : D} {b : List D} (he : (den exm c0 e).v rho m = .ok (.lst (xs ++ a :: b)) m) (hx : (den exm c0 x).v rho m = .ok (dN xs.length) m) (hl : xs.length + b.length ≤ 900) :
    (den exm c0 (.bin .add (.sl e .hole (.prt x)) (.sl e (.prt (.bin .add x (.int 1))) .hole))).v rho m = .ok (.lst (xs ++ b)) m := by
  refine v_bin (v_sl he o_hole (o_prt hx) ?_) (v_sl he (o_prt (v_bin hx v_int rfl)) o_hole ?_) (add_lst (by omega))
  · show some (D.lst (cutL (xs ++ a :: b) none (some (xs.length : Int)))) = _
    rw [cut_to]
  · show some (D.lst (cutL (xs ++ a :: b) (some ((xs.length : Int) + 1)) none)) = _
    rw [show xs ++ a :: b = (xs ++ [a]) ++ b by simp, cut_from _ _ (by rw [List.length_append, List.length_singleton]; omega)]
abbrev bd8 (jini jbg jsp jc jsd jsk jsw jcl jpa jtr jsn jpc jat jnb : Nat) : I := ((law8 jini jbg jsp jc jsd jsk jsw jcl jpa jtr jsn jpc jat jnb).ir.dr 6).hd.fb
section
variable (Hc : Has exm cl jc d__law_cell) (Hsd : Has exm cl jsd d__law_seed) (Hpa : Has exm cl jpa (d_panes jl i.n)) (Hl : Has exm cl jl (d_look i.t xl)) (Hsn : Has exm cl jsn (d_W_shown i.ps)) (Hpc : Has exm cl jpc (d_W_place i.lkp i.ps)) (Hat : Has exm cl jat (d_W_at i.w i.xS i.ps))
variable (Hw : Has exm cl jwo (d_without jus i.pi jwo i.wp i.fm)) (Hus : Has exm cl jus (d_unstacked i.pi)) (Hcl : Has exm cl jcl (d_W_close i.lkp i.tt jwo))
include Hc Hsd Hpa Hl Hsn Hpc Hat Hw Hus Hcl
theorem it8 (P : PrgW exm cl i) (hS : ∀ S L R, Inp S L R → SizeOut S L R (shF S L R)) {k : Nat} (hk : 40 ≤ k) {ns : List Int} {ps : List Pn} {top : Nat} {aft : Int} {N : Nat} {m : Store} (R : Row ps top aft) (st : LSt 300 200 2 (TT ps top) N m) (hN : N ≤ 900) (j : Nat) (hj : j ≤ 1000) (x6 x7 x8 : Option D) :
    ∃ ps' top' aft' m' y6 y7 y8, (den exm (cl k) (bd8 i.ini i.bg i.sp jc jsd i.sk i.sw jcl jpa i.tr jsn jpc jat jnb)).s (E08 ns ps top aft (some (dN j)) x6 x7 x8) m = .nx (E08 ns ps' top' aft' (some (dN j)) y6 y7 y8) m' ∧ Row ps' top' aft' ∧ LSt 300 200 2 (TT ps' top') (N + 1) m' := by
  have l1 := R.l1
  have l6 := R.l6
  have tp := R.tp
  obtain ⟨s, es, s0, s1⟩ := seed_run' Hsd (k := k) (by omega) (cellAt ns (1 + j % 5) + 41 * (j : Int)) (j : Int) m
  have cell := cell_run Hc (k := k) (by omega) ns (1 + j % 5) (1 + (j : Int) % 5) (by omega) m
  have lq : 0 < (ps.length : Int) := by omega
  have bq := mod_b (s / 7) lq
  obtain ⟨a, hae⟩ : ∃ a : Nat, s / 7 % (ps.length : Int) = (a : Int) := ⟨(s / 7 % (ps.length : Int)).toNat, by omega⟩
  have ha : a < ps.length := by omega
  have len : ∀ (qs : List Pn), Bi.sem .len [zL (qs.map (·.1))] = some (.int (qs.length : Int)) := fun qs => by show some (D.int (((qs.map (·.1)).map D.int).length : Int)) = _; rw [List.length_map, List.length_map]
  have hd : ∀ {res : Rs}, (den exm (cl k) ((bd8 i.ini i.bg i.sp jc jsd i.sk i.sw jcl jpa i.tr jsn jpc jat jnb).dr 2)).s (E08 ns ps top aft (some (dN j)) (some (.int s)) (some (dN a)) x8) m = res → (den exm (cl k) (bd8 i.ini i.bg i.sp jc jsd i.sk i.sw jcl jpa i.tr jsn jpc jat jnb)).s (E08 ns ps top aft (some (dN j)) x6 x7 x8) m = res := fun h =>
    r_seq (r_set (v_call (l_cons (v_bin (v_call (l_cons (v_var rfl) (l_cons (v_bin v_int (v_bin (v_var rfl) v_int (modS (by omega))) rfl) l_nil)) cell) (v_bin v_int (v_var rfl) (mulS (.inl (by omega)))) rfl) (l_cons (v_var rfl) l_nil)) es)) (r_seq (r_set (d := dN a) (v_bin (v_bin (v_var rfl) v_int (divS (by omega))) (v_bi (l_cons (v_var rfl) l_nil) (len ps)) (by rw [show dN a = .int (s / 7 % (ps.length : Int)) by rw [hae]]; exact modS lq))) h)
  have ixa : ixD (zL (ps.map (·.1))) (dN a) = some (.int ps[a].1) := by
    show atI ((ps.map (·.1)).map D.int) (a : Int) = _
    rw [at_nat (by rw [List.length_map, List.length_map]; exact ha), List.getElem_map, List.getElem_map]
  have m11 := mod_b (s / 11) (b := 3) (by omega)
  have e11 : ∀ {rho : En} {m : Store} (n : Int), rho[6]? = some (some (.int s)) → (den exm (cl k) (.tcmp .eq (.bin .mod (.bin .div (.var 6) (.int 11)) (.int 3)) (.int n))).b rho m = .ok (s / 11 % 3 == n) m := fun n h => b_cmp (v_bin (v_bin (v_var h) v_int (divS (by omega))) v_int (modS (by omega))) v_int rfl
  obtain ⟨k', rfl⟩ : ∃ k', k = k' + 1 := ⟨k - 1, by omega⟩
  have t1 : (den exm (cl (k' + 1)) (.tand (.tcmp .eq (.bin .mod (.bin .div (.var 6) (.int 11)) (.int 3)) (.int 0)) (.tand (.tcmp .lt (.bi .len (.cons (.var 2) .nil)) (.int 6)) (.tcmp .lt (.var 4) (.int 99))))).b (E08 ns ps top aft (some (dN j)) (some (.int s)) (some (dN a)) x8) m = .ok ((s / 11 % 3 == 0) && (decide ((ps.length : Int) < 6) && decide (aft < 99))) m :=
    b_and (e11 0 rfl) fun _ => b_and (b_cmp (v_bi (l_cons (v_var rfl) l_nil) (len ps)) v_int rfl) fun _ => b_cmp (v_var rfl) v_int rfl
  have fin : ∀ {ps' : List Pn} {top' : Nat} {aft' : Int} {m' : Store} (y7 : Option D), Row ps' top' aft' → LSt 300 200 2 (TT ps' top') (N + 1) m' → (den exm (cl (k' + 1)) (((bd8 i.ini i.bg i.sp jc jsd i.sk i.sw jcl jpa i.tr jsn jpc jat jnb).dr 2).hd)).s (E08 ns ps top aft (some (dN j)) (some (.int s)) (some (dN a)) x8) m = .nx (E08 ns ps' top' aft' (some (dN j)) (some (.int s)) y7 x8) m' →
      ∃ ps' top' aft' m' y6 y7 y8, (den exm (cl (k' + 1)) (bd8 i.ini i.bg i.sp jc jsd i.sk i.sw jcl jpa i.tr jsn jpc jat jnb)).s (E08 ns ps top aft (some (dN j)) x6 x7 x8) m = .nx (E08 ns ps' top' aft' (some (dN j)) y6 y7 y8) m' ∧ Row ps' top' aft' ∧ LSt 300 200 2 (TT ps' top') (N + 1) m' := fun {ps' top' aft' m'} y7 R' st' h => by
    obtain ⟨z, w, V⟩ := mkV8 R' hS
    obtain ⟨hs, us, rfl, hp⟩ := st'
    obtain ⟨y8, e⟩ := chk8 P Hpa Hl Hsn Hpc Hat R' V (k := k' + 1) (by omega) (hs := hs) (us := us) (ns := ns) (x5 := some (dN j)) (x6 := some (.int s)) (x7 := y7) (x8 := x8) (jc := jc) (jsd := jsd) (jcl := jcl) (jnb := jnb)
    exact ⟨ps', top', aft', _, _, _, _, hd (r_seq h e), R', hs, us, rfl, hp⟩
  have m13 := mod_b (s / 13) (b := 9) (by omega)
  have m17 := mod_b (s / 17) (b := 9) (by omega)
  cases c1 : ((s / 11 % 3 == 0) && (decide ((ps.length : Int) < 6) && decide (aft < 99))) with
  | true =>
    rw [Bool.and_eq_true, Bool.and_eq_true, decide_eq_true_eq, decide_eq_true_eq] at c1
    have R' := R.push (by omega) c1.2.2 (w := 1 + s / 13 % 9) (h := 1 + s / 17 % 9) (by omega) (by omega)
    obtain ⟨m', r, st'⟩ := stack8 P R st hN ha R' (k := k') (by omega)
    refine fin (some (dN a)) R' st' (r_ifT t1 (by rw [Bool.and_eq_true, Bool.and_eq_true, decide_eq_true_eq, decide_eq_true_eq]; exact c1) ?_)
    refine r_seq (r_expr (l_meth8 st nf7 (v_var rfl) (l_cons (v_ix (v_var rfl) (v_var rfl) ixa) (l_cons (v_tup (l_cons v_str (l_cons (v_var rfl) (l_cons (v_bin v_int (v_bin (v_bin (v_var rfl) v_int (divS (by omega))) v_int (modS (by omega))) rfl) (l_cons (v_bin v_int (v_bin (v_bin (v_var rfl) v_int (divS (by omega))) v_int (modS (by omega))) rfl) l_nil)))) (nat_le rfl)) l_nil)) r)) ?_
    refine r_seq (m1 := m') (r_set (d := zL ((ps ++ [(aft, 1 + s / 13 % 9, 1 + s / 17 % 9)]).map (·.1))) (v_bin (v_var rfl) (v_lst (l_cons (v_var rfl) l_nil) (nat_le rfl)) ?_)) ?_
    · rw [add_lst (by rw [List.length_map, List.length_map]; show _ + 1 ≤ 1000; omega)]
      show some (D.lst _) = some (D.lst (((ps ++ [(aft, 1 + s / 13 % 9, 1 + s / 17 % 9)]).map (·.1)).map D.int))
      rw [List.map_append, List.map_append]
      rfl
    refine r_seq (r_set (d := dN ps.length) (v_bin (v_bi (l_cons (v_var rfl) l_nil) (len _)) v_int ?_)) ?_
    · show some (D.int (((ps ++ [(aft, 1 + s / 13 % 9, 1 + s / 17 % 9)]).length : Int) - 1)) = some (D.int (ps.length : Int))
      rw [List.length_append, List.length_singleton]
      congr 2
      omega
    exact r_seq (r_aug rfl v_int rfl) r_nil
  | false =>
    by_cases c2 : s / 11 % 3 = 1
    · obtain ⟨m', r, st'⟩ := show8 P R st hN ha (k := k') (by omega)
      refine fin (some (dN a)) (R.show ha) st' (r_ifF t1 c1 (r_seq (r_ifT (e11 1 rfl) (beq_iff_eq.mpr c2) ?_) r_nil))
      exact r_seq (r_expr (l_meth8 st nf8 (v_var rfl) (l_cons (v_ix (v_var rfl) (v_var rfl) ixa) l_nil) r)) (r_seq (r_set (v_var rfl)) r_nil)
    · by_cases c3 : 1 < ps.length
      · obtain ⟨A, q, B, e, hA⟩ := split_at ha
        subst e
        have qa : (A ++ q :: B)[a] = q := by
          subst hA
          simp
        obtain ⟨m', r, st'⟩ := close8 P Hw Hus Hcl R (by omega) st hN (k := k') (by omega)
        rw [qa] at ixa
        refine fin (some (dN a)) (R.off (by omega)) st' (r_ifF t1 c1 (r_seq (r_ifF (e11 1 rfl) (beq_eq_false_iff_ne.mpr c2) (r_seq (r_ifT (b_cmp (v_bi (l_cons (v_var rfl) l_nil) (len _)) v_int rfl) (decide_eq_true (by show ((A ++ q :: B).length : Int) > 1; omega)) ?_) r_nil)) r_nil))
        refine r_seq (r_expr (l_meth8 st nf20 (v_var rfl) (l_cons (v_ix (v_var rfl) (v_var rfl) ixa) l_nil) r)) ?_
        have lA : (A ++ q :: B).length = A.length + (B.length + 1) := by rw [List.length_append, List.length_cons]
        refine r_seq (m1 := m') (r_set (d := zL ((A ++ B).map (·.1))) ?_) ?_
        · show (den exm (cl (k' + 1)) _).v _ m' = .ok (.lst (((A ++ B).map (·.1)).map D.int)) m'
          rw [List.map_append, List.map_append]
          refine cut2L (xs := (A.map (·.1)).map D.int) (a := .int q.1) (b := (B.map (·.1)).map D.int) (v_var ?_) ?_ (by rw [List.length_map, List.length_map, List.length_map, List.length_map]; omega)
          · show some (some (D.lst (((A ++ q :: B).map (·.1)).map D.int))) = _
            rw [List.map_append, List.map_append, List.map_cons, List.map_cons]
          · rw [List.length_map, List.length_map, hA]
            exact v_var rfl
        · refine r_seq (m1 := m') (r_set (d := dN (offT A.length top (A ++ q :: B).length)) ?_) r_nil
          have tt : (den exm (cl (k' + 1)) (.tcmp .lt (.var 7) (.var 3))).b (E08 ns (A ++ B) top aft (some (dN j)) (some (.int s)) (some (dN a)) x8) m' = .ok (decide ((a : Int) < (top : Int))) m' := b_cmp (v_var rfl) (v_var rfl) rfl
          by_cases c4 : A.length < top
          · rw [show dN (offT A.length top (A ++ q :: B).length) = .int ((top : Int) - 1) by
              show D.int ((offT A.length top (A ++ q :: B).length : Nat) : Int) = _
              unfold offT
              rw [if_pos c4]
              congr 1
              omega]
            exact v_ifT tt (decide_eq_true (by omega)) (v_bin (v_var rfl) v_int rfl)
          · rw [show dN (offT A.length top (A ++ q :: B).length) = .int (min (top : Int) (((A ++ B).length : Int) - 1)) by
              show D.int ((offT A.length top (A ++ q :: B).length : Nat) : Int) = _
              unfold offT
              rw [if_neg c4, lA, List.length_append]
              congr 1
              omega]
            exact v_ifF tt (decide_eq_false (by omega)) (v_bi (l_cons (v_var rfl) (l_cons (v_bin (v_bi (l_cons (v_var rfl) l_nil) (len _)) v_int rfl) l_nil)) (min2 _ _))
      · exact fin (some (dN a)) R (by obtain ⟨hs, us, e, hp⟩ := st; exact ⟨hs, us, e, by omega⟩) (r_ifF t1 c1 (r_seq (r_ifF (e11 1 rfl) (beq_eq_false_iff_ne.mpr c2) (r_seq (r_ifF (b_cmp (v_bi (l_cons (v_var rfl) l_nil) (len _)) v_int rfl) (decide_eq_false (by show ¬ (ps.length : Int) > 1; omega)) r_nil) r_nil)) r_nil))
theorem lp8 (P : PrgW exm cl i) (hS : ∀ S L R, Inp S L R → SizeOut S L R (shF S L R)) {k : Nat} (hk : 40 ≤ k) {ns : List Int} : ∀ (ks : List Nat) (ps : List Pn) (top : Nat) (aft : Int) (N : Nat) (m : Store) (x5 x6 x7 x8 : Option D), (∀ j ∈ ks, j ≤ 1000) → Row ps top aft → LSt 300 200 2 (TT ps top) N m → N + ks.length ≤ 900 →
    ∃ ps' top' aft' m' y5 y6 y7 y8, forS (.nm 5) (den exm (cl k) (bd8 i.ini i.bg i.sp jc jsd i.sk i.sw jcl jpa i.tr jsn jpc jat jnb)).s (ks.map dN) (E08 ns ps top aft x5 x6 x7 x8) m = .nx (E08 ns ps' top' aft' y5 y6 y7 y8) m' ∧ Row ps' top' aft' ∧ LSt 300 200 2 (TT ps' top') 900 m'
  | [], ps, top, aft, N, m, x5, x6, x7, x8, _, R, st, hN => ⟨ps, top, aft, m, x5, x6, x7, x8, f_nil, R, by obtain ⟨hs, us, e, hp⟩ := st; exact ⟨hs, us, e, by omega⟩⟩
  | j :: ks, ps, top, aft, N, m, x5, x6, x7, x8, hj, R, st, hN => by
    rw [List.length_cons] at hN
    obtain ⟨ps1, top1, aft1, m1, y6, y7, y8, e, R1, st1⟩ := it8 Hc Hsd Hpa Hl Hsn Hpc Hat Hw Hus Hcl P hS hk (ns := ns) R st (by omega) j (hj j (List.mem_cons_self ..)) x6 x7 x8 (jnb := jnb)
    obtain ⟨ps2, top2, aft2, m2, z5, z6, z7, z8, e2, R2, st2⟩ := lp8 P hS hk (ns := ns) ks ps1 top1 aft1 (N + 1) m1 (some (dN j)) y6 y7 y8 (fun q hq => hj q (List.mem_cons_of_mem _ hq)) R1 st1 (by omega)
    exact ⟨ps2, top2, aft2, m2, z5, z6, z7, z8, f_cons rfl e e2, R2, st2⟩
theorem law08 (P : PrgW exm cl i) (Hnb : Has exm cl jnb (d_W_neighbour i.lkp i.lks jpc i.ps jtc)) (Htc : Has exm cl jtc d_touching) {k : Nat} (hk : 42 ≤ k) (ns : List Int) :
    ∃ m, callF (law8 i.ini i.bg i.sp jc jsd i.sk i.sw jcl jpa i.tr jsn jpc jat jnb).N.length (den exm (cl k) (law8 i.ini i.bg i.sp jc jsd i.sk i.sw jcl jpa i.tr jsn jpc jat jnb).ir).s [.scr ns] [] = .ok (.bl true) m := by
  have hS : ∀ S L R, Inp S L R → SizeOut S L R (shF S L R) := fun S L R h => (shared_run P.h P.sh (k := k) (by omega) (Shs.lst S) h []).2
  have R0 : Row [(0, 1, 1)] 0 1 := ⟨by decide, by decide, by decide, fun p hp => by rw [List.mem_singleton.mp hp]; decide, by decide, by decide⟩
  obtain ⟨bg, gp⟩ := P.begin_any (p := (0, 1, 1)) (by decide) (k := k) (by omega) (W := 300) (H := 200) (g := 2) (by decide) (by decide)
  obtain ⟨k', rfl⟩ : ∃ k', k = k' + 1 := ⟨k - 1, by omega⟩
  obtain ⟨m1, tt, st1⟩ := turn8 P (t := pT (0, 1, 1)) (by show 0 ≤ 10; omega) R0 (k := k') (by omega) (hs := [.non]) (us := []) (N := 1) (Nat.le_refl _) (by omega)
  have sp := P.split_to (t := pT (0, 1, 1)) (n := 0) (kd := true) (bh := true) (p := (99, 2, 2)) gp rfl rfl (by decide) rfl (k := k') (by omega) (W := 300) (H := 200) (g := 2) (ps := [.non]) (us := []) (m' := m1) tt
  have b0 := mod_b (cellAt ns 0) (b := 90) (by omega)
  obtain ⟨r, hr⟩ : ∃ r : Nat, cellAt ns 0 % 90 = (r : Int) := ⟨(cellAt ns 0 % 90).toNat, by omega⟩
  obtain ⟨ps, top, aft, m2, y5, y6, y7, y8, e, R, st⟩ := lp8 Hc Hsd Hpa Hl Hsn Hpc Hat Hw Hus Hcl P hS (k := k' + 1) (by omega) (ns := ns) (jnb := jnb) (List.range r) [(0, 1, 1)] 0 1 2 m1 none none none none (fun j hj => by have := List.mem_range.mp hj; omega) R0 st1 (by rw [List.length_range]; omega)
  obtain ⟨hs, us, rfl, hp⟩ := st
  obtain ⟨z, w, V⟩ := mkV8 R hS
  have tp := R.tp
  have l1 := R.l1
  have z1 := V.z1
  have cell := cell_run Hc (k := k' + 1) (by omega) ns 0 0 rfl m1
  have rg : rng1 [.int (cellAt ns 0 % 90)] = some ((List.range r).map dN) := by rw [hr]; exact rng_of r (by omega)
  have nb1 := vw_nb P V.v (ps := hs) (us := us) Hnb Hpc Htc (k := k' + 1) (by omega) (q := q99 z w) (List.mem_append_right _ (List.mem_cons_self ..)) true false
  have q0m : (((ps[0]'(by omega)).1, 0, 0, z, 200, (((0 : Nat) : Int) == (top : Int))) : Pl) ∈ qsU ps top z ++ [q99 z w] := List.mem_append_left _ (List.mem_map.mpr ⟨(ps[0]'(by omega), 0), by rw [List.mem_zipIdx_iff_getElem?]; exact List.getElem?_eq_getElem (by omega), rfl⟩)
  have nb2 := vw_nb P V.v (ps := hs) (us := us) Hnb Hpc Htc (k := k' + 1) (by omega) q0m true true
  rw [sh_all R] at nb1 nb2
  have pt := R.pb (ps[top]'tp) (List.getElem_mem tp)
  have p0 := R.pb (ps[0]'(by omega)) (List.getElem_mem _)
  have a9 := R.a9
  have f1 : (([((ps[top]'tp).1, 0, 0, z, 200, true), q99 z w] : List Pl).foldl (nbL true false 2 (q99 z w)) (0, none)).2 = some (ps[top]'tp).1 := by
    rw [List.foldl_cons, List.foldl_cons, List.foldl_nil]
    have a : nbL true false 2 (q99 z w) (0, none) ((ps[top]'tp).1, 0, 0, z, 200, true) = (200, some (ps[top]'tp).1) := by
      unfold nbL
      rw [show ((!(((ps[top]'tp).1, 0, 0, z, 200, true) : Pl).1 == (q99 z w).1) && adjB true false 2 (q99 z w) ((ps[top]'tp).1, 0, 0, z, 200, true)) = true by
        show ((!((ps[top]'tp).1 == 99)) && ((0 : Int) + z + 2 == z + 2)) = true
        rw [show ((ps[top]'tp).1 == (99 : Int)) = false from beq_eq_false_iff_ne.mpr (by omega), show ((0 : Int) + z + 2 == z + 2) = true from beq_iff_eq.mpr (by omega)]
        rfl, if_pos rfl]
      rfl
    rw [a]
    show (nbL true false 2 (q99 z w) (200, some (ps[top]'tp).1) (q99 z w)).2 = _
    unfold nbL
    rw [show ((!((q99 z w).1 == (q99 z w).1)) && adjB true false 2 (q99 z w) (q99 z w)) = false by rw [beq_self_eq_true]; rfl]
    rfl
  have f2 : (([((ps[top]'tp).1, 0, 0, z, 200, true), q99 z w] : List Pl).foldl (nbL true true 2 ((ps[0]'(by omega)).1, 0, 0, z, 200, (((0 : Nat) : Int) == (top : Int)))) (0, none)).2 = some 99 := by
    rw [List.foldl_cons, List.foldl_cons, List.foldl_nil]
    have a : nbL true true 2 ((ps[0]'(by omega)).1, 0, 0, z, 200, (((0 : Nat) : Int) == (top : Int))) (0, none) ((ps[top]'tp).1, 0, 0, z, 200, true) = (0, none) := by
      unfold nbL
      rw [show adjB true true 2 ((ps[0]'(by omega)).1, 0, 0, z, 200, (((0 : Nat) : Int) == (top : Int))) ((ps[top]'tp).1, 0, 0, z, 200, true) = false by
        show ((0 : Int) + z + 2 == 0) = false
        exact beq_eq_false_iff_ne.mpr (by omega), Bool.and_false]
      rfl
    rw [a]
    unfold nbL
    rw [show ((!((q99 z w).1 == (((ps[0]'(by omega)).1, 0, 0, z, 200, (((0 : Nat) : Int) == (top : Int))) : Pl).1)) && adjB true true 2 ((ps[0]'(by omega)).1, 0, 0, z, 200, (((0 : Nat) : Int) == (top : Int))) (q99 z w)) = true by
      show ((!((99 : Int) == (ps[0]'(by omega)).1)) && ((0 : Int) + z + 2 == z + 2)) = true
      rw [show ((99 : Int) == (ps[0]'(by omega)).1) = false from beq_eq_false_iff_ne.mpr (by omega), show ((0 : Int) + z + 2 == z + 2) = true from beq_iff_eq.mpr (by omega)]
      rfl, if_pos rfl]
    rfl
  rw [f1] at nb1
  rw [f2] at nb2
  have ixT : ixD (zL (ps.map (·.1))) (dN top) = some (.int (ps[top]'tp).1) := by
    show atI ((ps.map (·.1)).map D.int) (top : Int) = _
    rw [at_nat (by rw [List.length_map, List.length_map]; exact tp), List.getElem_map, List.getElem_map]
  have ix0' : ixD (zL (ps.map (·.1))) (.int 0) = some (.int (ps[0]'(by omega)).1) := by
    show atI ((ps.map (·.1)).map D.int) ((0 : Nat) : Int) = _
    rw [at_nat (by rw [List.length_map, List.length_map]; omega), List.getElem_map, List.getElem_map]
  refine ⟨wS 300 200 2 (TT ps top).d hs us, call_ok (r_seq (r_set (P.make_st (k := k' + 1) (by omega) (by omega) (by omega) (by omega) (l_cons v_int (l_cons v_int (l_cons v_int l_nil))))) (r_seq (r_expr (w_meth nf5 (v_var rfl) (l_cons (v_tup (l_cons v_str (l_cons v_int (l_cons v_int (l_cons v_int l_nil)))) (nat_le rfl)) l_nil) bg)) (r_seq (r_expr (w_meth nf6' (v_var rfl) (l_cons v_int (l_cons v_str (l_cons (v_tup (l_cons v_str (l_cons v_int (l_cons v_int (l_cons v_int l_nil)))) (nat_le rfl)) l_nil))) sp)) (r_seq (r_set (v_lst (l_cons v_int l_nil) (nat_le rfl))) (r_seq (r_set v_int) (r_seq (r_set v_int) (r_seq (f_of (l_rng (l_cons (v_bin (v_call (l_cons (v_var rfl) (l_cons v_int l_nil)) cell) v_int (modS (by omega))) l_nil) rg) e) (r_seqR (r_ret ?_)))))))))⟩
  exact v_andT (k := true) (v_cmp (w_meth nf16 (v_var rfl) (l_cons v_int (l_cons v_str l_nil)) nb1) (v_ix (v_var rfl) (v_var rfl) ixT) (eq_self (d := .int (ps[top]'tp).1) rfl (nat_le rfl))) rfl (v_cmp (w_meth nf16 (v_var rfl) (l_cons (v_ix (v_var rfl) v_int ix0') (l_cons v_str l_nil)) nb2) v_int rfl)
end
end
end PF
namespace PF
open PySem L2
def lvl : Nat := 100
theorem law_true (ns : List Int) (h1 : ns.length ≤ 63) (h2 : ∀ z ∈ ns, Builtin.Int.intBits z ≤ 1048576) : ∃ m, run lawD.exm lawD.fds lvl lawD.law [.scr ns] [] = .ok (.bl true) m := by
  have H := fun (j : Nat) (d : FD) (h : fdsL[j]? = some d) (hj : j < 1000) => has_of (exm := lawD.exm) (fds := fdsL) h hj
  have P : PrgW lawD.exm (run2 lawD.exm fdsL) ⟨1, 2, 3, 4, 5, 6, 12, 13, 14, 15, 16, 17, 18, 9, 10, 11, 19, 20, 21, 22, 23, 26, 27, 28, 29, 30, 31, 32, 33, 34, 39, 41, 45, 46, 1, 2, 3, 5, 6, 4, 7⟩ := ⟨H 1 _ rfl (by decide), H 2 _ rfl (by decide), H 3 _ rfl (by decide), H 4 _ rfl (by decide), H 5 _ rfl (by decide), H 6 _ rfl (by decide), H 12 _ rfl (by decide), H 13 _ rfl (by decide), H 14 _ rfl (by decide), H 15 _ rfl (by decide), H 16 _ rfl (by decide), H 17 _ rfl (by decide), H 18 _ rfl (by decide), H 9 _ rfl (by decide), H 10 _ rfl (by decide), H 11 _ rfl (by decide), H 19 _ rfl (by decide), H 20 _ rfl (by decide), H 21 _ rfl (by decide), H 22 _ rfl (by decide), H 23 _ rfl (by decide), H 26 _ rfl (by decide), H 27 _ rfl (by decide), H 28 _ rfl (by decide), H 29 _ rfl (by decide), H 30 _ rfl (by decide), H 31 _ rfl (by decide), H 32 _ rfl (by decide), H 33 _ rfl (by decide), H 34 _ rfl (by decide), H 39 _ rfl (by decide), H 41 _ rfl (by decide), H 45 _ rfl (by decide), H 46 _ rfl (by decide), fun k => by rw [run2_hi, run2_lo (by decide)]⟩
  show ∃ m, run lawD.exm fdsL (98 + 2) 54 [.scr ns] [] = .ok (.bl true) m
  rw [run_at (d := d_law 27 32 33 52 53 34 39 35 8 45 48 47 49 50) rfl]
  exact law08 (H 52 _ rfl (by decide)) (H 53 _ rfl (by decide)) (H 8 _ rfl (by decide)) (H 7 _ rfl (by decide)) (H 48 _ rfl (by decide)) (H 47 _ rfl (by decide)) (H 49 _ rfl (by decide)) (H 25 _ rfl (by decide)) (H 24 _ rfl (by decide)) (H 35 _ rfl (by decide)) P (H 50 _ rfl (by decide)) (H 51 _ rfl (by decide)) (by decide) ns
end PF
open PySem PySem.W PySem.Calls PyProof.Rows
theorem PySem.Challenge.cw_paneframe_k08_stacks_holds : PySem.Challenge.rw_paneframe_k08_stacks.Holds := by
  w_on; o_law
  refine HandSHeadRun.head_any (r := OpenLaw.row PySem.Challenge.rw_paneframe_k08_stacks) (q := view (OpenLaw.row PySem.Challenge.rw_paneframe_k08_stacks).prog [54]) (H := PF.hk) (ob := PF.ob) (M := 15000) (loose := PF.looseL) (d := HandSHeadRun.topDef (OpenLaw.row PySem.Challenge.rw_paneframe_k08_stacks).prog 54) (kwd := []) PF.ob_eq
    (by kernel_rfl) (fun s => by kernel_rfl) PF.head_run (by kernel_rfl) (by kernel_rfl) (by kernel_rfl) (by rfl) (by first | assumption | decide +kernel) (by decide +kernel) ⟨rfl, rfl, rfl, rfl, rfl, by decide +kernel⟩ ?hw ?hc
  case hw => w_witness2
  case hc =>
    refine LamX.walk_ofTsE (l := PySem.Challenge.rw_paneframe_k08_stacks) (n := 63) (k := PF.lvl) (x := "script") (CX := fun w => L2.CX (PySem.Challenge.rw_paneframe_k08_stacks).prog w) rfl (by decide) (by kernel_rfl) ⟨rfl, by decide, by decide⟩ ?F (fun _ _ _ _ _ ⟨_, _, _, _, _, _, _, _, _, _, _, _, z⟩ => z)
    intro w mg fa h Y G hmg0
    obtain ⟨K, KX, c⟩ := Y
    have hmg : mg ("law" : PySem.Str) = some (.ref fa) := by
      have e : (HandSHeadRun.topDef (OpenLaw.row PySem.Challenge.rw_paneframe_k08_stacks).prog 54).name = ("law" : PySem.Str) := by kernel_rfl
      rw [← e]
      exact hmg0
    exact ⟨K, KX, PF.LawD.at_ PF.lawD PF.lawD_ok KX G c (d := (PF.d_law 27 32 33 52 53 34 39 35 8 45 48 47 49 50)) rfl hmg PF.law_true⟩
